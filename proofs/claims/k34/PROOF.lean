import PyProof.Rows.All
import Wide.All
import OpenK.AllK
import Wide.FinOn
import HandS.ForMost
import HandS.Exc
import HandS.TryOnly
import HandS.ExcOwn
import HandS.WordsExc
import HandS.Flow
import HandS.Defaults
import HandS.Zip
import KE.DataEq
import HandS.TupAny
import HandS.StrMore
import HandS.Replace
import HandS.IsInst
import HandS.Style
import HandS.TupMul
import HandS.Head0
import HandS.Head1
import HandS.Head2
import HandS.HeadEnd
import HandS.HeadHook1
import HandS.HeadHook2
import KE.KRevSl
import HandS.Small
import HandS.Dict
import KE.SortData
import HandS.SortInts
import HandS.Iter
import KE.DataCmp
import KE.KDictCopyH
import KE.KDictSum
import KE.KDictExact
import HandS.More
import HandS.Keys
import PyProof.TupleIter
import PyProof.AttrMissHeap
import PyProof.TupleOfSeq
import PyProof.Claim2Refuses
import KE.DataMinMax
import HandS.Set
import HandS.SetFor
import HandS.SetKeys
import HandS.Strs
import KE.GoesMore
import HandS.DictTup
import HandS.Conv
import HandS.ListItems
import HandS.ReplaceLit
import HandS.TupSets
import HandS.TupLen
import HandS.WordsDict
import PyProof.Rows.StrCase
import PyProof.StrLawsReplace
import PySem.Challenge.RW_pagenames_k34_whole_things_bent

set_option Elab.async false
set_option linter.all false
set_option maxRecDepth 100000
namespace DL
open PySem PySem.Spec PyProof.Rows L2

/-! ## plain values, plain heap -/
inductive D where
  | non | bl (b : Bool) | int (i : Int) | str (s : List Nat) | tup (ds : List D) | ref (n : Nat)
/-- is the empty tuple one whose object is known? -/
def nzE : Bool := true
def firstOf : D → D
  | .tup (k :: _) => k
  | d => d
def isP : D → Bool
  | .tup [_, _] => true
  | _ => false
open Classical in
/-- pairs with unlike first parts: of such tuples the object itself is kept in mind (it has no dict), for dict(t) -/
noncomputable def nz (ds : List D) : Bool := decide ((ds = [] → nzE = true) ∧ (∀ d ∈ ds, isP d = true) ∧ (ds.map firstOf).Nodup)
theorem nz_cons_not {d : D} {ds : List D} (h : isP d = false) : nz (d :: ds) = false := by
  unfold nz
  rw [decide_eq_false_iff_not]
  rintro ⟨_, h2, _⟩
  rw [h2 d (by simp)] at h
  cases h
theorem nz_same {d : D} : nz [d, d] = false := by
  unfold nz
  rw [decide_eq_false_iff_not]
  rintro ⟨_, _, h3⟩
  simp at h3
/-- a tuple on the heap -/
def TupAt (H : Hp) (a : Addr) (vs : List V) (b : Bool) : Prop := (b = true → ∃ o : Obj, o.dict = none ∧ H a = some (.frz o (.tup vs))) ∧ (b = false → H a = some (.tup vs))
theorem TupAt.rd {H : Hp} {a : Addr} {vs : List V} {b : Bool} (t : TupAt H a vs b) : Rd H a (.tup vs) := by
  cases b with
  | true => obtain ⟨o, _, h⟩ := t.1 rfl; exact .inr ⟨o, h⟩
  | false => exact .of (t.2 rfl)
theorem TupAt.sq {K : PySem.W.Frag} {H : Hp} {a : Addr} {vs : List V} {b : Bool} (t : TupAt H a vs b) : SqT K H a vs := .inl t.rd
theorem TupAt.keep {H H' : Hp} {a : Addr} {vs : List V} {b : Bool} (t : TupAt H a vs b) (h1 : H a = some (.tup vs) → H' a = some (.tup vs)) (h2 : ∀ o, H a = some (.frz o (.tup vs)) → H' a = some (.frz o (.tup vs))) : TupAt H' a vs b :=
  ⟨fun e => let ⟨o, d, h⟩ := t.1 e; ⟨o, d, h2 o h⟩, fun e => h1 (t.2 e)⟩
theorem TupAt.ex {H : Hp} {a : Addr} {vs : List V} {b : Bool} (t : TupAt H a vs b) : ∃ u, H a = Option.some u := by
  cases b with
  | true => obtain ⟨o, _, h⟩ := t.1 rfl; exact ⟨_, h⟩
  | false => exact ⟨_, t.2 rfl⟩
theorem TupAt.ofF {H : Hp} {a : Addr} {vs : List V} {b : Bool} (e : b = false) (h : H a = some (.tup vs)) : TupAt H a vs b := ⟨fun z => by (rw [e] at z; cases z), fun _ => h⟩
theorem TupAt.ofT {H : Hp} {a : Addr} {vs : List V} {b : Bool} {o : Obj} (e : b = true) (d : o.dict = none) (h : H a = some (.frz o (.tup vs))) : TupAt H a vs b := ⟨fun _ => ⟨o, d, h⟩, fun z => by (rw [e] at z; cases z)⟩
inductive O where
  | lst (ds : List D) | scr (ds : List D) | dct (kvs : List (D × D)) | dcT (kvs : List (D × D)) | lck (kvs : List (D × D)) | lcT (kvs : List (D × D)) | ins (C : Str) (fs : List (Str × D))
abbrev AH := List O
inductive R where
  | ok (d : D) (h : AH) | exc (x : Str) (h : AH) | bad
abbrev Lc := List (Option D)
inductive RS where
  | nx (l : Lc) (h : AH) | rt (d : D) (h : AH) | bk (l : Lc) (h : AH) | ct (l : Lc) (h : AH) | exc (x : Str) (l : Lc) (h : AH) | bad
inductive RA where
  | ok (ds : List D) (h : AH) | exc (x : Str) (h : AH) | bad
inductive RT where
  | ok (b : Bool) (h : AH) | exc (x : Str) (h : AH) | bad
abbrev SE := Lc → AH → R
abbrev SA := Lc → AH → RA
abbrev SB := Lc → AH → RT
abbrev SS := Lc → AH → RS
abbrev Fn := List D → AH → R

abbrev S (l : List Nat) : Str := ⟨l.toArray⟩
theorem S_toList (x : Str) : S x.cps.toList = x := by cases x; simp [S]
theorem S_cps (l : List Nat) : (S l).cps.toList = l := rfl
theorem S_inj {a b : List Nat} (h : S a = S b) : a = b := by
  have := congrArg (fun x : Str => x.cps.toList) h
  simpa using this

section
variable (K : PySem.W.Frag) (mg : Str → Option Value)
mutual
def RelD (η : Nat → Addr) (N : Nat) (H : Hp) : D → V → Prop
  | .non, v => v = .non
  | .bl b, v => v = .bl b
  | .int i, v => v = .int i
  | .str s, v => v = .str (S s)
  | .tup ds, v => ∃ a vs, v = .ref a ∧ TupAt H a vs (nz ds) ∧ RelDs η N H ds vs
  | .ref n, v => n < N ∧ v = .ref (η n)
def RelDs (η : Nat → Addr) (N : Nat) (H : Hp) : List D → List V → Prop
  | [], vs => vs = []
  | d :: ds, vs => ∃ v r, vs = v :: r ∧ RelD η N H d v ∧ RelDs η N H ds r
end
/-- pairs of a dict, keys ints and texts -/
def RelK (η : Nat → Addr) (N : Nat) (H : Hp) : List (D × D) → List (Key × V) → Prop
  | [], kvs => kvs = []
  | (k, d) :: ds, kvs => ∃ q v r, kvs = (q, v) :: r ∧ RelD η N H k (kV q) ∧ RelD η N H d v ∧ RelK η N H ds r
/-- a tuple of ints and texts -/
def keyD : Key → D
  | .inl i => .int i
  | .inr x => .str x.cps.toList
def RelT (η : Nat → Addr) (N : Nat) (H : Hp) : List (D × D) → List (List Key × V) → Prop
  | [], kvs => kvs = []
  | (k, d) :: ds, kvs => ∃ q v r, kvs = (q, v) :: r ∧ (k = .tup (q.map keyD) ∧ nz (q.map keyD) = false) ∧ RelD η N H d v ∧ RelT η N H ds r
def RelF (η : Nat → Addr) (N : Nat) (H : Hp) : List (Str × D) → List (Str × V) → Prop
  | [], fs => fs = []
  | (x, d) :: ds, fs => ∃ v r, fs = (x, v) :: r ∧ RelD η N H d v ∧ RelF η N H ds r
def RelO (η : Nat → Addr) (N : Nat) (H : Hp) (a : Addr) : O → Prop
  | .lst ds => ∃ vs, H a = some (.lst vs) ∧ RelDs η N H ds vs
  | .scr ds => ∃ vs, RelDs η N H ds vs ∧ ((∃ ob, H a = some (.frz ob (.lst vs))) ∨ ∃ (o : Obj) (its : Array Value) (n : Nat), K.lookup a = some o ∧ o.cls = .type "list" ∧ o.dict = none ∧ o.data = .seq its n ∧ its.size ≤ sizeLine ∧ Vals vs its.toList)
  | .dct kvs => ∃ ks, H a = some (.dK ks) ∧ RelK η N H kvs ks
  | .dcT kvs => ∃ ks, H a = some (.dT ks) ∧ RelT η N H kvs ks
  | .lck kvs => ∃ ob ks, H a = some (.frz ob (.dK ks)) ∧ RelK η N H kvs ks
  | .lcT kvs => ∃ ob ks, H a = some (.frz ob (.dT ks)) ∧ RelT η N H kvs ks
  | .ins C fs => ∃ c dx vs, mg C = some (.ref c) ∧ H a = some (.ins c dx vs) ∧ RelF η N H fs vs
def isScr : O → Bool
  | .scr _ => true
  | _ => false
structure RelH (η : Nat → Addr) (ah : AH) (H : Hp) : Prop where
  obj : ∀ n o, ah[n]? = some o → RelO K mg η ah.length H (η n) o
  inj : ∀ m n om on, ah[m]? = some om → ah[n]? = some on → isScr om = false → isScr on = false → η m = η n → m = n
end
/-- what comes later -/
structure Ext0 (η : Nat → Addr) (N : Nat) (H : Hp) (η' : Nat → Addr) (N' : Nat) (H' : Hp) : Prop where
  n : N ≤ N'
  eta : ∀ n, n < N → η' n = η n
  st : ∀ a vs b, TupAt H a vs b → TupAt H' a vs b
/-- .. what is known to its object stays so -/
structure Ext (η : Nat → Addr) (N : Nat) (H : Hp) (η' : Nat → Addr) (N' : Nat) (H' : Hp) : Prop extends Ext0 η N H η' N' H' where
  fz : ∀ a o u, H a = some (.frz o u) → H' a = some (.frz o u)
section
variable {K : PySem.W.Frag} {mg : Str → Option Value} {η η' η2 : Nat → Addr} {N N' N2 : Nat} {H H' H2 : Hp}
theorem Ext.refl : Ext η N H η N H := ⟨⟨Nat.le_refl _, fun _ _ => rfl, fun _ _ _ h => h⟩, fun _ _ _ h => h⟩
theorem Ext.trans (a : Ext η N H η' N' H') (b : Ext η' N' H' η2 N2 H2) : Ext η N H η2 N2 H2 :=
  ⟨⟨Nat.le_trans a.n b.n, fun n h => (b.eta n (Nat.lt_of_lt_of_le h a.n)).trans (a.eta n h), fun c vs z h => b.st c vs z (a.st c vs z h)⟩, fun c o u h => b.fz c o u (a.fz c o u h)⟩
mutual
theorem RelD.ext0 (e : Ext0 η N H η' N' H') : ∀ (d : D) (v : V), RelD η N H d v → RelD η' N' H' d v
  | .non, _, h => h
  | .bl _, _, h => h
  | .int _, _, h => h
  | .str _, _, h => h
  | .tup ds, _, h => by
    obtain ⟨a, vs, e1, e2, e3⟩ := h
    exact ⟨a, vs, e1, e.st _ _ _ e2, RelDs.ext0 e ds vs e3⟩
  | .ref n, _, h => by
    obtain ⟨h1, h2⟩ := h
    exact ⟨Nat.lt_of_lt_of_le h1 e.n, by rw [e.eta n h1]; exact h2⟩
theorem RelDs.ext0 (e : Ext0 η N H η' N' H') : ∀ (ds : List D) (vs : List V), RelDs η N H ds vs → RelDs η' N' H' ds vs
  | [], _, h => h
  | d :: ds, _, h => by
    obtain ⟨v, r, e1, e2, e3⟩ := h
    exact ⟨v, r, e1, RelD.ext0 e d v e2, RelDs.ext0 e ds r e3⟩
end
theorem RelK.ext0 (e : Ext0 η N H η' N' H') : ∀ (ds : List (D × D)) (vs : List (Key × V)), RelK η N H ds vs → RelK η' N' H' ds vs
  | [], _, h => h
  | (k, d) :: ds, _, h => by
    obtain ⟨q, v, r, e1, e2, e3, e4⟩ := h
    exact ⟨q, v, r, e1, RelD.ext0 e _ _ e2, RelD.ext0 e _ _ e3, RelK.ext0 e ds r e4⟩
theorem RelT.ext0 (e : Ext0 η N H η' N' H') : ∀ (ds : List (D × D)) (vs : List (List Key × V)), RelT η N H ds vs → RelT η' N' H' ds vs
  | [], _, h => h
  | (k, d) :: ds, _, h => by
    obtain ⟨q, v, r, e1, e2, e3, e4⟩ := h
    exact ⟨q, v, r, e1, e2, RelD.ext0 e _ _ e3, RelT.ext0 e ds r e4⟩
theorem RelF.ext0 (e : Ext0 η N H η' N' H') : ∀ (ds : List (Str × D)) (vs : List (Str × V)), RelF η N H ds vs → RelF η' N' H' ds vs
  | [], _, h => h
  | (x, d) :: ds, _, h => by
    obtain ⟨v, r, e1, e2, e3⟩ := h
    exact ⟨v, r, e1, RelD.ext0 e _ _ e2, RelF.ext0 e ds r e3⟩
theorem RelO.ext0 (e : Ext0 η N H η' N' H') {a : Addr} (ka : ∀ u, H a = some u → H' a = some u) : ∀ (o : O), RelO K mg η N H a o → RelO K mg η' N' H' a o
  | .lst ds, h => by
    obtain ⟨vs, h1, h2⟩ := h
    exact ⟨vs, ka _ h1, RelDs.ext0 e _ _ h2⟩
  | .scr ds, h => by
    obtain ⟨vs, h1, ⟨ob, h2⟩ | h2⟩ := h
    · exact ⟨vs, RelDs.ext0 e _ _ h1, .inl ⟨ob, ka _ h2⟩⟩
    · exact ⟨vs, RelDs.ext0 e _ _ h1, .inr h2⟩
  | .dct kvs, h => by
    obtain ⟨ks, h1, h2⟩ := h
    exact ⟨ks, ka _ h1, RelK.ext0 e _ _ h2⟩
  | .dcT kvs, h => by
    obtain ⟨ks, h1, h2⟩ := h
    exact ⟨ks, ka _ h1, RelT.ext0 e _ _ h2⟩
  | .lck kvs, h => by
    obtain ⟨ob, ks, h1, h2⟩ := h
    exact ⟨ob, ks, ka _ h1, RelK.ext0 e _ _ h2⟩
  | .lcT kvs, h => by
    obtain ⟨ob, ks, h1, h2⟩ := h
    exact ⟨ob, ks, ka _ h1, RelT.ext0 e _ _ h2⟩
  | .ins C fs, h => by
    obtain ⟨c, dx, vs, h1, h2, h3⟩ := h
    exact ⟨c, dx, vs, h1, ka _ h2, RelF.ext0 e _ _ h3⟩
theorem RelD.ext (e : Ext η N H η' N' H') (d : D) (v : V) (h : RelD η N H d v) : RelD η' N' H' d v := RelD.ext0 e.toExt0 d v h
theorem RelDs.ext (e : Ext η N H η' N' H') (ds : List D) (vs : List V) (h : RelDs η N H ds vs) : RelDs η' N' H' ds vs := RelDs.ext0 e.toExt0 ds vs h
theorem RelK.ext (e : Ext η N H η' N' H') (ds : List (D × D)) (vs : List (Key × V)) (h : RelK η N H ds vs) : RelK η' N' H' ds vs := RelK.ext0 e.toExt0 ds vs h
theorem RelT.ext (e : Ext η N H η' N' H') (ds : List (D × D)) (vs : List (List Key × V)) (h : RelT η N H ds vs) : RelT η' N' H' ds vs := RelT.ext0 e.toExt0 ds vs h
theorem RelF.ext (e : Ext η N H η' N' H') (ds : List (Str × D)) (vs : List (Str × V)) (h : RelF η N H ds vs) : RelF η' N' H' ds vs := RelF.ext0 e.toExt0 ds vs h
theorem RelO.ext (e : Ext η N H η' N' H') {a : Addr} (ka : ∀ u, H a = some u → H' a = some u) (o : O) (h : RelO K mg η N H a o) : RelO K mg η' N' H' a o := RelO.ext0 e.toExt0 ka o h
def isLck : O → Bool
  | .lck _ => true
  | .lcT _ => true
  | _ => false
/-- a related object is tracked, or it is the script -/
theorem RelO.some {a : Addr} {o : O} (h : RelO K mg η N H a o) (hs : isScr o = false) : ∃ u, H a = Option.some u ∧ (∀ vs, u ≠ .tup vs) ∧ ∀ ob vs, u ≠ .frz ob (.tup vs) := by
  cases o with
  | lst ds => obtain ⟨vs, h1, _⟩ := h; exact ⟨_, h1, (fun _ z => by cases z), fun _ _ z => by cases z⟩
  | scr ds => cases hs
  | dct kvs => obtain ⟨ks, h1, _⟩ := h; exact ⟨_, h1, (fun _ z => by cases z), fun _ _ z => by cases z⟩
  | dcT kvs => obtain ⟨ks, h1, _⟩ := h; exact ⟨_, h1, (fun _ z => by cases z), fun _ _ z => by cases z⟩
  | lck kvs => obtain ⟨ob, ks, h1, _⟩ := h; exact ⟨_, h1, (fun _ z => by cases z), fun _ _ z => by cases z⟩
  | lcT kvs => obtain ⟨ob, ks, h1, _⟩ := h; exact ⟨_, h1, (fun _ z => by cases z), fun _ _ z => by cases z⟩
  | ins C fs => obtain ⟨c, dx, vs, _, h1, _⟩ := h; exact ⟨_, h1, (fun _ z => by cases z), fun _ _ z => by cases z⟩
theorem RelDs.length : ∀ {ds : List D} {vs : List V}, RelDs η N H ds vs → vs.length = ds.length
  | [], _, h => by rw [show _ = [] from h]; rfl
  | d :: ds, _, h => by
    obtain ⟨v, r, rfl, _, h3⟩ := h
    simp [RelDs.length h3]
theorem RelDs.get : ∀ {ds : List D} {vs : List V} {i : Nat} {d : D}, RelDs η N H ds vs → ds[i]? = some d → ∃ v, vs[i]? = some v ∧ RelD η N H d v
  | [], _, _, _, _, e => by simp at e
  | d :: ds, _, 0, _, h, e => by
    obtain ⟨v, r, rfl, h2, _⟩ := h
    cases e
    exact ⟨v, rfl, h2⟩
  | d :: ds, _, i + 1, x, h, e => by
    obtain ⟨v, r, rfl, _, h3⟩ := h
    exact RelDs.get (i := i) h3 (by simpa using e)
theorem RelDs.append : ∀ {ds es : List D} {vs ws : List V}, RelDs η N H ds vs → RelDs η N H es ws → RelDs η N H (ds ++ es) (vs ++ ws)
  | [], _, _, _, h, k => by rw [show _ = [] from h]; exact k
  | d :: ds, _, _, _, h, k => by
    obtain ⟨v, r, rfl, h2, h3⟩ := h
    exact ⟨v, _, rfl, h2, RelDs.append h3 k⟩
theorem RelDs.take : ∀ {ds : List D} {vs : List V} (n : Nat), RelDs η N H ds vs → RelDs η N H (ds.take n) (vs.take n)
  | ds, vs, 0, h => by simp [RelDs]
  | [], _, n + 1, h => by rw [show _ = [] from h]; rfl
  | d :: ds, _, n + 1, h => by
    obtain ⟨v, r, rfl, h2, h3⟩ := h
    exact ⟨v, _, rfl, h2, RelDs.take n h3⟩
theorem RelDs.drop : ∀ {ds : List D} {vs : List V} (n : Nat), RelDs η N H ds vs → RelDs η N H (ds.drop n) (vs.drop n)
  | ds, vs, 0, h => by simpa using h
  | [], _, n + 1, h => by rw [show _ = [] from h]; rfl
  | d :: ds, _, n + 1, h => by
    obtain ⟨v, r, rfl, h2, h3⟩ := h
    exact RelDs.drop n h3
theorem RelDs.one {ds : List D} {v : V} (h : RelDs η N H ds [v]) : ∃ d, ds = [d] ∧ RelD η N H d v := by
  match ds, h with
  | [], h => cases (show [v] = [] from h)
  | [d], h =>
    obtain ⟨w, r, e, h2, _⟩ := h
    cases e
    exact ⟨d, rfl, h2⟩
  | _ :: _ :: _, h =>
    obtain ⟨w, r, e, _, w2, r2, e2, _⟩ := h
    cases e
    cases e2
theorem RelDs.of_get : ∀ {ds : List D} {vs : List V}, vs.length = ds.length → (∀ (i : Nat) (d : D) (v : V), ds[i]? = some d → vs[i]? = some v → RelD η N H d v) → RelDs η N H ds vs
  | [], [], _, _ => rfl
  | [], _ :: _, e, _ => by simp at e
  | d :: ds, [], e, _ => by simp at e
  | d :: ds, v :: vs, e, h => ⟨v, vs, rfl, h 0 d v rfl rfl, RelDs.of_get (by simpa using e) fun i d' v' h1 h2 => h (i + 1) d' v' (by simpa using h1) (by simpa using h2)⟩

mutual
def D.bel (n : Nat) : D → Bool
  | .ref m => decide (m < n)
  | .tup ds => D.bels n ds
  | _ => true
def D.bels (n : Nat) : List D → Bool
  | [] => true
  | d :: ds => D.bel n d && D.bels n ds
end
mutual
theorem RelD.bel : ∀ (d : D) (v : V), RelD η N H d v → d.bel N = true
  | .non, _, _ => rfl
  | .bl _, _, _ => rfl
  | .int _, _, _ => rfl
  | .str _, _, _ => rfl
  | .tup ds, _, h => by
    obtain ⟨a, vs, e1, e2, e3⟩ := h
    exact RelDs.bel ds vs e3
  | .ref n, _, h => by
    simp only [D.bel, decide_eq_true_eq]
    exact h.1
theorem RelDs.bel : ∀ (ds : List D) (vs : List V), RelDs η N H ds vs → D.bels N ds = true
  | [], _, _ => rfl
  | d :: ds, _, h => by
    obtain ⟨v, r, e1, e2, e3⟩ := h
    simp only [D.bels, Bool.and_eq_true]
    exact ⟨RelD.bel d v e2, RelDs.bel ds r e3⟩
end
mutual
theorem RelD.cut {M : Nat} : ∀ (d : D) (v : V), RelD η N H d v → d.bel M = true → RelD η M H d v
  | .non, _, h, _ => h
  | .bl _, _, h, _ => h
  | .int _, _, h, _ => h
  | .str _, _, h, _ => h
  | .tup ds, _, h, b => by
    obtain ⟨a, vs, e1, e2, e3⟩ := h
    exact ⟨a, vs, e1, e2, RelDs.cut ds vs e3 b⟩
  | .ref n, _, h, b => by
    simp only [D.bel, decide_eq_true_eq] at b
    exact ⟨b, h.2⟩
theorem RelDs.cut {M : Nat} : ∀ (ds : List D) (vs : List V), RelDs η N H ds vs → D.bels M ds = true → RelDs η M H ds vs
  | [], _, h, _ => h
  | d :: ds, _, h, b => by
    obtain ⟨v, r, e1, e2, e3⟩ := h
    simp only [D.bels, Bool.and_eq_true] at b
    exact ⟨v, r, e1, RelD.cut d v e2 b.1, RelDs.cut ds r e3 b.2⟩
end
def bKV (n : Nat) (kvs : List (D × D)) : Bool := kvs.all fun p => p.1.bel n && p.2.bel n
def bF (n : Nat) (fs : List (Str × D)) : Bool := fs.all fun p => p.2.bel n
def O.bel (n : Nat) : O → Bool
  | .lst ds => D.bels n ds
  | .scr ds => D.bels n ds
  | .dct kvs => bKV n kvs
  | .dcT kvs => bKV n kvs
  | .lck kvs => bKV n kvs
  | .lcT kvs => bKV n kvs
  | .ins _ fs => bF n fs
theorem key_below {n : Nat} (q : List Key) : D.bels n (q.map keyD) = true := by
  induction q with
  | nil => rfl
  | cons a r ih =>
    simp only [List.map_cons, D.bels, Bool.and_eq_true]
    refine ⟨?_, ih⟩
    cases a <;> rfl
theorem RelK.bel : ∀ (ds : List (D × D)) (vs : List (Key × V)), RelK η N H ds vs → bKV N ds = true
  | [], _, _ => rfl
  | (k, d) :: ds, _, h => by
    obtain ⟨q, v, r, e1, e2, e3, e4⟩ := h
    have := RelK.bel ds r e4
    simp only [bKV, List.all_cons, Bool.and_eq_true] at this ⊢
    exact ⟨⟨RelD.bel _ _ e2, RelD.bel _ _ e3⟩, this⟩
theorem RelT.bel : ∀ (ds : List (D × D)) (vs : List (List Key × V)), RelT η N H ds vs → bKV N ds = true
  | [], _, _ => rfl
  | (k, d) :: ds, _, h => by
    obtain ⟨q, v, r, e1, e2, e3, e4⟩ := h
    have := RelT.bel ds r e4
    simp only [bKV, List.all_cons, Bool.and_eq_true] at this ⊢
    obtain ⟨e2, _⟩ := e2
    subst e2
    exact ⟨⟨key_below q, RelD.bel _ _ e3⟩, this⟩
theorem RelF.bel : ∀ (ds : List (Str × D)) (vs : List (Str × V)), RelF η N H ds vs → bF N ds = true
  | [], _, _ => rfl
  | (k, d) :: ds, _, h => by
    obtain ⟨v, r, e1, e2, e3⟩ := h
    have := RelF.bel ds r e3
    simp only [bF, List.all_cons, Bool.and_eq_true] at this ⊢
    exact ⟨RelD.bel _ _ e2, this⟩
theorem RelK.cut {M : Nat} : ∀ (ds : List (D × D)) (vs : List (Key × V)), RelK η N H ds vs → bKV M ds = true → RelK η M H ds vs
  | [], _, h, _ => h
  | (k, d) :: ds, _, h, b => by
    obtain ⟨q, v, r, e1, e2, e3, e4⟩ := h
    simp only [bKV, List.all_cons, Bool.and_eq_true] at b
    exact ⟨q, v, r, e1, RelD.cut _ _ e2 b.1.1, RelD.cut _ _ e3 b.1.2, RelK.cut ds r e4 b.2⟩
theorem RelT.cut {M : Nat} : ∀ (ds : List (D × D)) (vs : List (List Key × V)), RelT η N H ds vs → bKV M ds = true → RelT η M H ds vs
  | [], _, h, _ => h
  | (k, d) :: ds, _, h, b => by
    obtain ⟨q, v, r, e1, e2, e3, e4⟩ := h
    simp only [bKV, List.all_cons, Bool.and_eq_true] at b
    exact ⟨q, v, r, e1, e2, RelD.cut _ _ e3 b.1.2, RelT.cut ds r e4 b.2⟩
theorem RelF.cut {M : Nat} : ∀ (ds : List (Str × D)) (vs : List (Str × V)), RelF η N H ds vs → bF M ds = true → RelF η M H ds vs
  | [], _, h, _ => h
  | (k, d) :: ds, _, h, b => by
    obtain ⟨v, r, e1, e2, e3⟩ := h
    simp only [bF, List.all_cons, Bool.and_eq_true] at b
    exact ⟨v, r, e1, RelD.cut _ _ e2 b.1, RelF.cut ds r e3 b.2⟩
theorem RelO.bel {a : Addr} {o : O} (h : RelO K mg η N H a o) : o.bel N = true := by
  cases o with
  | lst ds => obtain ⟨vs, _, h2⟩ := h; exact RelDs.bel _ _ h2
  | scr ds => obtain ⟨vs, h2, _⟩ := h; exact RelDs.bel _ _ h2
  | dct kvs => obtain ⟨ks, _, h2⟩ := h; exact RelK.bel _ _ h2
  | dcT kvs => obtain ⟨ks, _, h2⟩ := h; exact RelT.bel _ _ h2
  | lck kvs => obtain ⟨ob, ks, _, h2⟩ := h; exact RelK.bel _ _ h2
  | lcT kvs => obtain ⟨ob, ks, _, h2⟩ := h; exact RelT.bel _ _ h2
  | ins C fs => obtain ⟨c, dx, vs, _, _, h2⟩ := h; exact RelF.bel _ _ h2
theorem RelO.cut {M : Nat} {a : Addr} {o : O} (h : RelO K mg η N H a o) (b : o.bel M = true) : RelO K mg η M H a o := by
  cases o with
  | lst ds => obtain ⟨vs, h1, h2⟩ := h; exact ⟨vs, h1, RelDs.cut _ _ h2 b⟩
  | scr ds => obtain ⟨vs, h2, h1⟩ := h; exact ⟨vs, RelDs.cut _ _ h2 b, h1⟩
  | dct kvs => obtain ⟨ks, h1, h2⟩ := h; exact ⟨ks, h1, RelK.cut _ _ h2 b⟩
  | dcT kvs => obtain ⟨ks, h1, h2⟩ := h; exact ⟨ks, h1, RelT.cut _ _ h2 b⟩
  | lck kvs => obtain ⟨ob, ks, h1, h2⟩ := h; exact ⟨ob, ks, h1, RelK.cut _ _ h2 b⟩
  | lcT kvs => obtain ⟨ob, ks, h1, h2⟩ := h; exact ⟨ob, ks, h1, RelT.cut _ _ h2 b⟩
  | ins C fs => obtain ⟨c, dx, vs, h0, h1, h2⟩ := h; exact ⟨c, dx, vs, h0, h1, RelF.cut _ _ h2 b⟩

/-! ## new objects, written ones -/
def etaN (η : Nat → Addr) (N : Nat) (p : Addr) : Nat → Addr := fun n => if n = N then p else η n
theorem etaN_lt {p : Addr} {n : Nat} (h : n < N) : etaN η N p n = η n := by unfold etaN; rw [if_neg (Nat.ne_of_lt h)]
theorem etaN_at {p : Addr} : etaN η N p N = p := by unfold etaN; rw [if_pos rfl]
theorem ext_new {p : Addr} {u : HO} (hp : H p = none) : Ext η N H (etaN η N p) (N + 1) (upd H p u) :=
  ⟨⟨Nat.le_succ _, fun n h => etaN_lt h, fun a vs b h => h.keep (fun h => by rw [upd_ne (ne_of_none h hp)]; exact h) fun o h => by rw [upd_ne (ne_of_none h hp)]; exact h⟩, fun a o u h => by rw [upd_ne (ne_of_none h hp)]; exact h⟩
/-- only tuples are new -/
theorem ext_tup {p : Addr} {u : HO} (hp : H p = none) : Ext η N H η N (upd H p u) :=
  ⟨⟨Nat.le_refl _, fun n h => rfl, fun a vs b h => h.keep (fun h => by rw [upd_ne (ne_of_none h hp)]; exact h) fun o h => by rw [upd_ne (ne_of_none h hp)]; exact h⟩, fun a o u h => by rw [upd_ne (ne_of_none h hp)]; exact h⟩
theorem relH_new {ah : AH} {p : Addr} {u : HO} {o : O} (h : RelH K mg η ah H) (hp : H p = none) (hs : isScr o = false)
    (ho : RelO K mg (etaN η ah.length p) (ah.length + 1) (upd H p u) p o) : RelH K mg (etaN η ah.length p) (ah ++ [o]) (upd H p u) := by
  have hl : (ah ++ [o]).length = ah.length + 1 := by simp
  have getE : ∀ n q, (ah ++ [o])[n]? = some q → (n < ah.length ∧ ah[n]? = some q) ∨ (n = ah.length ∧ q = o) := fun n q e => by
    by_cases hn : n < ah.length
    · rw [List.getElem?_append_left hn] at e
      exact .inl ⟨hn, e⟩
    · have hn' : n < ah.length + 1 := by rw [← hl]; exact (List.getElem?_eq_some_iff.mp e).1
      have : n = ah.length := by omega
      subst this
      rw [List.getElem?_append_right (Nat.le_refl _), Nat.sub_self] at e
      cases e
      exact .inr ⟨rfl, rfl⟩
  refine ⟨fun n q e => ?_, fun m n om on e1 e2 s1 s2 heq => ?_⟩
  · rw [hl]
    rcases getE n q e with ⟨hn, e⟩ | ⟨rfl, rfl⟩
    · rw [etaN_lt hn]
      exact (h.obj n q e).ext (ext_new hp) fun w hw => by rw [upd_ne (ne_of_none hw hp)]; exact hw
    · rw [etaN_at]; exact ho
  · rcases getE m om e1 with ⟨hm, f1⟩ | ⟨rfl, rfl⟩
    · rcases getE n on e2 with ⟨hn, f2⟩ | ⟨rfl, rfl⟩
      · rw [etaN_lt hm, etaN_lt hn] at heq
        exact h.inj m n om on f1 f2 s1 s2 heq
      · rw [etaN_lt hm, etaN_at] at heq
        obtain ⟨w, hw, _⟩ := (h.obj m om f1).some s1
        rw [heq, hp] at hw
        cases hw
    · rcases getE n on e2 with ⟨hn, f2⟩ | ⟨rfl, rfl⟩
      · rw [etaN_lt hn, etaN_at] at heq
        obtain ⟨w, hw, _⟩ := (h.obj n on f2).some s2
        rw [← heq, hp] at hw
        cases hw
      · rfl
theorem relH_tup {ah : AH} {p : Addr} {u : HO} (h : RelH K mg η ah H) (hp : H p = none) : RelH K mg η ah (upd H p u) :=
  ⟨fun n q e => (h.obj n q e).ext (ext_tup hp) fun w hw => by rw [upd_ne (ne_of_none hw hp)]; exact hw, h.inj⟩
theorem ext_set0 {ah : AH} {n : Nat} {o : O} {u : HO} (h : RelH K mg η ah H) (e : ah[n]? = some o) (hs : isScr o = false) : Ext0 η N H η N (upd H (η n) u) :=
  ⟨Nat.le_refl _, fun _ _ => rfl, fun a vs b q => by
    obtain ⟨w, hw, nt, nf⟩ := (h.obj n o e).some hs
    refine q.keep (fun q => ?_) fun ob q => ?_
    · have hne : a ≠ η n := fun z => by
        rw [← z, q] at hw
        cases hw
        exact nt vs rfl
      rw [upd_ne hne]; exact q
    · have hne : a ≠ η n := fun z => by
        rw [← z, q] at hw
        cases hw
        exact nf ob vs rfl
      rw [upd_ne hne]; exact q⟩
theorem ext_set {ah : AH} {n : Nat} {o : O} {u : HO} (h : RelH K mg η ah H) (e : ah[n]? = some o) (hs : isScr o = false) (hl : isLck o = false := by rfl) : Ext η N H η N (upd H (η n) u) :=
  ⟨ext_set0 h e hs, fun a ob w q => by
    have hne : a ≠ η n := fun z => by
      have x := h.obj n o e
      rw [z] at q
      cases o with
      | lst ds => obtain ⟨vs, h1, _⟩ := x; rw [h1] at q; cases q
      | scr ds => cases hs
      | dct kvs => obtain ⟨vs, h1, _⟩ := x; rw [h1] at q; cases q
      | dcT kvs => obtain ⟨vs, h1, _⟩ := x; rw [h1] at q; cases q
      | lck kvs => cases hl
      | lcT kvs => cases hl
      | ins C fs => obtain ⟨c, dx, vs, _, h1, _⟩ := x; rw [h1] at q; cases q
    rw [upd_ne hne]; exact q⟩
theorem relH_set {ah : AH} {n : Nat} {o o' : O} {u : HO} (h : RelH K mg η ah H) (e : ah[n]? = some o) (hs : isScr o = false) (hs' : isScr o' = false)
    (nf : ∀ ob w, H (η n) ≠ some (.frz ob (.lst w))) (ho : RelO K mg η ah.length (upd H (η n) u) (η n) o') : RelH K mg η (ah.set n o') (upd H (η n) u) := by
  have hn : n < ah.length := (List.getElem?_eq_some_iff.mp e).1
  have getE : ∀ m q, (ah.set n o')[m]? = some q → (m ≠ n ∧ ah[m]? = some q) ∨ (m = n ∧ q = o') := fun m q z => by
    by_cases hm : m = n
    · subst hm
      rw [List.getElem?_set_self hn] at z
      cases z
      exact .inr ⟨rfl, rfl⟩
    · rw [List.getElem?_set_ne (Ne.symm hm)] at z
      exact .inl ⟨hm, z⟩
  refine ⟨fun m q z => ?_, fun a b oa ob e1 e2 s1 s2 heq => ?_⟩
  · rw [List.length_set]
    rcases getE m q z with ⟨hm, z⟩ | ⟨rfl, rfl⟩
    · by_cases hq : isScr q = true
      · cases q with
        | scr ds =>
          have hh := h.obj m _ z
          obtain ⟨vs, h1, h2⟩ := hh
          refine ⟨vs, RelDs.ext0 (ext_set0 h e hs) _ _ h1, ?_⟩
          rcases h2 with ⟨ob, h2⟩ | h2
          · refine .inl ⟨ob, ?_⟩
            rw [upd_ne fun zz => nf ob vs (by rw [← zz]; exact h2)]
            exact h2
          · exact .inr h2
        | _ => cases hq
      · have hq' : isScr q = false := by simpa using hq
        refine RelO.ext0 (ext_set0 h e hs) (fun w hw => ?_) _ (h.obj m q z)
        rw [upd_ne fun zz => hm (h.inj m n q o z e hq' hs zz)]
        exact hw
    · exact ho
  · rcases getE a oa e1 with ⟨ha, f1⟩ | ⟨ea, eo⟩
    · rcases getE b ob e2 with ⟨hb, f2⟩ | ⟨eb, eo⟩
      · exact h.inj a b oa ob f1 f2 s1 s2 heq
      · rw [eb] at heq
        exact absurd (h.inj a n oa o f1 e s1 hs heq) ha
    · rcases getE b ob e2 with ⟨hb, f2⟩ | ⟨eb, eo'⟩
      · rw [ea] at heq
        exact absurd (h.inj b n ob o f2 e s2 hs heq.symm) hb
      · rw [ea, eb]
/-- the heap cut down to its first cells -/
theorem relH_cut {ah : AH} {M : Nat} (h : RelH K mg η ah H) (hM : M ≤ ah.length) (b : ∀ n o, n < M → ah[n]? = some o → o.bel M = true) : RelH K mg η (ah.take M) H := by
  have hl : (ah.take M).length = M := by rw [List.length_take]; omega
  have getE : ∀ n o, (ah.take M)[n]? = some o → n < M ∧ ah[n]? = some o := fun n o e => by
    have h1 : n < M := by rw [← hl]; exact (List.getElem?_eq_some_iff.mp e).1
    rw [List.getElem?_take_of_lt h1] at e
    exact ⟨h1, e⟩
  refine ⟨fun n o e => ?_, fun m n om on e1 e2 => h.inj m n om on (getE _ _ e1).2 (getE _ _ e2).2⟩
  obtain ⟨h1, h2⟩ := getE n o e
  rw [hl]
  exact (h.obj n o h2).cut (b n o h1 h2)
end
end DL


set_option maxRecDepth 100000
namespace DL
open PySem PySem.Spec PyProof.Rows L2

/-! ## judgements -/
structure Sim (K : PySem.W.Frag) (mg : Str → Option Value) (η : Nat → Addr) (σd : Lc) (ah : AH) (σ : L2.St) (H : Hp) : Prop where
  hh : RelH K mg η ah H
  len : σd.length = σ.length
  env : ∀ (i : Nat) (d : D), σd[i]? = some (some d) → ∃ v, σ[i]? = some (some v) ∧ RelD η ah.length H d v
section
variable {K : PySem.W.Frag} {mg : Str → Option Value} {η η' η1 : Nat → Addr} {σd : Lc} {ah ah' ah1 : AH} {σ : L2.St} {H H' H1 : Hp}
theorem Sim.ext (s : Sim K mg η σd ah σ H) (e : Ext η ah.length H η' ah'.length H') (h : RelH K mg η' ah' H') : Sim K mg η' σd ah' σ H' :=
  ⟨h, s.len, fun i d q => let ⟨v, a, b⟩ := s.env i d q; ⟨v, a, b.ext e⟩⟩
theorem Sim.set (s : Sim K mg η σd ah σ H) {i : Nat} {d : D} {v : V} (r : RelD η ah.length H d v) : Sim K mg η (σd.set i (some d)) ah (σ.set i (some v)) H :=
  ⟨s.hh, by simp [s.len], fun j e q => by
    by_cases hj : i = j
    · subst hj
      by_cases hl : i < σd.length
      · rw [List.getElem?_set_self hl] at q
        cases q
        exact ⟨v, by rw [List.getElem?_set_self (by rw [← s.len]; exact hl)], r⟩
      · rw [List.getElem?_eq_none (by rw [List.length_set]; omega)] at q
        cases q
    · rw [List.getElem?_set_ne hj] at q
      obtain ⟨w, a, b⟩ := s.env j e q
      exact ⟨w, by rw [List.getElem?_set_ne hj]; exact a, b⟩⟩
end
def R.bind (r : R) (k : D → AH → R) : R := match r with | .ok d h => k d h | .exc x h => .exc x h | .bad => .bad
def R.bindA (r : R) (k : D → AH → RA) : RA := match r with | .ok d h => k d h | .exc x h => .exc x h | .bad => .bad
def R.bindT (r : R) (k : D → AH → RT) : RT := match r with | .ok d h => k d h | .exc x h => .exc x h | .bad => .bad
def R.bindS (r : R) (σ : Lc) (k : D → AH → RS) : RS := match r with | .ok d h => k d h | .exc x h => .exc x σ h | .bad => .bad
def RA.bind (r : RA) (k : List D → AH → R) : R := match r with | .ok d h => k d h | .exc x h => .exc x h | .bad => .bad
def RA.bindA (r : RA) (k : List D → AH → RA) : RA := match r with | .ok d h => k d h | .exc x h => .exc x h | .bad => .bad
def RT.bind (r : RT) (k : Bool → AH → R) : R := match r with | .ok d h => k d h | .exc x h => .exc x h | .bad => .bad
def RT.bindT (r : RT) (k : Bool → AH → RT) : RT := match r with | .ok d h => k d h | .exc x h => .exc x h | .bad => .bad
def RT.bindS (r : RT) (σ : Lc) (k : Bool → AH → RS) : RS := match r with | .ok d h => k d h | .exc x h => .exc x σ h | .bad => .bad
def RS.bind (r : RS) (k : Lc → AH → RS) : RS := match r with | .nx l h => k l h | r => r
def ofO : Option (D × AH) → R
  | some (d, h) => .ok d h
  | none => .bad
section
variable (K : PySem.W.Frag) (mg : Str → Option Value) (W : WX)
/-- exceptions -/
def XP (η : Nat → Addr) (N : Nat) (σ : L2.St) (H : Hp) (x : Str) (ah' : AH) : Prop :=
  ∀ η' H' C, Ext η N H η' ah'.length H' → RelH K mg η' ah' H' → mg x = some (.ref C) → W (.ref C) none σ H'
def RP (η : Nat → Addr) (N : Nat) (σ : L2.St) (H : Hp) (r : R) (Q : VK) : Prop := match r with
  | .ok d ah' => ∀ η' v H', Ext η N H η' ah'.length H' → RelH K mg η' ah' H' → RelD η' ah'.length H' d v → Q v H'
  | .exc x ah' => XP K mg W η N σ H x ah'
  | .bad => False
def RPA (η : Nat → Addr) (N : Nat) (σ : L2.St) (H : Hp) (r : RA) (Q : List V → Hp → Prop) : Prop := match r with
  | .ok ds ah' => ∀ η' vs H', Ext η N H η' ah'.length H' → RelH K mg η' ah' H' → RelDs η' ah'.length H' ds vs → Q vs H'
  | .exc x ah' => XP K mg W η N σ H x ah'
  | .bad => False
def RPT (η : Nat → Addr) (N : Nat) (σ : L2.St) (H : Hp) (r : RT) (Q : Bool → Hp → Prop) : Prop := match r with
  | .ok b ah' => ∀ η' H', Ext η N H η' ah'.length H' → RelH K mg η' ah' H' → Q b H'
  | .exc x ah' => XP K mg W η N σ H x ah'
  | .bad => False
def RPS (η : Nat → Addr) (N : Nat) (H : Hp) (r : RS) (E : Ends) : Prop := match r with
  | .nx σd' ah' => ∀ η' σ' H', Ext η N H η' ah'.length H' → Sim K mg η' σd' ah' σ' H' → E.nx σ' H'
  | .bk σd' ah' => ∀ η' σ' H', Ext η N H η' ah'.length H' → Sim K mg η' σd' ah' σ' H' → E.bk σ' H'
  | .ct σd' ah' => ∀ η' σ' H', Ext η N H η' ah'.length H' → Sim K mg η' σd' ah' σ' H' → E.ct σ' H'
  | .rt d ah' => ∀ η' v H', Ext η N H η' ah'.length H' → RelH K mg η' ah' H' → RelD η' ah'.length H' d v → E.rt v H'
  | .exc x σd' ah' => ∀ η' σ' H' C, Ext η N H η' ah'.length H' → Sim K mg η' σd' ah' σ' H' → mg x = some (.ref C) → W (.ref C) none σ' H'
  | .bad => False
def tE (f : SE) : TE := fun σ H Q => ∃ η σd ah, Sim K mg η σd ah σ H ∧ RP K mg W η ah.length σ H (f σd ah) Q
def tA (f : SA) : TA := fun σ H Q => ∃ η σd ah, Sim K mg η σd ah σ H ∧ RPA K mg W η ah.length σ H (f σd ah) Q
def tT (f : SB) : TT := fun σ H Q => ∃ η σd ah, Sim K mg η σd ah σ H ∧ RPT K mg W η ah.length σ H (f σd ah) Q
def tS (f : SS) : TS := fun E σ H => ∃ η σd ah, Sim K mg η σd ah σ H ∧ RPS K mg W η ah.length H (f σd ah) E
end
section
variable (X : Cx) (W : WX)
/-- the judgements: e does f -/
def DE (e : Expr) (f : SE) : Prop := PE X e (tE X.K X.mg W f)
def DA (es : List Expr) (f : SA) : Prop := PA X es (tA X.K X.mg W f)
def DT (e : Expr) (f : SB) : Prop := PT X e (tT X.K X.mg W f)
def DW (e : Expr) (f : SB) : Prop := PW X e (tT X.K X.mg W f)
def DS (st : Stmt) (f : SS) : Prop := PS X st (tS X.K X.mg W f)
def DSs (st : List Stmt) (f : SS) : Prop := PSs X st (tS X.K X.mg W f)
end
section
variable {X : Cx} {W : WX} {η η' η1 : Nat → Addr} {N N1 : Nat} {σd : Lc} {ah ah' ah1 : AH} {σ : L2.St} {H H' H1 : Hp} {Q : VK}
theorem PE.imp {e : Expr} {t t' : TE} (h : PE X e t) (k : ∀ σ H Q, t' σ H Q → t σ H Q) : PE X e t' := ⟨fun pins s σ H Q I q => h.run pins s σ H Q I (k _ _ _ q)⟩
theorem PT.imp {e : Expr} {t t' : TT} (h : PT X e t) (k : ∀ σ H Q, t' σ H Q → t σ H Q) : PT X e t' := ⟨fun pins s σ H Q I q => h.run pins s σ H Q I (k _ _ _ q)⟩
theorem PW.imp {e : Expr} {t t' : TT} (h : PW X e t) (k : ∀ σ H Q, t' σ H Q → t σ H Q) : PW X e t' := ⟨fun w pins s σ H Q I q => h.run w pins s σ H Q I (k _ _ _ q)⟩
theorem PA.imp {e : List Expr} {t t' : TA} (h : PA X e t) (k : ∀ σ H Q, t' σ H Q → t σ H Q) : PA X e t' := ⟨fun pos pins s σ H Q I q => h.run pos pins s σ H Q I (k _ _ _ q)⟩
theorem PS.imp {e : Stmt} {t t' : TS} (h : PS X e t) (k : ∀ D σ H, t' D σ H → t D σ H) : PS X e t' := ⟨fun pins s σ H Q I q => h.run pins s σ H Q I (k _ _ _ q)⟩
theorem PSs.imp {e : List Stmt} {t t' : TS} (h : PSs X e t) (k : ∀ D σ H, t' D σ H → t D σ H) : PSs X e t' := ⟨fun pins s σ H Q I q => h.run pins s σ H Q I (k _ _ _ q)⟩

theorem XP.base {x : Str} (e : Ext η N H η1 N1 H1) (h : XP X.K X.mg W η N σ H x ah') : XP X.K X.mg W η1 N1 σ H1 x ah' := fun η' H' C e' => h η' H' C (e.trans e')
theorem RP.base {r : R} (e : Ext η N H η1 N1 H1) (h : RP X.K X.mg W η N σ H r Q) : RP X.K X.mg W η1 N1 σ H1 r Q := by
  cases r with
  | ok d ah' => exact fun η' v H' e' => h η' v H' (e.trans e')
  | exc x ah' => exact XP.base e h
  | bad => exact h
theorem RPA.base {r : RA} {Q : List V → Hp → Prop} (e : Ext η N H η1 N1 H1) (h : RPA X.K X.mg W η N σ H r Q) : RPA X.K X.mg W η1 N1 σ H1 r Q := by
  cases r with
  | ok d ah' => exact fun η' v H' e' => h η' v H' (e.trans e')
  | exc x ah' => exact XP.base e h
  | bad => exact h
theorem RPT.base {r : RT} {Q : Bool → Hp → Prop} (e : Ext η N H η1 N1 H1) (h : RPT X.K X.mg W η N σ H r Q) : RPT X.K X.mg W η1 N1 σ H1 r Q := by
  cases r with
  | ok d ah' => exact fun η' H' e' => h η' H' (e.trans e')
  | exc x ah' => exact XP.base e h
  | bad => exact h
theorem RPS.base {r : RS} {E : Ends} (e : Ext η N H η1 N1 H1) (h : RPS X.K X.mg W η N H r E) : RPS X.K X.mg W η1 N1 H1 r E := by
  cases r with
  | nx l ah' => exact fun η' σ' H' e' => h η' σ' H' (e.trans e')
  | bk l ah' => exact fun η' σ' H' e' => h η' σ' H' (e.trans e')
  | ct l ah' => exact fun η' σ' H' e' => h η' σ' H' (e.trans e')
  | rt d ah' => exact fun η' v H' e' => h η' v H' (e.trans e')
  | exc x l ah' => exact fun η' σ' H' C e' => h η' σ' H' C (e.trans e')
  | bad => exact h
/-- go on behind an expression -/
theorem tE_go {f : SE} {P : VK} (sim : Sim X.K X.mg η σd ah σ H) (hb : f σd ah ≠ .bad) (hx : ∀ x ah', f σd ah = .exc x ah' → XP X.K X.mg W η ah.length σ H x ah')
    (hk : ∀ d ah1 η1 v H1, f σd ah = .ok d ah1 → Sim X.K X.mg η1 σd ah1 σ H1 → Ext η ah.length H η1 ah1.length H1 → RelD η1 ah1.length H1 d v → P v H1) : tE X.K X.mg W f σ H P := by
  refine ⟨η, σd, ah, sim, ?_⟩
  cases q : f σd ah with
  | ok d ah1 => exact fun η1 v H1 e r1 r2 => hk d ah1 η1 v H1 q (sim.ext e r1) e r2
  | exc x ah1 => exact hx x ah1 q
  | bad => exact absurd q hb
theorem tE_bind {f : SE} {k : D → AH → R} {P : VK} (sim : Sim X.K X.mg η σd ah σ H) (h : RP X.K X.mg W η ah.length σ H ((f σd ah).bind k) Q)
    (hk : ∀ d ah1 η1 v H1, Sim X.K X.mg η1 σd ah1 σ H1 → Ext η ah.length H η1 ah1.length H1 → RelD η1 ah1.length H1 d v → RP X.K X.mg W η1 ah1.length σ H1 (k d ah1) Q → P v H1) : tE X.K X.mg W f σ H P := by
  refine tE_go sim (fun q => by rw [q] at h; exact h) (fun x ah' q => by rw [q] at h; exact h) fun d ah1 η1 v H1 q s e r => hk d ah1 η1 v H1 s e r ?_
  rw [q] at h
  exact RP.base e h
theorem tE_bindA {f : SE} {k : D → AH → RA} {P : VK} {Q : List V → Hp → Prop} (sim : Sim X.K X.mg η σd ah σ H) (h : RPA X.K X.mg W η ah.length σ H ((f σd ah).bindA k) Q)
    (hk : ∀ d ah1 η1 v H1, Sim X.K X.mg η1 σd ah1 σ H1 → Ext η ah.length H η1 ah1.length H1 → RelD η1 ah1.length H1 d v → RPA X.K X.mg W η1 ah1.length σ H1 (k d ah1) Q → P v H1) : tE X.K X.mg W f σ H P := by
  refine tE_go sim (fun q => by rw [q] at h; exact h) (fun x ah' q => by rw [q] at h; exact h) fun d ah1 η1 v H1 q s e r => hk d ah1 η1 v H1 s e r ?_
  rw [q] at h
  exact RPA.base e h
theorem tE_bindT {f : SE} {k : D → AH → RT} {P : VK} {Q : Bool → Hp → Prop} (sim : Sim X.K X.mg η σd ah σ H) (h : RPT X.K X.mg W η ah.length σ H ((f σd ah).bindT k) Q)
    (hk : ∀ d ah1 η1 v H1, Sim X.K X.mg η1 σd ah1 σ H1 → Ext η ah.length H η1 ah1.length H1 → RelD η1 ah1.length H1 d v → RPT X.K X.mg W η1 ah1.length σ H1 (k d ah1) Q → P v H1) : tE X.K X.mg W f σ H P := by
  refine tE_go sim (fun q => by rw [q] at h; exact h) (fun x ah' q => by rw [q] at h; exact h) fun d ah1 η1 v H1 q s e r => hk d ah1 η1 v H1 s e r ?_
  rw [q] at h
  exact RPT.base e h
theorem tE_bindS {f : SE} {k : D → AH → RS} {P : VK} {E : Ends} (sim : Sim X.K X.mg η σd ah σ H) (h : RPS X.K X.mg W η ah.length H ((f σd ah).bindS σd k) E)
    (hk : ∀ d ah1 η1 v H1, Sim X.K X.mg η1 σd ah1 σ H1 → Ext η ah.length H η1 ah1.length H1 → RelD η1 ah1.length H1 d v → RPS X.K X.mg W η1 ah1.length H1 (k d ah1) E → P v H1) : tE X.K X.mg W f σ H P := by
  refine tE_go sim (fun q => by rw [q] at h; exact h) (fun x ah' q => ?_) fun d ah1 η1 v H1 q s e r => hk d ah1 η1 v H1 s e r ?_
  · rw [q] at h
    exact fun η' H' C e r m => h η' σ H' C e (sim.ext e r) m
  · rw [q] at h
    exact RPS.base e h
theorem tA_go {f : SA} {P : List V → Hp → Prop} (sim : Sim X.K X.mg η σd ah σ H) (hb : f σd ah ≠ .bad) (hx : ∀ x ah', f σd ah = .exc x ah' → XP X.K X.mg W η ah.length σ H x ah')
    (hk : ∀ d ah1 η1 v H1, f σd ah = .ok d ah1 → Sim X.K X.mg η1 σd ah1 σ H1 → Ext η ah.length H η1 ah1.length H1 → RelDs η1 ah1.length H1 d v → P v H1) : tA X.K X.mg W f σ H P := by
  refine ⟨η, σd, ah, sim, ?_⟩
  cases q : f σd ah with
  | ok d ah1 => exact fun η1 v H1 e r1 r2 => hk d ah1 η1 v H1 q (sim.ext e r1) e r2
  | exc x ah1 => exact hx x ah1 q
  | bad => exact absurd q hb
theorem tA_bind {f : SA} {k : List D → AH → R} {P : List V → Hp → Prop} (sim : Sim X.K X.mg η σd ah σ H) (h : RP X.K X.mg W η ah.length σ H ((f σd ah).bind k) Q)
    (hk : ∀ d ah1 η1 v H1, Sim X.K X.mg η1 σd ah1 σ H1 → Ext η ah.length H η1 ah1.length H1 → RelDs η1 ah1.length H1 d v → RP X.K X.mg W η1 ah1.length σ H1 (k d ah1) Q → P v H1) : tA X.K X.mg W f σ H P := by
  refine tA_go sim (fun q => by rw [q] at h; exact h) (fun x ah' q => by rw [q] at h; exact h) fun d ah1 η1 v H1 q s e r => hk d ah1 η1 v H1 s e r ?_
  rw [q] at h
  exact RP.base e h
theorem tA_bindA {f : SA} {k : List D → AH → RA} {P : List V → Hp → Prop} {Q : List V → Hp → Prop} (sim : Sim X.K X.mg η σd ah σ H) (h : RPA X.K X.mg W η ah.length σ H ((f σd ah).bindA k) Q)
    (hk : ∀ d ah1 η1 v H1, Sim X.K X.mg η1 σd ah1 σ H1 → Ext η ah.length H η1 ah1.length H1 → RelDs η1 ah1.length H1 d v → RPA X.K X.mg W η1 ah1.length σ H1 (k d ah1) Q → P v H1) : tA X.K X.mg W f σ H P := by
  refine tA_go sim (fun q => by rw [q] at h; exact h) (fun x ah' q => by rw [q] at h; exact h) fun d ah1 η1 v H1 q s e r => hk d ah1 η1 v H1 s e r ?_
  rw [q] at h
  exact RPA.base e h
theorem tT_go {f : SB} {P : Bool → Hp → Prop} (sim : Sim X.K X.mg η σd ah σ H) (hb : f σd ah ≠ .bad) (hx : ∀ x ah', f σd ah = .exc x ah' → XP X.K X.mg W η ah.length σ H x ah')
    (hk : ∀ b ah1 η1 H1, f σd ah = .ok b ah1 → Sim X.K X.mg η1 σd ah1 σ H1 → Ext η ah.length H η1 ah1.length H1 → P b H1) : tT X.K X.mg W f σ H P := by
  refine ⟨η, σd, ah, sim, ?_⟩
  cases q : f σd ah with
  | ok d ah1 => exact fun η1 H1 e r1 => hk d ah1 η1 H1 q (sim.ext e r1) e
  | exc x ah1 => exact hx x ah1 q
  | bad => exact absurd q hb
theorem tT_bind {f : SB} {k : Bool → AH → R} {P : Bool → Hp → Prop} (sim : Sim X.K X.mg η σd ah σ H) (h : RP X.K X.mg W η ah.length σ H ((f σd ah).bind k) Q)
    (hk : ∀ d ah1 η1 H1, Sim X.K X.mg η1 σd ah1 σ H1 → Ext η ah.length H η1 ah1.length H1 → RP X.K X.mg W η1 ah1.length σ H1 (k d ah1) Q → P d H1) : tT X.K X.mg W f σ H P := by
  refine tT_go sim (fun q => by rw [q] at h; exact h) (fun x ah' q => by rw [q] at h; exact h) fun d ah1 η1 H1 q s e => hk d ah1 η1 H1 s e ?_
  rw [q] at h
  exact RP.base e h
theorem tT_bindT {f : SB} {k : Bool → AH → RT} {P Q : Bool → Hp → Prop} (sim : Sim X.K X.mg η σd ah σ H) (h : RPT X.K X.mg W η ah.length σ H ((f σd ah).bindT k) Q)
    (hk : ∀ d ah1 η1 H1, Sim X.K X.mg η1 σd ah1 σ H1 → Ext η ah.length H η1 ah1.length H1 → RPT X.K X.mg W η1 ah1.length σ H1 (k d ah1) Q → P d H1) : tT X.K X.mg W f σ H P := by
  refine tT_go sim (fun q => by rw [q] at h; exact h) (fun x ah' q => by rw [q] at h; exact h) fun d ah1 η1 H1 q s e => hk d ah1 η1 H1 s e ?_
  rw [q] at h
  exact RPT.base e h
theorem tT_bindS {f : SB} {k : Bool → AH → RS} {P : Bool → Hp → Prop} {E : Ends} (sim : Sim X.K X.mg η σd ah σ H) (h : RPS X.K X.mg W η ah.length H ((f σd ah).bindS σd k) E)
    (hk : ∀ d ah1 η1 H1, Sim X.K X.mg η1 σd ah1 σ H1 → Ext η ah.length H η1 ah1.length H1 → RPS X.K X.mg W η1 ah1.length H1 (k d ah1) E → P d H1) : tT X.K X.mg W f σ H P := by
  refine tT_go sim (fun q => by rw [q] at h; exact h) (fun x ah' q => ?_) fun d ah1 η1 H1 q s e => hk d ah1 η1 H1 s e ?_
  · rw [q] at h
    exact fun η' H' C e r m => h η' σ H' C e (sim.ext e r) m
  · rw [q] at h
    exact RPS.base e h

/-! ## operations by values -/
abbrev Op1 := D → AH → Option (D × AH)
abbrev Op2 := D → D → AH → Option (D × AH)
abbrev OpL := List D → AH → Option (D × AH)
abbrev OpM := D → List D → AH → Option (D × AH)
/-- what an operation's answer is wanted for -/
def AnsP (K : PySem.W.Frag) (mg : Str → Option Value) (η : Nat → Addr) (N : Nat) (H : Hp) (a : Option (D × AH)) (Q : VK) : Prop := ∃ d ah', a = some (d, ah') ∧
  ∀ η' v H', Ext η N H η' ah'.length H' → RelH K mg η' ah' H' → RelD η' ah'.length H' d v → Q v H'
def rD1 (K : PySem.W.Frag) (mg : Str → Option Value) (o : Op1) : V → Hp → VK → Prop := fun x H Q => ∃ η ah dx, RelH K mg η ah H ∧ RelD η ah.length H dx x ∧ AnsP K mg η ah.length H (o dx ah) Q
def rD2 (K : PySem.W.Frag) (mg : Str → Option Value) (o : Op2) : R2 := fun x y H Q => ∃ η ah dx dy, RelH K mg η ah H ∧ RelD η ah.length H dx x ∧ RelD η ah.length H dy y ∧ AnsP K mg η ah.length H (o dx dy ah) Q
def rDL (K : PySem.W.Frag) (mg : Str → Option Value) (o : OpL) : List V → Hp → VK → Prop := fun xs H Q => ∃ η ah ds, RelH K mg η ah H ∧ RelDs η ah.length H ds xs ∧ AnsP K mg η ah.length H (o ds ah) Q
def rDM (K : PySem.W.Frag) (mg : Str → Option Value) (o : OpM) : V → List V → Hp → VK → Prop := fun x xs H Q => ∃ η ah dx ds, RelH K mg η ah H ∧ RelD η ah.length H dx x ∧ RelDs η ah.length H ds xs ∧ AnsP K mg η ah.length H (o dx ds ah) Q
theorem AnsP.of {r : Option (D × AH)} (h : RP X.K X.mg W η N σ H (ofO r) Q) : AnsP X.K X.mg η N H r Q := by
  cases r with
  | none => exact h.elim
  | some p => exact ⟨p.1, p.2, rfl, h⟩
/-- an answer that needs no new object -/
theorem AnsP.val {K : PySem.W.Frag} {mg : Str → Option Value} {d : D} {v : V} {r : Option (D × AH)} (h : AnsP K mg η ah.length H r Q) (e : r = some (d, ah)) (hh : RelH K mg η ah H) (rd : RelD η ah.length H d v) : Q v H := by
  obtain ⟨d', ah', e', q⟩ := h
  rw [e] at e'
  cases e'
  exact q η v H Ext.refl hh rd

def dBin (o : Op2) (fa fb : SE) : SE := fun σ h => (fa σ h).bind fun x h1 => (fb σ h1).bind fun y h2 => ofO (o x y h2)
def dUn (o : Op1) (fa : SE) : SE := fun σ h => (fa σ h).bind fun x h1 => ofO (o x h1)
def dVar (i : Nat) : SE := fun σ h => match σ[i]? with
  | some (some d) => .ok d h
  | _ => .bad
def dC (d : D) : SE := fun _ h => .ok d h
def dNil : SA := fun _ h => .ok [] h
def dCons (fa : SE) (fs : SA) : SA := fun σ h => (fa σ h).bindA fun d h1 => (fs σ h1).bindA fun ds h2 => .ok (d :: ds) h2
def dCallB (o : OpL) (fs : SA) : SE := fun σ h => (fs σ h).bind fun ds h1 => ofO (o ds h1)
def dMeth (o : OpM) (fo : SE) (fs : SA) : SE := fun σ h => (fo σ h).bind fun x h1 => (fs σ h1).bind fun ds h2 => ofO (o x ds h2)
def dTup (fs : SA) : SE := fun σ h => (fs σ h).bind fun ds h1 => if ds.length ≤ 16777216 then .ok (.tup ds) h1 else .bad
def dLst (fs : SA) : SE := fun σ h => (fs σ h).bind fun ds h1 => if ds.length ≤ 16777216 then .ok (.ref h1.length) (h1 ++ [.lst ds]) else .bad
def dIf (ft : SB) (fa fb : SE) : SE := fun σ h => (ft σ h).bind fun b h1 => if b = true then fa σ h1 else fb σ h1
/-- values by truth -/
def truD (d : D) (h : AH) : Option Bool := match d with
  | .non => some false
  | .bl b => some b
  | .int i => some (i != 0)
  | .str s => if s.length ≤ 16777216 then some (!s.isEmpty) else none
  | .tup ds => some (!ds.isEmpty)
  | .ref n => match h[n]? with
    | some (.lst ds) => some (!ds.isEmpty)
    | some (.scr ds) => some (!ds.isEmpty)
    | _ => none
def ofT : Option Bool → AH → RT
  | some b, h => .ok b h
  | none, _ => .bad
def dTru (f : SE) : SB := fun σ h => (f σ h).bindT fun d h1 => ofT (truD d h1) h1
def isB (f : SE) : SB := fun σ h => (f σ h).bindT fun d h1 => match d with
  | .bl b => .ok b h1
  | _ => .bad
def dAnd (fa fb : SB) : SB := fun σ h => (fa σ h).bindT fun b h1 => if b = true then fb σ h1 else .ok false h1
def dOr (fa fb : SB) : SB := fun σ h => (fa σ h).bindT fun b h1 => if b = true then .ok true h1 else fb σ h1
def dNot (fa : SB) : SB := fun σ h => (fa σ h).bindT fun b h1 => .ok (!b) h1
def dAndV (fa fb : SE) : SE := fun σ h => (fa σ h).bind fun d h1 => match truD d h1 with
  | some b => if b = true then fb σ h1 else .ok d h1
  | none => .bad
def dOrV (fa fb : SE) : SE := fun σ h => (fa σ h).bind fun d h1 => match truD d h1 with
  | some b => if b = true then .ok d h1 else fb σ h1
  | none => .bad
def dNotV (fa : SE) : SE := fun σ h => (fa σ h).bind fun d h1 => match d with
  | .bl b => .ok (.bl (!b)) h1
  | _ => .bad
/-- a < b < c -/
def dChn (o o' : Op2) (fa fb fc : SE) : SE := fun σ h => (fa σ h).bind fun x h1 => (fb σ h1).bind fun y h2 => (ofO (o x y h2)).bind fun z h3 => match z with
  | .bl b => if b = true then (fc σ h3).bind fun w h4 => ofO (o' y w h4) else .ok (.bl false) h3
  | _ => .bad

section
variable {a b c o : Expr} {es rest : List Expr} {fa fb fc fo : SE} {fs : SA} {ft fu : SB} {pos : Pos}
theorem de_var (i : Nat) {x : Str} (hN : X.N[i]? = some x := by rfl) (hv : Vis X.env.scope x := by first | exact Or.inl rfl | exact Or.inr (Or.inl rfl) | exact Or.inr (Or.inr rfl)) (hd : (x == ("__debug__" : Str)) = false := by decide)
    (hcd : (x == ("__classdict__" : Str)) = false := by decide) : DE X W (.Name x pos) (dVar i) := PE.imp (pe_var hN hv hd hcd) fun σ H Q h => by
  obtain ⟨η, σd, ah, sim, h⟩ := h
  unfold dVar at h
  split at h
  · rename_i d e
    obtain ⟨v, ev, r⟩ := sim.env i d e
    exact ⟨v, ev, h η v H Ext.refl sim.hh r⟩
  · exact h.elim
theorem de_con {e : Expr} {d : D} {v : V} (h : PE X e (tC v)) (r : ∀ η N H, RelD η N H d v) : DE X W e (dC d) := PE.imp h fun σ H Q h => by
  obtain ⟨η, σd, ah, sim, h⟩ := h
  exact h η v H Ext.refl sim.hh (r _ _ _)
theorem de_int {i j} : DE X W (.Constant (.int i) j pos) (dC (.int i)) := de_con pe_int fun _ _ _ => rfl
theorem de_bl {i j} : DE X W (.Constant (.bool i) j pos) (dC (.bl i)) := de_con pe_bl fun _ _ _ => rfl
theorem de_non {j} : DE X W (.Constant .none j pos) (dC .non) := de_con pe_non fun _ _ _ => rfl
theorem de_str {x : Str} {j} {l : List Nat} (e : x.cps.toList = l := by rfl) : DE X W (.Constant (.str x) j pos) (dC (.str l)) := de_con pe_str fun _ _ _ => by
  subst e
  show V.str x = .str (S x.cps.toList)
  rw [S_toList]
/-- a constant of the module: an int, a text -/
theorem de_gint {x : Str} {i : Int} (hg : Gl X x) (hm : ∃ t, X.mg x = some (.int i t)) (hd : (x == ("__debug__" : Str)) = false := by decide) : DE X W (.Name x pos) (dC (.int i)) := by
  obtain ⟨t, hm⟩ := hm
  exact de_con (pe_glob hg hm (v := .int i) ⟨t, rfl⟩ hd) fun _ _ _ => rfl
theorem de_gstr {x z : Str} {l : List Nat} (hg : Gl X x) (hm : ∃ t, X.mg x = some (.str z t)) (e : z.cps.toList = l := by rfl) (hd : (x == ("__debug__" : Str)) = false := by decide) : DE X W (.Name x pos) (dC (.str l)) := by
  obtain ⟨t, hm⟩ := hm
  exact de_con (pe_glob hg hm (v := .str z) ⟨t, rfl⟩ hd) fun _ _ _ => by
    subst e
    show V.str z = .str (S z.cps.toList)
    rw [S_toList]
theorem de_bin {op : Operator} {o2 : Op2} (ho : OpR X (binaryOp op) (rD2 X.K X.mg o2)) (ha : DE X W a fa) (hb : DE X W b fb) : DE X W (.BinOp a op b pos) (dBin o2 fa fb) := PE.imp (pe_op ho ha hb) fun σ H Q h => by
  obtain ⟨η, σd, ah, sim, h⟩ := h
  exact tE_bind sim h fun dx ah1 η1 x H1 s1 e1 r1 h1 => tE_bind s1 h1 fun dy ah2 η2 y H2 s2 e2 r2 h2 => ⟨η2, ah2, dx, dy, s2.hh, r1.ext e2, r2, .of h2⟩
theorem de_cmp {op : CmpOp} {o2 : Op2} (ho : OpR X (compareOp op) (rD2 X.K X.mg o2)) (ha : DE X W a fa) (hb : DE X W b fb) (hm : behindInMarks op b = false := by first | exact nomark _ | rfl) : DE X W (.Compare a [op] [b] pos) (dBin o2 fa fb) := PE.imp (pe_cmpR ho ha hb hm) fun σ H Q h => by
  obtain ⟨η, σd, ah, sim, h⟩ := h
  exact tE_bind sim h fun dx ah1 η1 x H1 s1 e1 r1 h1 => tE_bind s1 h1 fun dy ah2 η2 y H2 s2 e2 r2 h2 => ⟨η2, ah2, dx, dy, s2.hh, r1.ext e2, r2, .of h2⟩
theorem de_un {op : UnaryOp} {o1 : Op1} (ho : UnR X (unaryOp op) (rD1 X.K X.mg o1)) (ha : DE X W a fa) : DE X W (.UnaryOp op a pos) (dUn o1 fa) := PE.imp (pe_un ho ha) fun σ H Q h => by
  obtain ⟨η, σd, ah, sim, h⟩ := h
  exact tE_bind sim h fun dx ah1 η1 x H1 s1 e1 r1 h1 => ⟨η1, ah1, dx, s1.hh, r1, .of h1⟩
theorem da_nil : DA X W [] dNil := PA.imp pa_nil fun σ H Q h => by
  obtain ⟨η, σd, ah, sim, h⟩ := h
  exact h η [] H Ext.refl sim.hh rfl
theorem da_cons (ha : DE X W a fa) (hr : DA X W es fs) (hs : starEach (a :: es) X.env = (false, eval a X.env) :: starEach es X.env := by rfl) : DA X W (a :: es) (dCons fa fs) := PA.imp (pa_cons ha hr hs) fun σ H Q h => by
  obtain ⟨η, σd, ah, sim, h⟩ := h
  refine tE_bindA sim h fun dx ah1 η1 x H1 s1 e1 r1 h1 => tA_bindA s1 h1 fun ds ah2 η2 ys H2 s2 e2 r2 h2 => ?_
  exact h2 η2 (x :: ys) H2 Ext.refl s2.hh ⟨x, ys, rfl, r1.ext e2, r2⟩
theorem de_callB {x : Str} {id : String} {p : Pos} {ol : OpL} (hc : CallR X (.builtin id) (rDL X.K X.mg ol)) (hg : Gl X x) (hm : X.mg x = none) (hv : bootBuiltins x = some (.builtin id)) (ha : DA X W (a :: es) fs) (hn : x ≠ "__name__" := by decide) (hdb : (x == ("__debug__" : Str)) = false := by decide)
    (he : starEach (a :: es) X.env = (false, eval a X.env) :: starEach es X.env := by rfl) (hpl : (backTo pos (starEach es X.env)).any (·.1) = false := by rfl) : DE X W (.Call (.Name x p) (a :: es) [] pos) (dCallB ol fs) := PE.imp (pe_callB hc hg hm hv ha hn hdb he hpl) fun σ H Q h => by
  obtain ⟨η, σd, ah, sim, h⟩ := h
  exact tA_bind sim h fun ds ah1 η1 xs H1 s1 e1 r1 h1 => ⟨η1, ah1, ds, s1.hh, r1, .of h1⟩
theorem de_callTy {x : Str} {T : String} {p : Pos} {ol : OpL} (hc : CallR X (.type T) (rDL X.K X.mg ol)) (hg : Gl X x) (hm : X.mg x = none) (hv : bootBuiltins x = some (.type T)) (ha : DA X W (a :: es) fs) (hn : x ≠ "__name__" := by decide) (hdb : (x == ("__debug__" : Str)) = false := by decide)
    (he : starEach (a :: es) X.env = (false, eval a X.env) :: starEach es X.env := by rfl) (hpl : (backTo pos (starEach es X.env)).any (·.1) = false := by rfl) : DE X W (.Call (.Name x p) (a :: es) [] pos) (dCallB ol fs) := PE.imp (pe_callTy hc hg hm hv ha hn hdb he hpl) fun σ H Q h => by
  obtain ⟨η, σd, ah, sim, h⟩ := h
  exact tA_bind sim h fun ds ah1 η1 xs H1 s1 e1 r1 h1 => ⟨η1, ah1, ds, s1.hh, r1, .of h1⟩
/-- a new tuple, its object known or not -/
def NewT (H : Hp) (xs : List V) (Q : VK) : Prop := ∀ (p : Addr) (o : Obj), H p = none → o.dict = none → Q (.ref p) (upd H p (.tup xs)) ∨ Q (.ref p) (upd H p (.frz o (.tup xs)))
/-- .. when it is laid -/
theorem newT_laid {X : Cx} {pins : List (Addr × Obj)} {σ : L2.St} {H : Hp} {s : Shared} {xs : List V} {us : List Value} {Q : VK} {h' : Heap} {p : Addr} {o : Obj} (I : Inv X pins σ H s) (hk : ∀ b ob, s.heap.get? b = some ob → h'.get? b = some ob) (hp : s.heap.objs.size ≤ p) (ho : h'.get? p = some o) (hd : o.dict = none) (ht : IsTup h' p us.toArray) (hz : xs.length ≤ sizeLine) (r : Vals xs us) (q : NewT H xs Q) {t' : Nat} : EP X pins σ Q (.ref p) { s with heap := h', toks := t' } := by
  rcases q p o (I.hok.fresh hp) hd with q | q
  · exact ⟨.ref p, upd H p (.tup xs), I.laid (t' := t') hk hp ⟨hz, us, r, ht⟩, rfl, q⟩
  · exact ⟨.ref p, upd H p (.frz o (.tup xs)), I.laid (t' := t') hk hp ⟨ho, hz, us, r, ht⟩, rfl, q⟩
theorem pe_tupB {t : TA} {k : Nat} (h : PA X es t) : PE X (.Tuple es k pos) (fun σ H Q => t σ H fun xs H1 => xs.length ≤ sizeLine ∧ NewT H1 xs Q) := by
  refine ⟨fun pins s σ H Q I hq => ?_⟩
  refine wpAny_Tuple_spliced (thn (h.run pos pins s σ H _ I hq) fun us s1 ⟨xs, H1, I1, r, z, q⟩ => ⟨by rw [← r.length]; exact z, ?_⟩)
  exact newT_laid I1 (fun b u e => Heap.get?_push_of_some _ e) (Nat.le_refl _) (Heap.get?_push_size _ rfl) rfl ⟨_, Heap.get?_push_size _ rfl, rfl, _, rfl⟩ z r q (t' := s1.toks)
theorem rel_newT {ah : AH} {H : Hp} {ds : List D} {vs : List V} {Q : VK} (hh : RelH X.K X.mg η ah H) (r : RelDs η ah.length H ds vs) (k : ∀ v H', Ext η ah.length H η ah.length H' → RelH X.K X.mg η ah H' → RelD η ah.length H' (.tup ds) v → Q v H') : NewT H vs Q := by
  intro p o hp hd
  cases e : nz ds with
  | true => exact .inr (k _ _ (ext_tup hp) (relH_tup hh hp) ⟨p, vs, rfl, .ofT e hd upd_same, RelDs.ext (ext_tup hp) _ _ r⟩)
  | false => exact .inl (k _ _ (ext_tup hp) (relH_tup hh hp) ⟨p, vs, rfl, .ofF e upd_same, RelDs.ext (ext_tup hp) _ _ r⟩)
theorem de_tup {k} (h : DA X W es fs) : DE X W (.Tuple es k pos) (dTup fs) := PE.imp (pe_tupB h) fun σ H Q h => by
  obtain ⟨η, σd, ah, sim, h⟩ := h
  refine tA_bind sim h fun ds ah1 η1 xs H1 s1 e1 r1 h1 => ?_
  by_cases hl : ds.length ≤ 16777216
  · rw [if_pos hl] at h1
    exact ⟨by rw [r1.length]; exact hl, rel_newT s1.hh r1 fun v H' e hh' rd => h1 η1 v H' e hh' rd⟩
  · rw [if_neg hl] at h1
    exact h1.elim
theorem de_lst (h : DA X W es fs) : DE X W (.List es pos) (dLst fs) := PE.imp (pe_lst h) fun σ H Q h => by
  obtain ⟨η, σd, ah, sim, h⟩ := h
  refine tA_bind sim h fun ds ah1 η1 xs H1 s1 e1 r1 h1 => ?_
  by_cases hl : ds.length ≤ 16777216
  · rw [if_pos hl] at h1
    refine ⟨by rw [r1.length]; exact hl, fun p hp => ?_⟩
    have el : (ah1 ++ [O.lst ds]).length = ah1.length + 1 := by simp
    refine h1 (etaN η1 ah1.length p) (.ref p) _ (by rw [el]; exact ext_new hp) (relH_new s1.hh hp rfl ⟨xs, upd_same, RelDs.ext (ext_new hp) _ _ r1⟩) ⟨by rw [el]; exact Nat.lt_succ_self _, by rw [etaN_at]⟩
  · rw [if_neg hl] at h1
    exact h1.elim
theorem de_if (hc : DT X W c ft) (ha : DE X W a fa) (hb : DE X W b fb) : DE X W (.IfExp c a b pos) (dIf ft fa fb) := PE.imp (pe_ifExp hc ha hb) fun σ H Q h => by
  obtain ⟨η, σd, ah, sim, h⟩ := h
  refine tT_bind sim h fun d ah1 η1 H1 s1 e1 h1 => ?_
  cases d with
  | true => exact ⟨η1, σd, ah1, s1, h1⟩
  | false => exact ⟨η1, σd, ah1, s1, h1⟩
theorem tru_ok {d : D} {v : V} {k : Bool} (hh : RelH X.K X.mg η ah H) (r : RelD η ah.length H d v) (e : truD d ah = some k) : TruV X.K v H k := by
  cases d with
  | non => cases (show v = _ from r); cases e; rfl
  | bl b => cases (show v = _ from r); cases e; rfl
  | int i => cases (show v = _ from r); cases e; rfl
  | str s =>
    cases (show v = _ from r)
    unfold truD at e
    dsimp only at e
    by_cases hl : s.length ≤ 16777216
    · rw [if_pos hl] at e
      cases e
      refine ⟨hl, ?_⟩
      cases s with
      | nil => rfl
      | cons a t =>
        show true = _
        symm
        rw [bne_iff_ne]
        show ((a :: t).toArray.size : Int) ≠ 0
        simp
        omega
    · rw [if_neg hl] at e; cases e
  | tup ds =>
    obtain ⟨p, vs, rfl, h1, h2⟩ := r
    cases e
    refine .inr (.inl ⟨vs, h1.sq, ?_⟩)
    have := h2.length
    cases ds <;> cases vs <;> simp_all
  | ref n =>
    obtain ⟨hn, rfl⟩ := r
    unfold truD at e
    dsimp only at e
    split at e
    · rename_i ds q
      obtain ⟨vs, h1, h2⟩ := hh.obj n _ q
      cases e
      refine .inl ⟨vs, .of h1, ?_⟩
      have := h2.length
      cases ds <;> cases vs <;> simp_all
    · rename_i ds q
      obtain ⟨vs, h2, h1⟩ := hh.obj n _ q
      cases e
      refine .inl ⟨vs, ?_, ?_⟩
      · rcases h1 with ⟨ob, h1⟩ | h1
        · exact .inl (.inr ⟨ob, h1⟩)
        · exact .inr h1
      · have := h2.length
        cases ds <;> cases vs <;> simp_all
    · cases e
theorem dt_tru (ha : DE X W a fa) (he : ∀ whole, isTrue a X.env whole = (do let v ← whole; standAt a.pos; holding [v] (truthy v)) := by intro _; rfl) : DT X W a (dTru fa) := PT.imp (pt_truth ha he) fun σ H Q h => by
  obtain ⟨η, σd, ah, sim, h⟩ := h
  refine tE_bindT sim h fun d ah1 η1 v H1 s1 e1 r1 h1 => ?_
  cases q : truD d ah1 with
  | none => rw [q] at h1; exact h1.elim
  | some k =>
    rw [q] at h1
    exact ⟨k, tru_ok s1.hh r1 q, h1 η1 H1 Ext.refl s1.hh⟩
/-- a bool as a test -/
def isBk (d : D) (h : AH) : RT := match d with
  | .bl b => .ok b h
  | _ => .bad
theorem isB_eq (f : SE) (σ : Lc) (h : AH) : isB f σ h = (f σ h).bindT isBk := rfl
theorem RPT.isB {r : R} {Q : Bool → Hp → Prop} (h : RPT X.K X.mg W η N σ H (r.bindT isBk) Q) : RP X.K X.mg W η N σ H r fun z H' => ∃ k, z = .bl k ∧ Q k H' := by
  cases r with
  | ok d ah' =>
    cases d with
    | bl b => exact fun η' v H' e r1 r2 => ⟨b, r2, h η' H' e r1⟩
    | _ => exact h.elim
  | exc x ah' => exact h
  | bad => exact h
theorem dt_cmp {op : CmpOp} {o2 : Op2} (ho : OpR X (compareOp op) (rD2 X.K X.mg o2)) (ha : DE X W a fa) (hb : DE X W b fb) (hm : behindInMarks op b = false := by first | exact nomark _ | rfl) : DT X W (.Compare a [op] [b] pos) (isB (dBin o2 fa fb)) := PT.imp (pt_cmpR ho ha hb hm) fun σ H Q h => by
  obtain ⟨η, σd, ah, sim, h⟩ := h
  rw [isB_eq] at h
  exact tE_bind sim h.isB fun dx ah1 η1 x H1 s1 e1 r1 h1 => tE_bind s1 h1 fun dy ah2 η2 y H2 s2 e2 r2 h2 => ⟨η2, ah2, dx, dy, s2.hh, r1.ext e2, r2, .of h2⟩
/-- an expression whose value is a bool, as a test -/
theorem dt_val (ha : DE X W a fa) (he : ∀ whole, isTrue a X.env whole = (do let v ← whole; standAt a.pos; holding [v] (truthy v)) := by intro _; rfl) : DT X W a (isB fa) := PT.imp (pt_val ha he) fun σ H Q h => by
  obtain ⟨η, σd, ah, sim, h⟩ := h
  rw [isB_eq] at h
  exact ⟨η, σd, ah, sim, h.isB⟩
theorem ofO_chn {r : Option (D × AH)} {k : D → AH → R} (h : RP X.K X.mg W η N σ H ((ofO r).bind k) Q) : ∃ d ah', r = some (d, ah') ∧ RP X.K X.mg W η N σ H (k d ah') Q := by
  cases r with
  | none => exact h.elim
  | some p => exact ⟨p.1, p.2, rfl, h⟩
theorem de_chain {op op' : CmpOp} {o o' : Op2} (ho : OpR X (compareOp op) (rD2 X.K X.mg o)) (ho' : OpR X (compareOp op') (rD2 X.K X.mg o')) (ha : DE X W a fa) (hb : DE X W b fb) (hc : DE X W c fc)
    (hm : lastMarks [op, op'] [b, c] = false := by with_unfolding_all rfl) : DE X W (.Compare a [op, op'] [b, c] pos) (dChn o o' fa fb fc) := PE.imp (pe_chain ho ho' ha hb hc hm) fun σ H Q h => by
  obtain ⟨η, σd, ah, sim, h⟩ := h
  refine tE_bind sim h fun dx ah1 η1 x H1 s1 e1 r1 h1 => tE_bind s1 h1 fun dy ah2 η2 y H2 s2 e2 r2 h2 => ?_
  obtain ⟨dz, ah3, ez, h3⟩ := ofO_chn h2
  refine ⟨η2, ah2, dx, dy, s2.hh, r1.ext e2, r2, dz, ah3, ez, fun η3 z H3 e3 rh3 r3 => ?_⟩
  cases dz with
  | bl k =>
    refine ⟨k, r3, ?_⟩
    cases k with
    | false => exact h3 η3 _ H3 e3 rh3 rfl
    | true =>
      rw [if_pos rfl]
      have s3 := s2.ext e3 rh3
      exact tE_bind s3 (RP.base e3 h3) fun dw ah4 η4 w H4 s4 e4 r4 h4 => ⟨η4, ah4, dy, dw, s4.hh, (r2.ext e3).ext e4, r4, .of h4⟩
  | _ => exact h3.elim
theorem dt_chain {op op' : CmpOp} {o o' : Op2} (ho : OpR X (compareOp op) (rD2 X.K X.mg o)) (ho' : OpR X (compareOp op') (rD2 X.K X.mg o')) (ha : DE X W a fa) (hb : DE X W b fb) (hc : DE X W c fc)
    (hm : lastMarks [op, op'] [b, c] = false := by with_unfolding_all rfl) : DT X W (.Compare a [op, op'] [b, c] pos) (isB (dChn o o' fa fb fc)) := PT.imp (pt_chain ho ho' ha hb hc hm) fun σ H Q h => by
  obtain ⟨η, σd, ah, sim, h⟩ := h
  rw [isB_eq] at h
  refine tE_bind sim h.isB fun dx ah1 η1 x H1 s1 e1 r1 h1 => tE_bind s1 h1 fun dy ah2 η2 y H2 s2 e2 r2 h2 => ?_
  obtain ⟨dz, ah3, ez, h3⟩ := ofO_chn h2
  refine ⟨η2, ah2, dx, dy, s2.hh, r1.ext e2, r2, dz, ah3, ez, fun η3 z H3 e3 rh3 r3 => ?_⟩
  cases dz with
  | bl k =>
    refine ⟨k, r3, ?_⟩
    cases k with
    | false => exact h3 η3 _ H3 e3 rh3 rfl
    | true =>
      rw [if_pos rfl]
      have s3 := s2.ext e3 rh3
      exact tE_bind s3 (RP.base e3 h3) fun dw ah4 η4 w H4 s4 e4 r4 h4 => ⟨η4, ah4, dy, dw, s4.hh, (r2.ext e3).ext e4, r4, .of h4⟩
  | _ => exact h3.elim

/-! ### and, or, not -/
theorem dw_and1 (ha : DT X W a ft) : DW X W (.BoolOp .And [a] pos) ft := pw_and1 ha
theorem dw_or1 (ha : DT X W a ft) : DW X W (.BoolOp .Or [a] pos) ft := pw_or1 ha
theorem dw_and (ha : DT X W a ft) (hb : DW X W (.BoolOp .And (b :: rest) pos) fu) : DW X W (.BoolOp .And (a :: b :: rest) pos) (dAnd ft fu) := PW.imp (pw_and ha hb) fun σ H Q h => by
  obtain ⟨η, σd, ah, sim, h⟩ := h
  refine tT_bindT sim h fun d ah1 η1 H1 s1 e1 h1 => ?_
  cases d with
  | true => exact ⟨η1, σd, ah1, s1, h1⟩
  | false => exact h1 η1 H1 Ext.refl s1.hh
theorem dw_or (ha : DT X W a ft) (hb : DW X W (.BoolOp .Or (b :: rest) pos) fu) : DW X W (.BoolOp .Or (a :: b :: rest) pos) (dOr ft fu) := PW.imp (pw_or ha hb) fun σ H Q h => by
  obtain ⟨η, σd, ah, sim, h⟩ := h
  refine tT_bindT sim h fun d ah1 η1 H1 s1 e1 h1 => ?_
  cases d with
  | true => exact h1 η1 H1 Ext.refl s1.hh
  | false => exact ⟨η1, σd, ah1, s1, h1⟩
theorem DW.dt (h : DW X W a ft) : DT X W a ft := PW.pt h
theorem dt_not (ha : DT X W a ft) : DT X W (.UnaryOp .Not a pos) (dNot ft) := PT.imp (pt_not ha) fun σ H Q h => by
  obtain ⟨η, σd, ah, sim, h⟩ := h
  refine tT_bindT sim h fun d ah1 η1 H1 s1 e1 h1 => h1 η1 H1 Ext.refl s1.hh
theorem de_one {op} (h : DE X W a fa) : DE X W (.BoolOp op [a] pos) fa := pe_one h
theorem de_and (ha : DE X W a fa) (hb : DE X W (.BoolOp .And (b :: rest) pos) fb) : DE X W (.BoolOp .And (a :: b :: rest) pos) (dAndV fa fb) := PE.imp (pe_andT ha hb) fun σ H Q h => by
  obtain ⟨η, σd, ah, sim, h⟩ := h
  refine tE_bind sim h fun d ah1 η1 v H1 s1 e1 r1 h1 => ?_
  cases q : truD d ah1 with
  | none => rw [q] at h1; exact h1.elim
  | some k =>
    rw [q] at h1
    refine ⟨k, tru_ok s1.hh r1 q, ?_⟩
    cases k with
    | true => exact ⟨η1, σd, ah1, s1, h1⟩
    | false => exact h1 η1 _ H1 Ext.refl s1.hh r1
theorem de_or (ha : DE X W a fa) (hb : DE X W (.BoolOp .Or (b :: rest) pos) fb) : DE X W (.BoolOp .Or (a :: b :: rest) pos) (dOrV fa fb) := PE.imp (pe_orT ha hb) fun σ H Q h => by
  obtain ⟨η, σd, ah, sim, h⟩ := h
  refine tE_bind sim h fun d ah1 η1 v H1 s1 e1 r1 h1 => ?_
  cases q : truD d ah1 with
  | none => rw [q] at h1; exact h1.elim
  | some k =>
    rw [q] at h1
    refine ⟨k, tru_ok s1.hh r1 q, ?_⟩
    cases k with
    | false => exact ⟨η1, σd, ah1, s1, h1⟩
    | true => exact h1 η1 _ H1 Ext.refl s1.hh r1
theorem de_not (ha : DE X W a fa) : DE X W (.UnaryOp .Not a pos) (dNotV fa) := PE.imp (pe_not ha) fun σ H Q h => by
  obtain ⟨η, σd, ah, sim, h⟩ := h
  refine tE_bind sim h fun d ah1 η1 v H1 s1 e1 r1 h1 => ?_
  cases d with
  | bl k => exact ⟨k, r1, h1 η1 _ H1 Ext.refl s1.hh rfl⟩
  | _ => exact h1.elim
end

/-! ## statements -/
def sNil : SS := fun σ h => .nx σ h
def sSeq (s t : SS) : SS := fun σ h => (s σ h).bind t
def sSet (i : Nat) (f : SE) : SS := fun σ h => (f σ h).bindS σ fun d h1 => .nx (σ.set i (some d)) h1
def sDrop (f : SE) : SS := fun σ h => (f σ h).bindS σ fun _ h1 => .nx σ h1
def sRet (f : SE) : SS := fun σ h => (f σ h).bindS σ fun d h1 => .rt d h1
def sRetN : SS := fun _ h => .rt .non h
def sIf (ft : SB) (s t : SS) : SS := fun σ h => (ft σ h).bindS σ fun b h1 => if b = true then s σ h1 else t σ h1
def sBrk : SS := fun σ h => .bk σ h
def sCnt : SS := fun σ h => .ct σ h
section
variable {a b c o : Expr} {es rest : List Expr} {fa fb fc fo : SE} {fs : SA} {ft fu : SB} {pos : Pos} {st : Stmt} {sts : List Stmt} {s t : SS} {E : Ends}
theorem tS_go {P : Ends} (sim : Sim X.K X.mg η σd ah σ H) (h : RPS X.K X.mg W η ah.length H (s σd ah) P) : tS X.K X.mg W s P σ H := ⟨η, σd, ah, sim, h⟩
theorem RPS.mono {r : RS} {D E : Ends} (h : RPS X.K X.mg W η N H r D) (h1 : ∀ σ H, D.nx σ H → E.nx σ H) (h2 : ∀ v H, D.rt v H → E.rt v H) (h3 : ∀ σ H, D.bk σ H → E.bk σ H) (h4 : ∀ σ H, D.ct σ H → E.ct σ H) : RPS X.K X.mg W η N H r E := by
  cases r with
  | nx l ah' => exact fun η' σ' H' e r => h1 _ _ (h η' σ' H' e r)
  | bk l ah' => exact fun η' σ' H' e r => h3 _ _ (h η' σ' H' e r)
  | ct l ah' => exact fun η' σ' H' e r => h4 _ _ (h η' σ' H' e r)
  | rt d ah' => exact fun η' v H' e r r' => h2 _ _ (h η' v H' e r r')
  | exc x l ah' => exact h
  | bad => exact h
theorem dss_nil : DSs X W [] sNil := PSs.imp pss_nil fun D σ H h => by
  obtain ⟨η, σd, ah, sim, h⟩ := h
  exact h η σ H Ext.refl sim
theorem seq_core {D : Ends} (h : RPS X.K X.mg W η N H ((s σd ah).bind t) D) : RPS X.K X.mg W η N H (s σd ah) { D with nx := fun σ' H' => ∃ η' σd' ah', Sim X.K X.mg η' σd' ah' σ' H' ∧ RPS X.K X.mg W η' ah'.length H' (t σd' ah') D } := by
  generalize s σd ah = r at h
  cases r with
  | nx l ah1 => exact fun η' σ' H' e r => ⟨η', l, ah1, r, RPS.base e h⟩
  | bk l ah' => exact h
  | ct l ah' => exact h
  | rt d ah' => exact h
  | exc x l ah' => exact h
  | bad => exact h
theorem dss_cons (h1 : DS X W st s) (h2 : DSs X W sts t) : DSs X W (st :: sts) (sSeq s t) := PSs.imp (pss_cons h1 h2) fun D σ H h => by
  obtain ⟨η, σd, ah, sim, h⟩ := h
  exact ⟨η, σd, ah, sim, seq_core h⟩
theorem dss_one (h1 : DS X W st s) : DSs X W [st] s := pss_one h1
theorem ds_set (i : Nat) {x : Str} {pos' : Pos} (hN : X.N.Nodup) (ha : DE X W a fa) (hi : X.N[i]? = some x := by rfl) (hx : L2.Loc X.env.scope x := by first | exact Or.inl rfl | exact Or.inr rfl) (hs : swapsWith a (some (.Name x pos')) pos.line X.env = pure false := by rfl) (hf : X.fn x = true ∨ X.env.scope.names.lookup x = some .local := by first | exact .inl rfl | exact .inr rfl) :
    DS X W (.Assign [.Name x pos'] a pos) (sSet i fa) := PS.imp (ps_set hN hi hx ha hs hf) fun D σ H h => by
  obtain ⟨η, σd, ah, sim, h⟩ := h
  exact tE_bindS sim h fun d ah1 η1 v H1 s1 e1 r1 h1 => h1 η1 _ H1 Ext.refl (s1.set r1)
theorem ds_expr (ha : DE X W a fa) (hs : swapsWith a none pos.line X.env = pure false := by rfl) : DS X W (.Expr a pos) (sDrop fa) := PS.imp (ps_expr ha hs) fun D σ H h => by
  obtain ⟨η, σd, ah, sim, h⟩ := h
  exact tE_bindS sim h fun d ah1 η1 v H1 s1 e1 r1 h1 => h1 η1 _ H1 Ext.refl s1
theorem ds_ret (ha : DE X W a fa) : DS X W (.Return (some a) pos) (sRet fa) := PS.imp (ps_ret ha) fun D σ H h => by
  obtain ⟨η, σd, ah, sim, h⟩ := h
  exact tE_bindS sim h fun d ah1 η1 v H1 s1 e1 r1 h1 => h1 η1 _ H1 Ext.refl s1.hh r1
theorem ds_retN : DS X W (.Return none pos) sRetN := PS.imp ps_retN fun D σ H h => by
  obtain ⟨η, σd, ah, sim, h⟩ := h
  exact h η _ H Ext.refl sim.hh rfl
theorem ds_pass : DS X W (.Pass pos) sNil := PS.imp ps_pass fun D σ H h => by
  obtain ⟨η, σd, ah, sim, h⟩ := h
  exact h η σ H Ext.refl sim
theorem ds_brk : DS X W (.Break pos) sBrk := PS.imp ps_break fun D σ H h => by
  obtain ⟨η, σd, ah, sim, h⟩ := h
  exact h η σ H Ext.refl sim
theorem ds_cnt : DS X W (.Continue pos) sCnt := PS.imp ps_continue fun D σ H h => by
  obtain ⟨η, σd, ah, sim, h⟩ := h
  exact h η σ H Ext.refl sim
theorem ds_if {as bs : List Stmt} (hc : DT X W c ft) (ha : DSs X W as s) (hb : DSs X W bs t) : DS X W (.If c as bs pos) (sIf ft s t) := PS.imp (ps_if hc ha hb) fun D σ H h => by
  obtain ⟨η, σd, ah, sim, h⟩ := h
  refine tT_bindS sim h fun d ah1 η1 H1 s1 e1 h1 => ?_
  cases d with
  | true => exact ⟨η1, σd, ah1, s1, h1⟩
  | false => exact ⟨η1, σd, ah1, s1, h1⟩
end
end
end DL


set_option maxRecDepth 100000
namespace DL
open PySem PySem.Spec PyProof.Rows L2

/-! ## things walked -/
inductive RI where
  | ok (items : List D) (gd : AH → Prop) (h : AH) | exc (x : Str) (h : AH) | bad
abbrev SI := Lc → AH → RI
def R.bindI (r : R) (k : D → AH → RI) : RI := match r with | .ok d h => k d h | .exc x h => .exc x h | .bad => .bad
def RA.bindI (r : RA) (k : List D → AH → RI) : RI := match r with | .ok d h => k d h | .exc x h => .exc x h | .bad => .bad
/-- the iterator J walks these items, as long as gd holds -/
structure JOk (K : PySem.W.Frag) (mg : Str → Option Value) (η0 : Nat → Addr) (N0 : Nat) (H0 : Hp) (J : It) (items : List D) (gd : AH → Prop) : Prop where
  go : ∀ i η ah H, Ext η0 N0 H0 η ah.length H → RelH K mg η ah H → gd ah → i < items.length → J.go i H
  stop : ∀ i η ah H, Ext η0 N0 H0 η ah.length H → RelH K mg η ah H → gd ah → items.length ≤ i → J.stop i H
  yld : ∀ i η ah H x H' d, Ext η0 N0 H0 η ah.length H → RelH K mg η ah H → gd ah → items[i]? = some d → J.yld i H x H' → RelH K mg η ah H' ∧ Ext η ah.length H η ah.length H' ∧ RelD η ah.length H' d x
section
variable (K : PySem.W.Frag) (mg : Str → Option Value) (W : WX)
def RPI (η : Nat → Addr) (N : Nat) (σ : L2.St) (H : Hp) (r : RI) (R : It → Hp → Prop) : Prop := match r with
  | .ok items gd ah' => ∀ η' H', Ext η N H η' ah'.length H' → RelH K mg η' ah' H' → ∀ J, JOk K mg η' ah'.length H' J items gd → R J H'
  | .exc x ah' => XP K mg W η N σ H x ah'
  | .bad => False
def tI (f : SI) : TI := fun σ H R => ∃ η σd ah, Sim K mg η σd ah σ H ∧ RPI K mg W η ah.length σ H (f σd ah) R
end
section
variable (X : Cx) (W : WX)
def DI (tg e : Expr) (f : SI) : Prop := PI X tg e (tI X.K X.mg W f)
abbrev GF := D → Lc → AH → Option Lc
abbrev GFs := List D → Lc → AH → Option Lc
end
section
variable (K : PySem.W.Frag) (mg : Str → Option Value)
def tG (sl : List Nat) (g : GF) : TG := fun v σ H Q => ∃ η σd ah d σd', Sim K mg η σd ah σ H ∧ RelD η ah.length H d v ∧ g d σd ah = some σd' ∧
  ∀ σ', Sim K mg η σd' ah σ' H → (∀ ws : List Nat, (∀ i ∈ sl, i ∈ ws) → wipe σ' ws = wipe σ ws) → Q σ' H
def tGs (sl : List Nat) (g : GFs) : TGs := fun vs σ H Q => ∃ η σd ah ds σd', Sim K mg η σd ah σ H ∧ RelDs η ah.length H ds vs ∧ g ds σd ah = some σd' ∧
  ∀ σ', Sim K mg η σd' ah σ' H → (∀ ws : List Nat, (∀ i ∈ sl, i ∈ ws) → wipe σ' ws = wipe σ ws) → Q σ' H
end
section
variable (X : Cx)
def DG (sl : List Nat) (tg : Expr) (g : GF) : Prop := PG X tg (tG X.K X.mg sl g)
def DGs (sl : List Nat) (tgs : List Expr) (g : GFs) : Prop := PGs X tgs (tGs X.K X.mg sl g)
end
/-! ### targets -/
def gNm (i : Nat) : GF := fun d σ _ => some (σ.set i (some d))
def gsNil : GFs := fun ds σ _ => match ds with
  | [] => some σ
  | _ => none
def gsCons (g : GF) (gs : GFs) : GFs := fun ds σ h => match ds with
  | [] => none
  | d :: r => (g d σ h).bind fun σ' => gs r σ' h
def gTp (n : Nat) (gs : GFs) : GF := fun d σ h => match d with
  | .tup ds => if ds.length = n then gs ds σ h else none
  | .ref m => match h[m]? with
    | some (.lst ds) => if ds.length = n then gs ds σ h else none
    | _ => none
  | _ => none
section
variable {X : Cx} {W : WX} {η η' η1 : Nat → Addr} {N N1 : Nat} {σd : Lc} {ah ah' ah1 : AH} {σ : L2.St} {H H' H1 : Hp} {Q : VK} {pos : Pos}
theorem PG.imp {e : Expr} {t t' : TG} (h : PG X e t) (k : ∀ v σ H Q, t' v σ H Q → t v σ H Q) : PG X e t' := ⟨fun pins s σ H v u Q I r q => h.run pins s σ H v u Q I r (k _ _ _ _ q)⟩
theorem PGs.imp {e : List Expr} {t t' : TGs} (h : PGs X e t) (k : ∀ v σ H Q, t' v σ H Q → t v σ H Q) : PGs X e t' := ⟨fun pins s σ H v u Q I r q => h.run pins s σ H v u Q I r (k _ _ _ _ q)⟩
theorem PI.imp {tg e : Expr} {t t' : TI} (h : PI X tg e t) (k : ∀ σ H R, t' σ H R → t σ H R) : PI X tg e t' := ⟨fun pins s σ H R I q => h.run pins s σ H R I (k _ _ _ q)⟩
theorem wipe_set {σ : L2.St} {i : Nat} {x : Option V} : ∀ {ws : List Nat}, i ∈ ws → wipe (σ.set i x) ws = wipe σ ws := by
  intro ws
  have base : ∀ (ws : List Nat) (σ : L2.St) (i : Nat) (x : Option V), i ∉ ws → wipe (σ.set i x) ws = (wipe σ ws).set i x := by
    intro ws
    induction ws with
    | nil => intro σ i x _; rfl
    | cons v vs ih =>
      intro σ i x hi
      simp only [List.mem_cons, not_or] at hi
      show (wipe (σ.set i x) vs).set v none = ((wipe σ vs).set v none).set i x
      rw [ih σ i x hi.2, List.set_comm _ _ hi.1]
  induction ws with
  | nil => intro h; cases h
  | cons v vs ih =>
    intro h
    show (wipe (σ.set i x) vs).set v none = (wipe σ vs).set v none
    by_cases hv : i ∈ vs
    · rw [ih hv]
    · have e : i = v := by
        rcases List.mem_cons.mp h with e | e
        · exact e
        · exact absurd e hv
      subst e
      rw [base vs σ i x hv, List.set_set]
theorem dg_nm (i : Nat) {x : Str} (hN : X.N.Nodup) (hi : X.N[i]? = some x := by rfl) (hx : L2.Loc X.env.scope x := by first | exact Or.inl rfl | exact Or.inr rfl) (hf : X.fn x = true ∨ X.env.scope.names.lookup x = some .local := by first | exact .inl rfl | exact .inr rfl) : DG X [i] (.Name x pos) (gNm i) := PG.imp (pg_name hN hi hx hf) fun v σ H Q h => by
  obtain ⟨η, σd, ah, d, σd', sim, r, e, q⟩ := h
  cases e
  exact q _ (sim.set r) fun ws hw => wipe_set (hw i (by simp))
theorem dgs_nil : DGs X [] [] gsNil := PGs.imp pgs_nil fun v σ H Q h => by
  obtain ⟨η, σd, ah, ds, σd', sim, r, e, q⟩ := h
  cases ds with
  | nil =>
    cases e
    exact ⟨r, q σ sim fun _ _ => rfl⟩
  | cons a b => cases e
theorem dgs_cons {e : Expr} {es : List Expr} {sl sl' : List Nat} {g : GF} {gs : GFs} (h1 : DG X sl e g) (h2 : DGs X sl' es gs)
    (hs : (assignEach (e :: es) X.env).map (·.2) = assign e X.env :: (assignEach es X.env).map (·.2) := by rfl) : DGs X (sl ++ sl') (e :: es) (gsCons g gs) := PGs.imp (pgs_cons h1 h2 hs) fun v σ H Q h => by
  obtain ⟨η, σd, ah, ds, σd', sim, r, e, q⟩ := h
  cases ds with
  | nil => cases e
  | cons d ds =>
    obtain ⟨v, vs, rfl, r1, r2⟩ := r
    have e' : (g d σd ah).bind (fun σ' => gs ds σ' ah) = some σd' := e
    obtain ⟨σ1, e1, e2⟩ := Option.bind_eq_some_iff.mp e'
    refine ⟨v, vs, rfl, η, σd, ah, d, σ1, sim, r1, e1, fun σ2 s2 w2 => ⟨η, σ1, ah, ds, σd', s2, r2, e2, fun σ3 s3 w3 => q σ3 s3 fun ws hw => ?_⟩⟩
    rw [w3 ws fun i hi => hw i (List.mem_append_right _ hi), w2 ws fun i hi => hw i (List.mem_append_left _ hi)]
theorem PG.or {e : Expr} {t t' : TG} (h : PG X e t) (h' : PG X e t') : PG X e (fun v σ H Q => t v σ H Q ∨ t' v σ H Q) := ⟨fun pins s σ H v u Q I r q => q.elim (h.run pins s σ H v u Q I r) (h'.run pins s σ H v u Q I r)⟩
theorem dg_tup {es : List Expr} {k : Nat} {sl : List Nat} {gs : GFs} {n : Nat} (hc : X.calm = true) (h : DGs X sl es gs)
    (hn : (assignEach es X.env).length = n := by rfl) (hst : (assignEach es X.env).findIdx? (·.1) = none := by rfl) : DG X sl (.Tuple es k pos) (gTp n gs) := PG.imp (PG.or (pg_tup hc h hn hst) (pg_lst hc h hn hst)) fun v σ H Q h => by
  obtain ⟨η, σd, ah, d, σd', sim, r, e, q⟩ := h
  cases d with
  | tup ds =>
    obtain ⟨a, vs, rfl, h1, h2⟩ := r
    have e' : (if ds.length = n then gs ds σd ah else none) = some σd' := e
    by_cases hl : ds.length = n
    · rw [if_pos hl] at e'
      exact .inl ⟨a, vs, rfl, h1.sq, by rw [h2.length]; exact hl, η, σd, ah, ds, σd', sim, h2, e', q⟩
    · rw [if_neg hl] at e'; cases e'
  | ref m =>
    obtain ⟨hm, rfl⟩ := r
    unfold gTp at e
    dsimp only at e
    split at e
    · rename_i ds q'
      obtain ⟨vs, h1, h2⟩ := sim.hh.obj m _ q'
      by_cases hl : ds.length = n
      · rw [if_pos hl] at e
        exact .inr ⟨_, vs, rfl, .of h1, by rw [h2.length]; exact hl, η, σd, ah, ds, σd', sim, h2, e, q⟩
      · rw [if_neg hl] at e; cases e
    · cases e
  | _ => cases e

/-! ### iterables -/
theorem PI.or {tg e : Expr} {t t' : TI} (h : PI X tg e t) (h' : PI X tg e t') : PI X tg e (fun σ H R => t σ H R ∨ t' σ H R) := ⟨fun pins s σ H R I q => q.elim (h.run pins s σ H R I) (h'.run pins s σ H R I)⟩
/-- a list, a tuple, a text -/
def iK (d : D) (h : AH) : RI := match d with
  | .tup ds => .ok ds (fun _ => True) h
  | .str s => .ok (s.map fun c => .str [c]) (fun _ => True) h
  | .ref n => match h[n]? with
    | some (.lst ds) => .ok ds (fun h' => h'[n]? = some (.lst ds)) h
    | some (.scr ds) => .ok ds (fun h' => h'[n]? = some (.scr ds)) h
    | _ => .bad
  | _ => .bad
def iSeq (f : SE) : SI := fun σ h => (f σ h).bindI iK
theorem SqL_of_scr {K : PySem.W.Frag} {mg : Str → Option Value} {η : Nat → Addr} {N : Nat} {H : Hp} {a : Addr} {ds : List D} (h : RelO K mg η N H a (.scr ds)) : ∃ vs, SqL K H a vs ∧ RelDs η N H ds vs := by
  obtain ⟨vs, h2, h1⟩ := h
  refine ⟨vs, ?_, h2⟩
  rcases h1 with ⟨ob, h1⟩ | h1
  · exact .inl (.inr ⟨ob, h1⟩)
  · exact .inr h1
theorem RelDs.none {ds : List D} {vs : List V} {i : Nat} (h : RelDs η N H ds vs) (hi : ds.length ≤ i) : vs.length ≤ i := by rw [h.length]; exact hi
theorem jok_tup {a : Addr} {ds : List D} {vs : List V} {b : Bool} (ha : TupAt H a vs b) (r : RelDs η N H ds vs) : JOk X.K X.mg η N H (Itt X.K a) ds (fun _ => True) where
  go := fun i η' ah H' e hh _ hi => by
    obtain ⟨v, hv, _⟩ := r.get (List.getElem?_eq_getElem hi)
    exact ⟨vs, v, (e.st _ _ _ ha).sq, hv⟩
  stop := fun i η' ah H' e hh _ hi => ⟨vs, (e.st _ _ _ ha).sq, r.none hi⟩
  yld := fun i η' ah H' x H2 d e hh _ hd y => by
    obtain ⟨rfl, y⟩ := y
    obtain ⟨v, hv, rv⟩ := r.get hd
    have e2 := (y vs ((e.st _ _ _ ha).sq)).symm.trans hv
    cases e2
    exact ⟨hh, Ext.refl, rv.ext e⟩
theorem jok_lst {n : Nat} {ds : List D} (hn : n < N) (g : O) (sq : ∀ {η' : Nat → Addr} {N' : Nat} {H' : Hp}, RelO X.K X.mg η' N' H' (η' n) g → ∃ vs, SqL X.K H' (η' n) vs ∧ RelDs η' N' H' ds vs) : JOk X.K X.mg η N H (Itl X.K (η n)) ds (fun h => h[n]? = some g) where
  go := fun i η' ah H' e hh hg hi => by
    obtain ⟨vs, h1, h2⟩ := sq (hh.obj n _ hg)
    rw [e.eta n hn] at h1
    obtain ⟨v, hv, _⟩ := h2.get (List.getElem?_eq_getElem hi)
    exact ⟨vs, v, h1, hv⟩
  stop := fun i η' ah H' e hh hg hi => by
    obtain ⟨vs, h1, h2⟩ := sq (hh.obj n _ hg)
    rw [e.eta n hn] at h1
    exact ⟨vs, h1, h2.none hi⟩
  yld := fun i η' ah H' x H2 d e hh hg hd y => by
    obtain ⟨rfl, y⟩ := y
    obtain ⟨vs, h1, h2⟩ := sq (hh.obj n _ hg)
    rw [e.eta n hn] at h1
    obtain ⟨v, hv, rv⟩ := h2.get hd
    have e2 := (y vs h1).symm.trans hv
    cases e2
    exact ⟨hh, Ext.refl, rv⟩
theorem jok_str {s : List Nat} : JOk X.K X.mg η N H (Its (S s)) (s.map fun c => .str [c]) (fun _ => True) where
  go := fun i η' ah H' e hh _ hi => by
    rw [List.length_map] at hi
    show i < (S s).cps.size
    simpa using hi
  stop := fun i η' ah H' e hh _ hi => by
    rw [List.length_map] at hi
    show (S s).cps.size ≤ i
    simpa using hi
  yld := fun i η' ah H' x H2 d e hh _ hd y => by
    rw [List.getElem?_map] at hd
    obtain ⟨rfl, c, hc, rfl⟩ := y
    refine ⟨hh, Ext.refl, ?_⟩
    have hc' : s[i]? = some c := by simpa using hc
    rw [hc'] at hd
    cases hd
    rfl

theorem tE_bindI {f : SE} {k : D → AH → RI} {P : VK} {R : It → Hp → Prop} (sim : Sim X.K X.mg η σd ah σ H) (h : RPI X.K X.mg W η ah.length σ H ((f σd ah).bindI k) R)
    (hk : ∀ d ah1 η1 v H1, f σd ah = .ok d ah1 → Sim X.K X.mg η1 σd ah1 σ H1 → Ext η ah.length H η1 ah1.length H1 → RelD η1 ah1.length H1 d v → RPI X.K X.mg W η1 ah1.length σ H1 (k d ah1) R → P v H1) : tE X.K X.mg W f σ H P := by
  refine tE_go sim (fun q => by rw [q] at h; exact h) (fun x ah' q => by rw [q] at h; exact h) fun d ah1 η1 v H1 q s e r => hk d ah1 η1 v H1 q s e r ?_
  rw [q] at h
  cases h2 : k d ah1 with
  | ok items gd ah2 =>
    have h' : RPI X.K X.mg W η ah.length σ H (k d ah1) R := h
    rw [h2] at h'
    exact fun η' H' e' => h' η' H' (e.trans e')
  | exc x ah2 =>
    have h' : RPI X.K X.mg W η ah.length σ H (k d ah1) R := h
    rw [h2] at h'
    exact XP.base e h'
  | bad =>
    have h' : RPI X.K X.mg W η ah.length σ H (k d ah1) R := h
    rw [h2] at h'
    exact h'
theorem tA_bindI {f : SA} {k : List D → AH → RI} {P : List V → Hp → Prop} {R : It → Hp → Prop} (sim : Sim X.K X.mg η σd ah σ H) (h : RPI X.K X.mg W η ah.length σ H ((f σd ah).bindI k) R)
    (hk : ∀ d ah1 η1 v H1, f σd ah = .ok d ah1 → Sim X.K X.mg η1 σd ah1 σ H1 → Ext η ah.length H η1 ah1.length H1 → RelDs η1 ah1.length H1 d v → RPI X.K X.mg W η1 ah1.length σ H1 (k d ah1) R → P v H1) : tA X.K X.mg W f σ H P := by
  refine tA_go sim (fun q => by rw [q] at h; exact h) (fun x ah' q => by rw [q] at h; exact h) fun d ah1 η1 v H1 q s e r => hk d ah1 η1 v H1 q s e r ?_
  rw [q] at h
  have h' : RPI X.K X.mg W η ah.length σ H (k d ah1) R := h
  cases h2 : k d ah1 with
  | ok items gd ah2 => rw [h2] at h'; exact fun η' H' e' => h' η' H' (e.trans e')
  | exc x ah2 => rw [h2] at h'; exact XP.base e h'
  | bad => rw [h2] at h'; exact h'
section
variable {a b : Expr} {tg : Expr} {fa fb : SE} {fs : SA}
theorem di_seq (ha : DE X W a fa) : DI X W tg a (iSeq fa) := PI.imp (PI.or (PI.or (pi_list ha) (pi_tup ha)) (pi_str ha)) fun σ H R h => by
  obtain ⟨η, σd, ah, sim, h⟩ := h
  have hh : RPI X.K X.mg W η ah.length σ H ((fa σd ah).bindI iK) R := h
  cases q : fa σd ah with
  | bad => rw [q] at hh; exact hh.elim
  | exc x ah1 =>
    rw [q] at hh
    exact .inr (tE_go sim (fun z => by rw [q] at z; cases z) (fun y ah2 z => by rw [q] at z; cases z; exact hh) fun d ah1 η1 v H1 z => by rw [q] at z; cases z)
  | ok d0 ah0 =>
    cases d0 with
    | tup ds =>
      refine .inl (.inr (tE_bindI sim hh fun d ah1 η1 v H1 z s1 e1 r1 h1 => ?_))
      rw [q] at z; cases z
      obtain ⟨p, vs, rfl, h2, h3⟩ := r1
      exact ⟨p, rfl, ⟨vs, h2.sq⟩, h1 η1 H1 Ext.refl s1.hh _ (jok_tup h2 h3)⟩
    | str s =>
      refine .inr (tE_bindI sim hh fun d ah1 η1 v H1 z s1 e1 r1 h1 => ?_)
      rw [q] at z; cases z
      exact ⟨_, r1, h1 η1 H1 Ext.refl s1.hh _ jok_str⟩
    | ref n =>
      refine .inl (.inl (tE_bindI sim hh fun d ah1 η1 v H1 z s1 e1 r1 h1 => ?_))
      rw [q] at z; cases z
      obtain ⟨hn, rfl⟩ := r1
      unfold iK at h1
      dsimp only at h1
      split at h1
      · rename_i ds g
        obtain ⟨vs, h2, h3⟩ := s1.hh.obj n _ g
        exact ⟨_, rfl, ⟨vs, .of h2⟩, h1 η1 H1 Ext.refl s1.hh _ (jok_lst hn (.lst ds) fun hr => let ⟨vs, h2, h3⟩ := hr; ⟨vs, .of h2, h3⟩)⟩
      · rename_i ds g
        obtain ⟨vs, h2, h3⟩ := SqL_of_scr (s1.hh.obj n _ g)
        exact ⟨_, rfl, ⟨vs, h2⟩, h1 η1 H1 Ext.refl s1.hh _ (jok_lst hn (.scr ds) SqL_of_scr)⟩
      · exact h1.elim
    | _ => rw [q] at hh; exact hh.elim
/-- lo, lo + 1, .. -/
def iota (lo : Int) (n : Nat) : List D := (List.range n).map fun (i : Nat) => D.int (lo + (i : Int))
theorem iota_get {lo : Int} {n i : Nat} {d : D} (h : (iota lo n)[i]? = some d) : d = .int (lo + (i : Int)) ∧ i < n := by
  unfold iota at h
  rw [List.getElem?_map] at h
  cases q : (List.range n)[i]? with
  | none => rw [q] at h; cases h
  | some j =>
    rw [q] at h
    rw [List.getElem?_eq_some_iff] at q
    obtain ⟨h1, h2⟩ := q
    have : i = j := by simpa using h2
    subst this
    cases h
    exact ⟨rfl, by simpa using h1⟩
theorem iota_length {lo : Int} {n : Nat} : (iota lo n).length = n := by unfold iota; simp
theorem jok_rng {lo : Int} {n : Nat} : JOk X.K X.mg η N H (Itr lo n) (iota lo n) (fun _ => True) where
  go := fun i η' ah H' e hh _ hi => by rw [iota_length] at hi; exact hi
  stop := fun i η' ah H' e hh _ hi => by rw [iota_length] at hi; exact hi
  yld := fun i η' ah H' x H2 d e hh _ hd y => by
    obtain ⟨rfl, rfl⟩ := y
    refine ⟨hh, Ext.refl, ?_⟩
    rw [(iota_get hd).1]
    rfl
def small62 (i : Int) : Bool := decide (-(2 ^ 62) ≤ i) && decide (i < 2 ^ 62)
def iRg1K (ds : List D) (h : AH) : RI := match ds with
  | [.int n] => if small62 n = true then .ok (iota 0 n.toNat) (fun _ => True) h else .bad
  | _ => .bad
def iRg2K (ds : List D) (h : AH) : RI := match ds with
  | [.int m, .int n] => if (small62 m && small62 n) = true then .ok (iota m (n - m).toNat) (fun _ => True) h else .bad
  | _ => .bad
def iRng1 (fs : SA) : SI := fun σ h => (fs σ h).bindI iRg1K
def iRng2 (fs : SA) : SI := fun σ h => (fs σ h).bindI iRg2K
theorem iRg1K_inv {ds : List D} {h : AH} {R : It → Hp → Prop} (hr : RPI X.K X.mg W η N σ H (iRg1K ds h) R) : ∃ n : Int, ds = [.int n] ∧ small62 n = true := by
  unfold iRg1K at hr
  split at hr
  · rename_i n
    by_cases hs : small62 n = true
    · exact ⟨n, rfl, hs⟩
    · rw [if_neg hs] at hr; exact hr.elim
  · exact hr.elim
theorem iRg2K_inv {ds : List D} {h : AH} {R : It → Hp → Prop} (hr : RPI X.K X.mg W η N σ H (iRg2K ds h) R) : ∃ m n : Int, ds = [.int m, .int n] ∧ small62 m = true ∧ small62 n = true := by
  unfold iRg2K at hr
  split at hr
  · rename_i m n
    by_cases hs : (small62 m && small62 n) = true
    · have hs' := hs
      rw [Bool.and_eq_true] at hs'
      exact ⟨m, n, rfl, hs'.1, hs'.2⟩
    · rw [if_neg hs] at hr; exact hr.elim
  · exact hr.elim
theorem di_rng1 {p pos : Pos} (hg : Gl X "range") (hm : X.mg "range" = none) (ha : DA X W [a] fs) (hs : starEach [a] X.env = [(false, eval a X.env)] := by rfl) : DI X W tg (.Call (.Name "range" p) [a] [] pos) (iRng1 fs) := PI.imp (pi_range1 hg hm ha hs) fun σ H R h => by
  obtain ⟨η, σd, ah, sim, h⟩ := h
  refine tA_bindI sim h fun ds ah1 η1 vs H1 z s1 e1 r1 h1 => ?_
  obtain ⟨n, rfl, hs⟩ := iRg1K_inv h1
  obtain ⟨v, r, rfl, rfl, rfl⟩ := r1
  have h2 : RPI X.K X.mg W η1 ah1.length σ H1 (if small62 n = true then .ok (iota 0 n.toNat) (fun _ => True) ah1 else .bad) R := h1
  rw [if_pos hs] at h2
  simp only [small62, Bool.and_eq_true, decide_eq_true_eq] at hs
  exact ⟨n, rfl, hs.1, hs.2, h2 η1 H1 Ext.refl s1.hh _ jok_rng⟩
theorem di_rng2 {p pos : Pos} (hg : Gl X "range") (hm : X.mg "range" = none) (ha : DA X W [a, b] fs) (hs : starEach [a, b] X.env = [(false, eval a X.env), (false, eval b X.env)] := by rfl) (hs2 : starEach [b] X.env = [(false, eval b X.env)] := by rfl) : DI X W tg (.Call (.Name "range" p) [a, b] [] pos) (iRng2 fs) := PI.imp (pi_range2 hg hm ha hs hs2) fun σ H R h => by
  obtain ⟨η, σd, ah, sim, h⟩ := h
  refine tA_bindI sim h fun ds ah1 η1 vs H1 z s1 e1 r1 h1 => ?_
  obtain ⟨m, n, rfl, hs, ht⟩ := iRg2K_inv h1
  obtain ⟨v, r, rfl, rfl, w, r2, rfl, rfl, rfl⟩ := r1
  have h2 : RPI X.K X.mg W η1 ah1.length σ H1 (if (small62 m && small62 n) = true then .ok (iota m (n - m).toNat) (fun _ => True) ah1 else .bad) R := h1
  rw [if_pos (by rw [hs, ht]; rfl)] at h2
  simp only [small62, Bool.and_eq_true, decide_eq_true_eq] at hs ht
  exact ⟨m, n, rfl, ⟨hs.1, hs.2, ht.1, ht.2⟩, h2 η1 H1 Ext.refl s1.hh _ jok_rng⟩
/-! ### zip of two lists, of two tuples -/
def pairs (ds es : List D) : List D := (ds.zip es).map fun p => .tup [p.1, p.2]
def plainPs (ps : List D) : Prop := ∀ x y, D.tup [x, y] ∈ ps → nz [x, y] = false
theorem plainPs.at {ps : List D} {x y : D} {i : Nat} (h : plainPs ps) (e : ps[i]? = some (.tup [x, y])) : nz [x, y] = false := h x y (List.mem_of_getElem? e)
open Classical in
noncomputable def iZpK (ds : List D) (h : AH) : RI := match ds with
  | [.tup xs, .tup ys] => if plainPs (pairs xs ys) then .ok (pairs xs ys) (fun _ => True) h else .bad
  | [.ref m, .ref n] => match h[m]?, h[n]? with
    | some (.lst xs), some (.lst ys) => if plainPs (pairs xs ys) then .ok (pairs xs ys) (fun h' => h'[m]? = some (.lst xs) ∧ h'[n]? = some (.lst ys)) h else .bad
    | _, _ => .bad
  | _ => .bad
noncomputable def iZp (fs : SA) : SI := fun σ h => (fs σ h).bindI iZpK
theorem pairs_get {xs ys : List D} {i : Nat} {d : D} (h : (pairs xs ys)[i]? = some d) : ∃ x y, xs[i]? = some x ∧ ys[i]? = some y ∧ d = .tup [x, y] := by
  unfold pairs at h
  rw [List.getElem?_map] at h
  cases q : (xs.zip ys)[i]? with
  | none => rw [q] at h; cases h
  | some p =>
    rw [q] at h
    cases h
    rw [List.getElem?_zip_eq_some] at q
    exact ⟨p.1, p.2, q.1, q.2, rfl⟩
theorem pairs_length {xs ys : List D} : (pairs xs ys).length = min xs.length ys.length := by unfold pairs; simp
theorem rel_pair {x y : D} {v w : V} {T : Addr} {ah : AH} (hh : RelH X.K X.mg η ah H) (hT : H T = none) (r1 : RelD η ah.length H x v) (r2 : RelD η ah.length H y w) (hz : nz [x, y] = false) :
    RelH X.K X.mg η ah (upd H T (.tup [v, w])) ∧ Ext η ah.length H η ah.length (upd H T (.tup [v, w])) ∧ RelD η ah.length (upd H T (.tup [v, w])) (.tup [x, y]) (.ref T) :=
  ⟨relH_tup hh hT, ext_tup hT, T, [v, w], rfl, .ofF hz upd_same, v, [w], rfl, r1.ext (ext_tup hT), w, [], rfl, r2.ext (ext_tup hT), rfl⟩
theorem jok_zipT {p q : Addr} {xs ys : List D} {vs ws : List V} {b1 b2 : Bool} (hp : TupAt H p vs b1) (hq : TupAt H q ws b2) (r : RelDs η N H xs vs) (t : RelDs η N H ys ws) (hz : plainPs (pairs xs ys)) : JOk X.K X.mg η N H (RZ.ItzT X.K p q) (pairs xs ys) (fun _ => True) where
  go := fun i η' ah H' e hh _ hi => by
    rw [pairs_length] at hi
    obtain ⟨v, hv, _⟩ := r.get (List.getElem?_eq_getElem (show i < xs.length by omega))
    obtain ⟨w, hw, _⟩ := t.get (List.getElem?_eq_getElem (show i < ys.length by omega))
    exact ⟨vs, ws, v, w, (e.st _ _ _ hp).sq, (e.st _ _ _ hq).sq, hv, hw⟩
  stop := fun i η' ah H' e hh _ hi => by
    rw [pairs_length] at hi
    refine ⟨vs, ws, (e.st _ _ _ hp).sq, (e.st _ _ _ hq).sq, ?_⟩
    rw [r.length, t.length]
    omega
  yld := fun i η' ah H' x H2 d e hh _ hd y => by
    obtain ⟨T, x1, x2, rfl, hT, rfl, f1, f2⟩ := y
    obtain ⟨d1, d2, g1, g2, rfl⟩ := pairs_get hd
    obtain ⟨v, hv, rv⟩ := r.get g1
    obtain ⟨w, hw, rw'⟩ := t.get g2
    have e1 := (f1 vs ((e.st _ _ _ hp).sq)).symm.trans hv
    have e2 := (f2 ws ((e.st _ _ _ hq).sq)).symm.trans hw
    cases e1; cases e2
    exact rel_pair hh hT (rv.ext e) (rw'.ext e) (hz.at hd)
theorem jok_zipL {m n : Nat} {xs ys : List D} (hm : m < N) (hn : n < N) (hz : plainPs (pairs xs ys)) : JOk X.K X.mg η N H (Itz X.K (η m) (η n)) (pairs xs ys) (fun h' => h'[m]? = some (.lst xs) ∧ h'[n]? = some (.lst ys)) where
  go := fun i η' ah H' e hh hg hi => by
    rw [pairs_length] at hi
    obtain ⟨vs, h1, h2⟩ := hh.obj m _ hg.1
    obtain ⟨ws, h3, h4⟩ := hh.obj n _ hg.2
    rw [e.eta m hm] at h1
    rw [e.eta n hn] at h3
    obtain ⟨v, hv, _⟩ := h2.get (List.getElem?_eq_getElem (show i < xs.length by omega))
    obtain ⟨w, hw, _⟩ := h4.get (List.getElem?_eq_getElem (show i < ys.length by omega))
    exact ⟨vs, ws, v, w, .of h1, .of h3, hv, hw⟩
  stop := fun i η' ah H' e hh hg hi => by
    rw [pairs_length] at hi
    obtain ⟨vs, h1, h2⟩ := hh.obj m _ hg.1
    obtain ⟨ws, h3, h4⟩ := hh.obj n _ hg.2
    rw [e.eta m hm] at h1
    rw [e.eta n hn] at h3
    refine ⟨vs, ws, .of h1, .of h3, ?_⟩
    rw [h2.length, h4.length]
    omega
  yld := fun i η' ah H' x H2 d e hh hg hd y => by
    obtain ⟨T, x1, x2, rfl, hT, rfl, f1, f2⟩ := y
    obtain ⟨d1, d2, g1, g2, rfl⟩ := pairs_get hd
    obtain ⟨vs, h1, h2⟩ := hh.obj m _ hg.1
    obtain ⟨ws, h3, h4⟩ := hh.obj n _ hg.2
    rw [e.eta m hm] at h1
    rw [e.eta n hn] at h3
    obtain ⟨v, hv, rv⟩ := h2.get g1
    obtain ⟨w, hw, rw'⟩ := h4.get g2
    have e1 := (f1 vs (.of h1)).symm.trans hv
    have e2 := (f2 ws (.of h3)).symm.trans hw
    cases e1; cases e2
    exact rel_pair hh hT rv rw' (hz.at hd)
theorem di_zip {p pos tpos : Pos} {elts : List Expr} {kk : Nat} (hg : Gl X "zip") (hm : X.mg "zip" = none) (ha : DA X W [a, b] fs)
    (hs : starEach [a, b] X.env = (false, eval a X.env) :: starEach [b] X.env := by rfl) (hpl : (backTo pos (starEach [b] X.env)).any (·.1) = false := by rfl) :
    DI X W (.Tuple elts kk tpos) (.Call (.Name "zip" p) [a, b] [] pos) (iZp fs) := PI.imp (RZ.pi_zipA hg hm ha hs hpl) fun σ H R h => by
  obtain ⟨η, σd, ah, sim, h⟩ := h
  refine tA_bindI sim h fun ds ah1 η1 vs H1 z s1 e1 r1 h1 => ?_
  unfold iZpK at h1
  split at h1
  · obtain ⟨v, r, rfl, ⟨p, vs, rfl, hp, q1⟩, w, r2, rfl, ⟨p2, ws, rfl, hp2, q2⟩, rfl⟩ := r1
    split at h1
    · rename_i hz
      exact ⟨p, p2, vs, ws, rfl, .inr ⟨hp.sq, hp2.sq, h1 η1 H1 Ext.refl s1.hh _ (jok_zipT hp hp2 q1 q2 hz)⟩⟩
    · exact h1.elim
  · rename_i m n
    obtain ⟨v, r, rfl, ⟨hm1, rfl⟩, w, r2, rfl, ⟨hn1, rfl⟩, rfl⟩ := r1
    split at h1
    · rename_i xs ys g1 g2
      obtain ⟨vs, h3, h4⟩ := s1.hh.obj m _ g1
      obtain ⟨ws, h5, h6⟩ := s1.hh.obj n _ g2
      split at h1
      · rename_i hz
        exact ⟨_, _, vs, ws, rfl, .inl ⟨.of h3, .of h5, h1 η1 H1 Ext.refl s1.hh _ (jok_zipL hm1 hn1 hz)⟩⟩
      · exact h1.elim
    · exact h1.elim
  · exact h1.elim
/-! ### enumerate of a list -/
def iEnK (ds : List D) (h : AH) : RI := match ds with
  | [.ref m] => match h[m]? with
    | some (.lst xs) => .ok (pairs (iota 0 xs.length) xs) (fun h' => h'[m]? = some (.lst xs)) h
    | _ => .bad
  | _ => .bad
def iEn (fs : SA) : SI := fun σ h => (fs σ h).bindI iEnK
theorem jok_enum {m : Nat} {xs : List D} (hm : m < N) : JOk X.K X.mg η N H (Ite X.K (η m)) (pairs (iota 0 xs.length) xs) (fun h' => h'[m]? = some (.lst xs)) where
  go := fun i η' ah H' e hh hg hi => by
    rw [pairs_length, iota_length] at hi
    obtain ⟨vs, h1, h2⟩ := hh.obj m _ hg
    rw [e.eta m hm] at h1
    obtain ⟨v, hv, _⟩ := h2.get (List.getElem?_eq_getElem (show i < xs.length by omega))
    exact ⟨vs, v, .of h1, hv⟩
  stop := fun i η' ah H' e hh hg hi => by
    rw [pairs_length, iota_length] at hi
    obtain ⟨vs, h1, h2⟩ := hh.obj m _ hg
    rw [e.eta m hm] at h1
    exact ⟨vs, .of h1, by rw [h2.length]; omega⟩
  yld := fun i η' ah H' x H2 d e hh hg hd y => by
    obtain ⟨T, x1, rfl, hT, rfl, f1⟩ := y
    obtain ⟨d1, d2, g1, g2, rfl⟩ := pairs_get hd
    obtain ⟨rfl, _⟩ := iota_get g1
    obtain ⟨vs, h1, h2⟩ := hh.obj m _ hg
    rw [e.eta m hm] at h1
    obtain ⟨v, hv, rv⟩ := h2.get g2
    have e1 := (f1 vs (.of h1)).symm.trans hv
    cases e1
    refine rel_pair hh hT ?_ rv (nz_cons_not rfl)
    show V.int _ = .int _
    simp
theorem di_enum {p pos tpos : Pos} {elts : List Expr} {kk : Nat} (hg : Gl X "enumerate") (hm : X.mg "enumerate" = none) (ha : DA X W [a] fs) (hs : starEach [a] X.env = [(false, eval a X.env)] := by rfl) :
    DI X W (.Tuple elts kk tpos) (.Call (.Name "enumerate" p) [a] [] pos) (iEn fs) := PI.imp (pi_enum hg hm ha hs) fun σ H R h => by
  obtain ⟨η, σd, ah, sim, h⟩ := h
  refine tA_bindI sim h fun ds ah1 η1 vs H1 z s1 e1 r1 h1 => ?_
  unfold iEnK at h1
  split at h1
  · rename_i m
    obtain ⟨v, r, rfl, ⟨hm1, rfl⟩, rfl⟩ := r1
    split at h1
    · rename_i xs g1
      obtain ⟨vs, h3, h4⟩ := s1.hh.obj m _ g1
      exact ⟨_, vs, rfl, .of h3, h1 η1 H1 Ext.refl s1.hh _ (jok_enum hm1)⟩
    · exact h1.elim
  · exact h1.elim
end

/-! ## for -/
open Classical in
noncomputable def forL (gd : AH → Prop) (g : GF) (body : SS) : List D → Lc → AH → RS
  | [], σ, h => if gd h then .nx σ h else .bad
  | d :: ds, σ, h => if gd h then (match g d σ h with
    | some σ' => (match body σ' h with
      | .nx σ2 h2 => forL gd g body ds σ2 h2
      | .ct σ2 h2 => forL gd g body ds σ2 h2
      | .bk σ2 h2 => .nx σ2 h2
      | r => r)
    | none => .bad) else .bad
noncomputable def sFor (fi : SI) (g : GF) (body : SS) : SS := fun σ h => match fi σ h with
  | .ok items gd h1 => forL gd g body items σ h1
  | .exc x h1 => .exc x σ h1
  | .bad => .bad
theorem body_go {r : RS} {k : Lc → AH → RS} {D : Ends} {M : L2.St → Hp → Prop}
    (h : RPS X.K X.mg W η N H (match r with | .nx σ2 h2 => k σ2 h2 | .ct σ2 h2 => k σ2 h2 | .bk σ2 h2 => .nx σ2 h2 | r => r) D)
    (hk : ∀ η' σd' ah' σ' H', Ext η N H η' ah'.length H' → Sim X.K X.mg η' σd' ah' σ' H' → RPS X.K X.mg W η' ah'.length H' (k σd' ah') D → M σ' H') : RPS X.K X.mg W η N H r { D with nx := M, ct := M, bk := D.nx } := by
  cases r with
  | nx l ah' => exact fun η' σ' H' e r => hk η' l ah' σ' H' e r (RPS.base e h)
  | bk l ah' => exact h
  | ct l ah' => exact fun η' σ' H' e r => hk η' l ah' σ' H' e r (RPS.base e h)
  | rt d ah' => exact h
  | exc x l ah' => exact h
  | bad => exact h
theorem ds_for {tg iter : Expr} {body : List Stmt} {fi : SI} {g : GF} {sl : List Nat} {s : SS} (hp : PassesOwn (model X.prog X.w) X.A X.env X.xe) (hc : X.calm = true) (hi : DI X W tg iter fi) (hg : DG X sl tg g) (hb : DSs X W body s) (hs : ∀ x, foldedSetIterable iter X.env x = pure x := by intro _; rfl) :
    DS X W (.For tg iter body [] pos) (sFor fi g s) := PS.imp (ps_for hp hc hi hg hb hs) fun D σ H h => by
  obtain ⟨η, σd, ah, sim, h⟩ := h
  refine ⟨η, σd, ah, sim, ?_⟩
  unfold sFor at h
  cases q : fi σd ah with
  | bad => rw [q] at h; exact h
  | exc x ah1 =>
    rw [q] at h
    exact fun η' H' C e r m => h η' σ H' C e (sim.ext e r) m
  | ok items gd ah1 =>
    rw [q] at h
    intro η0 H0 e0 r0 J jok
    have h0 : RPS X.K X.mg W η0 ah1.length H0 (forL gd g s items σd ah1) D := RPS.base e0 h
    refine ⟨fun i m σ H => ∃ η σd ah, Sim X.K X.mg η σd ah σ H ∧ Ext η0 ah1.length H0 η ah.length H ∧ m = items.length - i ∧ i ≤ items.length ∧ RPS X.K X.mg W η ah.length H (forL gd g s (items.drop i) σd ah) D,
      ⟨_, η0, σd, ah1, sim.ext e0 r0, Ext.refl, rfl, Nat.zero_le _, h0⟩, ?_⟩
    rintro i m σ' H' ⟨η', σd', ah', s', e', rfl, hi', hf⟩
    by_cases hlt : i < items.length
    · rw [List.drop_eq_getElem_cons hlt] at hf
      have hgd : gd ah' := by
        refine Classical.byContradiction fun hn => ?_
        unfold forL at hf
        rw [if_neg hn] at hf
        exact hf
      unfold forL at hf
      rw [if_pos hgd] at hf
      refine .inr ⟨jok.go i η' ah' H' e' s'.hh hgd hlt, fun σ' H' => ∃ η σd ah, Sim X.K X.mg η σd ah σ' H' ∧ Ext η0 ah1.length H0 η ah.length H' ∧ RPS X.K X.mg W η ah.length H' (forL gd g s (items.drop (i + 1)) σd ah) D, fun σ2 H2 hN => ?_, fun x H2 y => ?_⟩
      · obtain ⟨η2, σd2, ah2, s2, e2, h2⟩ := hN
        exact ⟨items.length - (i + 1), by omega, η2, σd2, ah2, s2, e2, rfl, hlt, h2⟩
      · obtain ⟨y1, y2, y3⟩ := jok.yld i η' ah' H' x H2 _ e' s'.hh hgd (List.getElem?_eq_getElem hlt) y
        have s2 := s'.ext y2 y1
        cases qg : g items[i] σd' ah' with
        | none => rw [qg] at hf; exact hf.elim
        | some σd2 =>
          rw [qg] at hf
          refine ⟨η', σd', ah', items[i], σd2, s2, y3, qg, fun σ3 s3 _ => ⟨η', σd2, ah', s3, ?_⟩⟩
          exact body_go (RPS.base y2 hf) fun η4 σd4 ah4 σ4 H4 e4 s4 h4 => ⟨η4, σd4, ah4, s4, (e'.trans y2).trans e4, h4⟩
    · have ei : i = items.length := by omega
      subst ei
      rw [List.drop_length] at hf
      unfold forL at hf
      by_cases hgd : gd ah'
      · rw [if_pos hgd] at hf
        exact .inl ⟨jok.stop _ η' ah' H' e' s'.hh hgd (Nat.le_refl _), hf η' σ' H' Ext.refl s'⟩
      · rw [if_neg hgd] at hf; exact hf.elim

/-! ## while -/
def whileN (ft : SB) (body : SS) : Nat → Lc → AH → RS
  | 0, _, _ => .bad
  | n + 1, σ, h => (ft σ h).bindS σ fun b h1 => if b = true then (match body σ h1 with
      | .nx σ2 h2 => whileN ft body n σ2 h2
      | .ct σ2 h2 => whileN ft body n σ2 h2
      | .bk σ2 h2 => .nx σ2 h2
      | r => r) else .nx σ h1
open Classical in
noncomputable def sWhile (ft : SB) (body : SS) : SS := fun σ h => if hx : ∃ n, whileN ft body n σ h ≠ .bad then whileN ft body (Classical.choose hx) σ h else .bad
theorem whileN_mono {ft : SB} {body : SS} : ∀ {n m : Nat} {σ : Lc} {h : AH}, n ≤ m → whileN ft body n σ h ≠ .bad → whileN ft body m σ h = whileN ft body n σ h
  | 0, _, σ, h, _, hb => absurd rfl hb
  | n + 1, 0, σ, h, hl, _ => by omega
  | n + 1, m + 1, σ, h, hl, hb => by
    have hl' : n ≤ m := by omega
    unfold whileN at hb ⊢
    cases q : ft σ h with
    | bad => rfl
    | exc x h1 => rfl
    | ok b h1 =>
      rw [q] at hb
      have hb' : (if b = true then (match body σ h1 with
        | .nx σ2 h2 => whileN ft body n σ2 h2
        | .ct σ2 h2 => whileN ft body n σ2 h2
        | .bk σ2 h2 => .nx σ2 h2
        | r => r) else RS.nx σ h1) ≠ .bad := hb
      show (if b = true then (match body σ h1 with
        | .nx σ2 h2 => whileN ft body m σ2 h2
        | .ct σ2 h2 => whileN ft body m σ2 h2
        | .bk σ2 h2 => .nx σ2 h2
        | r => r) else RS.nx σ h1) = (if b = true then (match body σ h1 with
        | .nx σ2 h2 => whileN ft body n σ2 h2
        | .ct σ2 h2 => whileN ft body n σ2 h2
        | .bk σ2 h2 => .nx σ2 h2
        | r => r) else RS.nx σ h1)
      cases b with
      | false => rfl
      | true =>
        rw [if_pos rfl] at hb' ⊢
        rw [if_pos rfl]
        cases q2 : body σ h1 with
        | nx l h2 => rw [q2] at hb'; exact whileN_mono hl' hb'
        | ct l h2 => rw [q2] at hb'; exact whileN_mono hl' hb'
        | _ => rfl
theorem sWhile_eq {ft : SB} {body : SS} {n : Nat} {σ : Lc} {h : AH} (hb : whileN ft body n σ h ≠ .bad) : sWhile ft body σ h = whileN ft body n σ h := by
  have hx : ∃ n, whileN ft body n σ h ≠ .bad := ⟨n, hb⟩
  unfold sWhile
  rw [dif_pos hx]
  have hc := Classical.choose_spec hx
  rcases Nat.le_total n (Classical.choose hx) with l | l
  · exact whileN_mono l hb
  · exact (whileN_mono l hc).symm
theorem ds_while {c : Expr} {body : List Stmt} {ft : SB} {s : SS} (hp : PassesOwn (model X.prog X.w) X.A X.env X.xe) (hcc : DT X W c ft) (hb : DSs X W body s) : DS X W (.While c body [] pos) (sWhile ft s) := PS.imp (ps_while hp hcc hb) fun D σ H h => by
  obtain ⟨η, σd, ah, sim, h⟩ := h
  refine ⟨fun m σ H => ∃ η σd ah, Sim X.K X.mg η σd ah σ H ∧ RPS X.K X.mg W η ah.length H (whileN ft s m σd ah) D, ?_, ?_⟩
  · unfold sWhile at h
    by_cases hx : ∃ n, whileN ft s n σd ah ≠ .bad
    · rw [dif_pos hx] at h
      exact ⟨_, η, σd, ah, sim, h⟩
    · rw [dif_neg hx] at h; exact h.elim
  · rintro m σ' H' ⟨η', σd', ah', s', hf⟩
    cases m with
    | zero => exact hf.elim
    | succ n =>
      refine tT_bindS s' hf fun b ah1 η1 H1 s1 e1 h1 => ?_
      cases b with
      | false => exact h1 η1 σ' H1 Ext.refl s1
      | true =>
        rw [if_pos rfl] at h1 ⊢
        exact ⟨fun σ2 H2 => ∃ η σd ah, Sim X.K X.mg η σd ah σ2 H2 ∧ RPS X.K X.mg W η ah.length H2 (whileN ft s n σd ah) D, fun σ2 H2 q => ⟨n, Nat.lt_succ_self _, q⟩, η1, σd', ah1, s1, body_go h1 fun η4 σd4 ah4 σ4 H4 e4 s4 h4 => ⟨η4, σd4, ah4, s4, h4⟩⟩
end
end DL


set_option maxRecDepth 100000
namespace DL
open PySem PySem.Spec PyProof.Rows L2

section
variable {X : Cx} {W : WX} {η η' η1 : Nat → Addr} {N N1 : Nat} {σd : Lc} {ah ah' ah1 : AH} {σ : L2.St} {H H' H1 : Hp} {Q : VK} {pos : Pos}
/-! ## list comprehensions -/
abbrev W0 : WX := fun _ _ _ _ => False
def wipeD (σ : Lc) : List Nat → Lc
  | [] => σ
  | v :: vs => (wipeD σ vs).set v none
theorem Sim.setN {K : PySem.W.Frag} {mg : Str → Option Value} (s : Sim K mg η σd ah σ H) (i : Nat) : Sim K mg η (σd.set i none) ah (σ.set i none) H :=
  ⟨s.hh, by simp [s.len], fun j e q => by
    by_cases hj : i = j
    · subst hj
      by_cases hl : i < σd.length
      · rw [List.getElem?_set_self hl] at q
        cases q
      · rw [List.getElem?_eq_none (by rw [List.length_set]; omega)] at q
        cases q
    · rw [List.getElem?_set_ne hj] at q
      obtain ⟨w, a, b⟩ := s.env j e q
      exact ⟨w, by rw [List.getElem?_set_ne hj]; exact a, b⟩⟩
theorem Sim.wipe {K : PySem.W.Frag} {mg : Str → Option Value} (s : Sim K mg η σd ah σ H) : ∀ vs : List Nat, Sim K mg η (wipeD σd vs) ah (L2.wipe σ vs) H
  | [] => s
  | v :: vs => (Sim.wipe s vs).setN v
theorem relH_lst {K : PySem.W.Frag} {mg : Str → Option Value} {n : Nat} {ds ds' : List D} {vs' : List V} (h : RelH K mg η ah H) (e : ah[n]? = some (.lst ds)) (r : RelDs η ah.length H ds' vs') :
    RelH K mg η (ah.set n (.lst ds')) (upd H (η n) (.lst vs')) ∧ Ext η ah.length H η (ah.set n (.lst ds')).length (upd H (η n) (.lst vs')) := by
  have hx : Ext η ah.length H η ah.length (upd H (η n) (.lst vs')) := ext_set h e rfl
  obtain ⟨vs, h1, _⟩ := h.obj n _ e
  refine ⟨relH_set h e rfl rfl (fun ob w z => by rw [h1] at z; cases z) ⟨vs', upd_same, RelDs.ext hx _ _ r⟩, ?_⟩
  rw [List.length_set]
  exact hx
open Classical in
noncomputable def compL (gd : AH → Prop) (g : GF) (ft : SB) (fe : SE) (vs : List Nat) (n : Nat) : List D → Lc → AH → R
  | [], σ, h => if gd h then .ok (.ref n) h else .bad
  | d :: ds, σ, h => if gd h then (match g d (wipeD σ vs) h with
    | none => .bad
    | some σ2 => (match ft σ2 h with
      | .ok b h3 => if b = true then (match fe σ2 h3 with
        | .ok y h4 => (match h4[n]? with
          | some (.lst acc) => if acc.length < 16777216 then compL gd g ft fe vs n ds σ (h4.set n (.lst (acc ++ [y]))) else .bad
          | _ => .bad)
        | _ => .bad) else compL gd g ft fe vs n ds σ h3
      | _ => .bad)) else .bad
noncomputable def dComp (fi : SI) (g : GF) (ft : SB) (fe : SE) (vs : List Nat) : SE := fun σ h => match fi σ h with
  | .ok items gd h1 => compL gd g ft fe vs h1.length items σ (h1 ++ [.lst []])
  | .exc x h1 => .exc x h1
  | .bad => .bad
def bYes : SB := fun _ h => .ok true h
def DTs (X : Cx) (ifs : List Expr) (f : SB) : Prop := PTs X ifs (tT X.K X.mg W0 f)
theorem dts_nil : DTs X [] bYes := ⟨fun pins s σ H Q I h => by
  obtain ⟨η, σd, ah, sim, h⟩ := h
  exact pts_nil.run pins s σ H Q I (h η H Ext.refl sim.hh)⟩
theorem dts_one {c : Expr} {f : SB} (h : DT X W0 c f) : DTs X [c] f := pts_one h
/-- the reading of a comprehension -/
theorem lc_core {fi : SI} {g : GF} {ft : SB} {fe : SE} {sl vs : List Nat} (hsl : ∀ i ∈ sl, i ∈ vs) (sim : Sim X.K X.mg η σd ah σ H) (h : RP X.K X.mg W η ah.length σ H (dComp fi g ft fe vs σd ah) Q) :
    tLc (tI X.K X.mg W fi) (tG X.K X.mg sl g) (tT X.K X.mg W0 ft) (tE X.K X.mg W0 fe) vs σ H Q := by
  refine ⟨η, σd, ah, sim, ?_⟩
  unfold dComp at h
  cases q : fi σd ah with
  | bad => rw [q] at h; exact h
  | exc x ah1 => rw [q] at h; exact h
  | ok items gd ah1 =>
    rw [q] at h
    intro η0 H0 e0 r0 J jok D hD
    have s0 : Sim X.K X.mg η0 σd ah1 σ H0 := sim.ext e0 r0
    have el : (ah1 ++ [O.lst []]).length = ah1.length + 1 := by simp
    have rN : RelH X.K X.mg (etaN η0 ah1.length D) (ah1 ++ [O.lst []]) (upd H0 D (.lst [])) := relH_new r0 hD rfl ⟨[], upd_same, rfl⟩
    have eN : Ext η0 ah1.length H0 (etaN η0 ah1.length D) (ah1 ++ [O.lst []]).length (upd H0 D (.lst [])) := by rw [el]; exact ext_new hD
    refine ⟨fun i m H => ∃ η ah, RelH X.K X.mg η ah H ∧ Ext (etaN η0 ah1.length D) (ah1 ++ [O.lst []]).length (upd H0 D (.lst [])) η ah.length H ∧ m = items.length - i ∧ i ≤ items.length ∧ RP X.K X.mg W η ah.length σ H (compL gd g ft fe vs ah1.length (items.drop i) σd ah) Q,
      ⟨_, _, _, rN, Ext.refl, rfl, Nat.zero_le _, RP.base (e0.trans eN) h⟩, ?_⟩
    rintro i m H' ⟨η', ah', r', e', rfl, hi', hf⟩
    have e2 : Ext η0 ah1.length H0 η' ah'.length H' := eN.trans e'
    have s' : Sim X.K X.mg η' σd ah' σ H' := s0.ext e2 r'
    have at_ : ∀ {η2 : Nat → Addr} {N2 : Nat} {H2 : Hp}, Ext η' ah'.length H' η2 N2 H2 → η2 ah1.length = D := fun e3 => by
      rw [(e'.trans e3).eta ah1.length (by rw [el]; exact Nat.lt_succ_self _), etaN_at]
    by_cases hlt : i < items.length
    · rw [List.drop_eq_getElem_cons hlt] at hf
      have hgd : gd ah' := by
        refine Classical.byContradiction fun hn => ?_
        unfold compL at hf
        rw [if_neg hn] at hf
        exact hf
      unfold compL at hf
      rw [if_pos hgd] at hf
      refine .inr ⟨jok.go i η' ah' H' e2 r' hgd hlt, fun H2 => ∃ η ah, RelH X.K X.mg η ah H2 ∧ Ext η' ah'.length H' η ah.length H2 ∧ RP X.K X.mg W η ah.length σ H2 (compL gd g ft fe vs ah1.length (items.drop (i + 1)) σd ah) Q, fun H2 hN => ?_, fun x H2 y => ?_⟩
      · obtain ⟨η2, ah2, r2, e3, h2⟩ := hN
        exact ⟨items.length - (i + 1), by omega, η2, ah2, r2, e'.trans e3, rfl, hlt, h2⟩
      · obtain ⟨y1, y2, y3⟩ := jok.yld i η' ah' H' x H2 _ e2 r' hgd (List.getElem?_eq_getElem hlt) y
        have s2 := (s'.ext y2 y1).wipe vs
        cases qg : g items[i] (wipeD σd vs) ah' with
        | none => rw [qg] at hf; exact hf.elim
        | some σd2 =>
          rw [qg] at hf
          refine ⟨η', wipeD σd vs, ah', items[i], σd2, s2, y3, qg, fun σ3 s3 w3 => ⟨?_, ?_⟩⟩
          · rw [w3 vs hsl]
            have : ∀ (vs : List Nat) (σ : L2.St), L2.wipe (L2.wipe σ vs) vs = L2.wipe σ vs := by
              intro vs σ
              have aux : ∀ (ws : List Nat) (σ : L2.St), (∀ i ∈ ws, i ∈ vs) → L2.wipe (L2.wipe σ ws) vs = L2.wipe σ vs := by
                intro ws
                induction ws with
                | nil => intro σ _; rfl
                | cons v ws ih =>
                  intro σ hw
                  show L2.wipe ((L2.wipe σ ws).set v none) vs = _
                  rw [wipe_set (hw v (by simp)), ih σ fun i hi => hw i (List.mem_cons_of_mem _ hi)]
              exact aux vs σ fun _ h => h
            exact this vs σ
          · have hf2 := RP.base y2 hf
            refine tT_go s3 (fun z => by dsimp only at hf2; rw [z] at hf2; exact hf2) (fun x ah2 z => by dsimp only at hf2; rw [z] at hf2; exact hf2.elim) fun b ah3 η3 H3 z s4 e4 => ?_
            dsimp only at hf2
            rw [z] at hf2
            have hf3 := RP.base e4 hf2
            cases b with
            | false => exact ⟨η3, ah3, s4.hh, y2.trans e4, hf3⟩
            | true =>
              dsimp only at hf3
              rw [if_pos rfl] at hf3 ⊢
              refine tE_go s4 (fun z => by rw [z] at hf3; exact hf3) (fun x ah2 z => by rw [z] at hf3; exact hf3.elim) fun yd ah4 η4 v4 H4 z s5 e5 r5 => ?_
              rw [z] at hf3
              have hf4 := RP.base e5 hf3
              dsimp only at hf4
              split at hf4
              · rename_i acc ga
                obtain ⟨vacc, h6, h7⟩ := s5.hh.obj _ _ ga
                rw [at_ ((y2.trans e4).trans e5)] at h6
                by_cases hl : acc.length < 16777216
                · rw [if_pos hl] at hf4
                  obtain ⟨k1, k2⟩ := relH_lst s5.hh ga (RelDs.append h7 (show RelDs η4 ah4.length H4 [yd] [v4] from ⟨v4, [], rfl, r5, rfl⟩))
                  rw [at_ ((y2.trans e4).trans e5)] at k1 k2
                  exact ⟨vacc, h6, by rw [h7.length]; exact hl, η4, _, k1, ((y2.trans e4).trans e5).trans k2, RP.base k2 hf4⟩
                · rw [if_neg hl] at hf4; exact hf4.elim
              · exact hf4.elim
    · have ei : i = items.length := by omega
      subst ei
      rw [List.drop_length] at hf
      unfold compL at hf
      by_cases hgd : gd ah'
      · rw [if_pos hgd] at hf
        refine .inl ⟨jok.stop _ η' ah' H' e2 r' hgd (Nat.le_refl _), hf η' (.ref D) H' Ext.refl r' ⟨?_, ?_⟩⟩
        · have := e'.n
          rw [el] at this
          omega
        · rw [at_ Ext.refl]
      · rw [if_neg hgd] at hf; exact hf.elim
theorem de_lc {elt tg iter : Expr} {ifs : List Expr} {scope : Scope} {own : List (Str × Nat)} {fi : SI} {g : GF} {ft : SB} {fe : SE} {sl : List Nat} (hc : X.calm = true) (hN : X.N.Nodup) (hi : DI X W tg iter fi) (ok : BlkOk X.N X.env.scope scope own)
    (hg : ∀ (s : Shared) (H : Hp) (C : Addr) (cl : List (Str × Addr)) (fp : List Addr), DG (X.blk s H scope (compEnvC scope cl C X.env) fp) sl tg g) (ht : ∀ (s : Shared) (H : Hp) (C : Addr) (cl : List (Str × Addr)) (fp : List Addr), DTs (X.blk s H scope (compEnvC scope cl C X.env) fp) ifs ft)
    (he : ∀ (s : Shared) (H : Hp) (C : Addr) (cl : List (Str × Addr)) (fp : List Addr), DE (X.blk s H scope (compEnvC scope cl C X.env) fp) W0 elt fe) (hsl : ∀ i ∈ sl, i ∈ own.map (·.2) := by decide) (hs : ∀ x, foldedSetIterable iter X.env x = pure x := by intro _; rfl) :
    DE X W (.ListComp elt [⟨tg, iter, ifs, 0⟩] scope pos) (dComp fi g ft fe (own.map (·.2))) := PE.imp (pe_lc (g := tG X.K X.mg sl g) (tt := tT X.K X.mg W0 ft) (te := tE X.K X.mg W0 fe) hc hN hi ok hg ht he hs) fun σ H Q h => by
  obtain ⟨η, σd, ah, sim, h⟩ := h
  exact lc_core hsl sim h
theorem ds_setLc (i : Nat) {y : Str} {py spos : Pos} {elt tg iter : Expr} {ifs : List Expr} {scope : Scope} {own : List (Str × Nat)} {fi : SI} {g : GF} {ft : SB} {fe : SE} {sl : List Nat} (hc : X.calm = true) (hN : X.N.Nodup) (hii : X.N[i]? = some y) (hl : X.env.scope.names.lookup y = some .local)
    (hw : swapsWith (.ListComp elt [⟨tg, iter, ifs, 0⟩] scope pos) (some (.Name y py)) spos.line X.env = pure true) (hi : DI X W tg iter fi) (ok : BlkOk X.N X.env.scope scope own)
    (hg : ∀ (s : Shared) (H : Hp) (C : Addr) (cl : List (Str × Addr)) (fp : List Addr), DG (X.blk s H scope (compEnvC scope cl C X.env) fp) sl tg g) (ht : ∀ (s : Shared) (H : Hp) (C : Addr) (cl : List (Str × Addr)) (fp : List Addr), DTs (X.blk s H scope (compEnvC scope cl C X.env) fp) ifs ft)
    (he : ∀ (s : Shared) (H : Hp) (C : Addr) (cl : List (Str × Addr)) (fp : List Addr), DE (X.blk s H scope (compEnvC scope cl C X.env) fp) W0 elt fe) (hsl : ∀ i ∈ sl, i ∈ own.map (·.2) := by decide) (hs : ∀ x, foldedSetIterable iter X.env x = pure x := by intro _; rfl) :
    DS X W (.Assign [.Name y py] (.ListComp elt [⟨tg, iter, ifs, 0⟩] scope pos) spos) (sSet i (dComp fi g ft fe (own.map (·.2)))) := PS.imp (ps_setLc (g := tG X.K X.mg sl g) (tt := tT X.K X.mg W0 ft) (te := tE X.K X.mg W0 fe) hc hN hii hl hw hi ok hg ht he hs) fun D σ H h => by
  obtain ⟨η, σd, ah, sim, h⟩ := h
  refine lc_core (W := W) (η := η) (σd := σd) (ah := ah) hsl sim ?_
  have h' : RPS X.K X.mg W η ah.length H ((dComp fi g ft fe (own.map (·.2)) σd ah).bindS σd fun d h1 => .nx (σd.set i (some d)) h1) D := h
  cases q : dComp fi g ft fe (own.map (·.2)) σd ah with
  | bad => rw [q] at h'; exact h'.elim
  | exc x ah1 => rw [q] at h'; exact fun η' H' C e r m => h' η' σ H' C e (sim.ext e r) m
  | ok d ah1 => rw [q] at h'; exact fun η' v H' e r1 r2 => h' η' _ H' e ((sim.ext e r1).set r2)

/-! ## calls, defs -/
def spD (K : PySem.W.Frag) (mg : Str → Option Value) (F : Fn) : Sp := fun vs H Q E => ∃ η ah ds, RelH K mg η ah H ∧ RelDs η ah.length H ds vs ∧ match F ds ah with
  | .ok d ah' => ∀ η' v H', Ext η ah.length H η' ah'.length H' → RelH K mg η' ah' H' → RelD η' ah'.length H' d v → Q v H'
  | .exc x ah' => ∀ η' H' C, Ext η ah.length H η' ah'.length H' → RelH K mg η' ah' H' → mg x = some (.ref C) → E (.ref C) none H'
  | .bad => False
def dCall (F : Fn) (fs : SA) : SE := fun σ h => (fs σ h).bind F
def Takes1 (F : Fn) (n : Nat) : Prop := ∀ ds h, ds.length ≠ n → F ds h = .bad
theorem spD_len {K : PySem.W.Frag} {mg : Str → Option Value} {F : Fn} {n : Nat} (hF : Takes1 F n) : ∀ vs H Q E, spD K mg F vs H Q E → vs.length = n := fun vs H Q E h => by
  obtain ⟨η, ah, ds, _, r, q⟩ := h
  refine Classical.byContradiction fun hn => ?_
  rw [hF ds ah (by rw [← r.length]; exact hn)] at q
  exact q
section
variable {k j : Nat} {f : Addr} {fd : FuncData} {ps : List Str} {F : Fn} {x : Str} {p : Pos} {e : Expr} {es : List Expr} {fs : SA}
theorem de_call (tk : Takes X W) (Fk : FnOk X.prog X.w X.K X.mg X.base (L2.CX X.prog X.w) k f fd ps (spD X.K X.mg F)) (hr : Room j X.A) (hk : k ≤ j) (hg : Gl X x) (hm : X.mg x = some (.ref f)) (hkp : PySem.W.keepIn X.K (.ref f) = true) (hb : Binds X.K fd ps [])
    (ha : DA X W (e :: es) fs) (hdb : (x == ("__debug__" : Str)) = false := by decide) (he : starEach (e :: es) X.env = (false, eval e X.env) :: starEach es X.env := by rfl) (hpl : (backTo pos (starEach es X.env)).any (·.1) = false := by rfl) :
    DE X W (.Call (.Name x p) (e :: es) [] pos) (dCall F fs) := PE.imp (pe_callS Fk (hr.mono hk) hg hm hkp hb (fun σ => passAt tk σ) ha hdb he hpl) fun σ H Q h => by
  obtain ⟨η, σd, ah, sim, h⟩ := h
  refine tA_bind sim h fun ds ah1 η1 vs H1 s1 e1 r1 h1 => ⟨η1, ah1, ds, s1.hh, r1, ?_⟩
  cases q : F ds ah1 with
  | ok d ah2 => rw [q] at h1; exact h1
  | exc y ah2 => rw [q] at h1; exact h1
  | bad => rw [q] at h1; exact h1
end
/-- a def's run -/
def runF (n np : Nat) (t : SS) : Fn := fun ds h => if ds.length = np then (match t (ds.map some ++ List.replicate (n - np) none) h with
  | .nx _ h' => .ok .non h'
  | .rt d h' => .ok d h'
  | .exc x _ h' => .exc x h'
  | _ => .bad) else .bad
theorem runF_takes (n np : Nat) (t : SS) : Takes1 (runF n np t) np := fun ds h hn => if_neg hn
theorem sim_start {K : PySem.W.Frag} {mg : Str → Option Value} {n : Nat} {N : List Str} {ds : List D} {vs : List V} (hh : RelH K mg η ah H) (r : RelDs η ah.length H ds vs) (hN : N.length = n) : Sim K mg η (ds.map some ++ List.replicate (n - ds.length) none) ah (L2.start N vs) H := by
  refine ⟨hh, ?_, fun i d q => ?_⟩
  · unfold L2.start
    simp only [List.length_append, List.length_map, List.length_replicate]
    rw [r.length, hN]
  · by_cases hi : i < ds.length
    · rw [List.getElem?_append_left (by simpa using hi), List.getElem?_map] at q
      cases e : ds[i]? with
      | none => rw [e] at q; cases q
      | some d' =>
        rw [e] at q
        cases q
        obtain ⟨v, hv, rv⟩ := r.get e
        refine ⟨v, ?_, rv⟩
        unfold L2.start
        rw [List.getElem?_append_left (by rw [List.length_map, r.length]; exact hi), List.getElem?_map, hv]
        rfl
    · rw [List.getElem?_append_right (by simpa using hi), List.getElem?_replicate] at q
      split at q <;> cases q
theorem fn_okD {P : Program} {w : World} {K : PySem.W.Frag} {mg : Str → Option Value} {base : Heap} {x qual : Str} {params : Arguments} {body : List Stmt} {scope : Scope} {f : Addr} {fd : FuncData} {Nm ps : List Str} {k : Nat} {t : SS}
    (F : FunD K x qual params body scope [] [] f fd) (S : FnScope Nm ps scope)
    (hb : ∀ (cdv : Value) (A : Around) (outer : List Env) (s : Shared) (H : Hp) (E : XK), Room k (A.deeper (envOfC qual scope s.heap.objs.size f cdv)) → DSs (cxOf (L2.CX P w) P w K mg base Nm qual scope f cdv A outer s H E) (fun cls d _ H => E cls d H) body t) :
    FnOk P w K mg base (L2.CX P w) (k + 1) f fd ps (spD K mg (runF Nm.length ps.length t)) := by
  refine F.ok S (spD_len (runF_takes _ _ _)) fun cdv A outer s H vs Q E hr h => ⟨_, hb cdv A outer s H E hr, ?_⟩
  obtain ⟨η, ah, ds, hh, r, q⟩ := h
  unfold runF at q
  by_cases hl : ds.length = ps.length
  · rw [if_pos hl] at q
    refine ⟨η, ds.map some ++ List.replicate (Nm.length - ps.length) none, ah, ?_, ?_⟩
    · have := sim_start (N := Nm) hh r rfl
      rw [hl] at this
      exact this
    · cases z : t (ds.map some ++ List.replicate (Nm.length - ps.length) none) ah with
      | nx l h' => rw [z] at q; exact fun η' σ' H' e s1 => q η' _ H' e s1.hh rfl
      | rt d h' => rw [z] at q; exact q
      | bk l h' => rw [z] at q; exact q.elim
      | ct l h' => rw [z] at q; exact q.elim
      | exc y l h' => rw [z] at q; exact fun η' σ' H' C e s1 m => q η' H' C e s1.hh m
      | bad => rw [z] at q; exact q
  · rw [if_neg hl] at q; exact q.elim

/-! ## what a call leaves behind is dropped -/
def gcable (h h' : AH) : Prop := h.length ≤ h'.length ∧ ∀ i, i < h.length → h'[i]? = h[i]? ∨ ∃ o, h'[i]? = some o ∧ o.bel h.length = true
open Classical in
noncomputable def gcR (h : AH) (r : R) : R := match r with
  | .ok d h' => if gcable h h' then (if d.bel h.length = true then .ok d (h'.take h.length) else (match d with
    | .ref m => (match h'[m]? with
      | some o => if o.bel h.length = true ∧ isScr o = false then .ok (.ref h.length) (h'.take h.length ++ [o]) else .ok d h'
      | none => .ok d h')
    | _ => .ok d h')) else .ok d h'
  | .exc x h' => if gcable h h' then .exc x (h'.take h.length) else .exc x h'
  | .bad => .bad
noncomputable def gcF (F : Fn) : Fn := fun ds h => gcR h (F ds h)
theorem gcable_bel {K : PySem.W.Frag} {mg : Str → Option Value} {h h' : AH} (g : gcable h h') (r : RelH K mg η h H) : ∀ n o, n < h.length → h'[n]? = some o → o.bel h.length = true := fun n o hn e => by
  rcases g.2 n hn with e2 | ⟨o', e2, b⟩
  · rw [e2] at e
    exact (r.obj n o e).bel
  · rw [e] at e2
    cases e2
    exact b
theorem ext_cut {M : Nat} (e : Ext η N H η' N1 H') (h : N ≤ M) : Ext η N H η' M H' := ⟨⟨h, e.eta, e.st⟩, e.fz⟩
theorem spD_gc {K : PySem.W.Frag} {mg : Str → Option Value} {F : Fn} : ∀ vs H Q E, spD K mg (gcF F) vs H Q E → spD K mg F vs H Q E := fun vs H Q E h => by
  obtain ⟨η, ah, ds, hh, r, q⟩ := h
  refine ⟨η, ah, ds, hh, r, ?_⟩
  unfold gcF at q
  have tl : ∀ {h' : AH}, ah.length ≤ h'.length → (h'.take ah.length).length = ah.length := fun hl => by rw [List.length_take]; omega
  cases z : F ds ah with
  | bad => rw [z] at q; exact q
  | exc x h' =>
    rw [z] at q
    dsimp only [gcR] at q
    by_cases g : gcable ah h'
    · rw [if_pos g] at q
      intro η' H' C e r' m
      refine q η' H' C ?_ ?_ m
      · rw [tl g.1]; exact ext_cut e (Nat.le_refl _)
      · exact relH_cut r' g.1 (gcable_bel g hh)
    · rw [if_neg g] at q; exact q
  | ok d h' =>
    rw [z] at q
    dsimp only [gcR] at q
    by_cases g : gcable ah h'
    · rw [if_pos g] at q
      by_cases b : d.bel ah.length = true
      · rw [if_pos b] at q
        intro η' v H' e r' rd
        refine q η' v H' ?_ ?_ ?_
        · rw [tl g.1]; exact ext_cut e (Nat.le_refl _)
        · exact relH_cut r' g.1 (gcable_bel g hh)
        · rw [tl g.1]; exact RelD.cut _ _ rd b
      · rw [if_neg b] at q
        cases d with
        | ref m =>
          dsimp only at q ⊢
          cases em : h'[m]? with
          | none => rw [em] at q; exact q
          | some o =>
            rw [em] at q
            dsimp only at q
            by_cases c : o.bel ah.length = true ∧ isScr o = false
            · rw [if_pos c] at q
              intro η' v H' e r' rd
              obtain ⟨rm, rfl⟩ := rd
              have hm : ah.length ≤ m := by
                refine Nat.le_of_not_lt fun hlt => b ?_
                simp only [D.bel, decide_eq_true_eq]
                exact hlt
              have cut := relH_cut r' g.1 (gcable_bel g hh)
              have l1 : (h'.take ah.length).length = ah.length := tl g.1
              have l2 : (h'.take ah.length ++ [o]).length = ah.length + 1 := by rw [List.length_append, l1]; rfl
              have ex : Ext η' ah.length H' (etaN η' ah.length (η' m)) (ah.length + 1) H' := ⟨⟨Nat.le_succ _, fun n h => etaN_lt h, fun _ _ _ h => h⟩, fun _ _ _ h => h⟩
              have getE : ∀ n u, (h'.take ah.length ++ [o])[n]? = some u → (n < ah.length ∧ (h'.take ah.length)[n]? = some u) ∨ (n = ah.length ∧ u = o) := fun n u eu => by
                by_cases hn : n < ah.length
                · rw [List.getElem?_append_left (by rw [l1]; exact hn)] at eu
                  exact .inl ⟨hn, eu⟩
                · have hn' : n < ah.length + 1 := by rw [← l2]; exact (List.getElem?_eq_some_iff.mp eu).1
                  have : n = ah.length := by omega
                  subst this
                  rw [List.getElem?_append_right (by rw [l1]; exact Nat.le_refl _), l1, Nat.sub_self] at eu
                  cases eu
                  exact .inr ⟨rfl, rfl⟩
              refine q (etaN η' ah.length (η' m)) (.ref (η' m)) H' ?_ ⟨fun n u eu => ?_, fun n1 n2 o1 o2 x1 x2 s1 s2 heq => ?_⟩ ⟨?_, ?_⟩
              · rw [l2]; exact (ext_cut e (Nat.le_refl _)).trans ex
              · rw [l2]
                rcases getE n u eu with ⟨hn, eu⟩ | ⟨hn, rfl⟩
                · rw [etaN_lt hn]
                  have := cut.obj n u eu
                  rw [l1] at this
                  exact this.ext ex fun _ hw => hw
                · rw [hn, etaN_at]
                  exact ((r'.obj m _ em).cut c.1).ext ex fun _ hw => hw
              · rcases getE n1 o1 x1 with ⟨h1, f1⟩ | ⟨h1, f1⟩
                · rcases getE n2 o2 x2 with ⟨h2, f2⟩ | ⟨h2, f2⟩
                  · rw [etaN_lt h1, etaN_lt h2] at heq
                    exact cut.inj n1 n2 o1 o2 f1 f2 s1 s2 heq
                  · rw [h2, etaN_lt h1, etaN_at] at heq
                    have f1' : h'[n1]? = some o1 := by rw [List.getElem?_take_of_lt h1] at f1; exact f1
                    have := r'.inj n1 m o1 o f1' em s1 c.2 heq
                    omega
                · rcases getE n2 o2 x2 with ⟨h2, f2⟩ | ⟨h2, f2⟩
                  · rw [h1, etaN_lt h2, etaN_at] at heq
                    have f2' : h'[n2]? = some o2 := by rw [List.getElem?_take_of_lt h2] at f2; exact f2
                    have := r'.inj n2 m o2 o f2' em s2 c.2 heq.symm
                    omega
                  · rw [h1, h2]
              · rw [l2]; exact Nat.lt_succ_self _
              · rw [etaN_at]
            · rw [if_neg c] at q; exact q
        | _ => exact q
    · rw [if_neg g] at q; exact q
theorem FnOk.gc {P : Program} {w : World} {K : PySem.W.Frag} {mg : Str → Option Value} {base : Heap} {k : Nat} {f : Addr} {fd : FuncData} {ps : List Str} {F : Fn} (h : FnOk P w K mg base (L2.CX P w) k f fd ps (spD K mg F)) : FnOk P w K mg base (L2.CX P w) k f fd ps (spD K mg (gcF F)) := L2.FnOk.imp h spD_gc

/-! ## the law -/
theorem law_sp {K : PySem.W.Frag} {mg : Str → Option Value} {F : Fn} {a : Addr} {ns : List Int} (hO : Only H) (hS : SqL K H a (ns.map V.int)) {h' : AH} (h : F [.ref 0] [.scr (ns.map D.int)] = .ok (.bl true) h') :
    spD K mg F [.ref a] H (fun v _ => v = .bl true) fun _ _ _ => False := by
  have rd : ∀ (η : Nat → Addr) (N : Nat) (l : List Int), RelDs η N H (l.map D.int) (l.map V.int) := fun η N l => by
    induction l with
    | nil => rfl
    | cons i r ih => exact ⟨_, _, rfl, rfl, ih⟩
  refine ⟨fun _ => a, [.scr (ns.map D.int)], [.ref 0], ⟨fun n o e => ?_, fun m n om on e1 e2 _ s2 _ => ?_⟩, ⟨_, _, rfl, ⟨Nat.zero_lt_one, rfl⟩, rfl⟩, ?_⟩
  · match n, e with
    | 0, e =>
      cases e
      refine ⟨_, rd _ _ ns, ?_⟩
      rcases hS with (q | ⟨ob, q⟩) | q
      · rcases hO a with z | ⟨o, xs, z⟩
        · rw [z] at q; cases q
        · rw [z] at q; cases q
      · exact .inl ⟨ob, q⟩
      · exact .inr q
    | n + 1, e => simp at e
  · match n, e2 with
    | 0, e2 => cases e2; cases s2
    | n + 1, e2 => simp at e2
  · rw [h]
    exact fun η' v H' _ _ r => r
end
end DL


set_option maxRecDepth 100000
namespace DL
open PySem PySem.Spec PyProof.Rows L2

/-! ## plain values as data -/
mutual
def D.dat : D → PyData
  | .non => .none
  | .bl b => .bool b
  | .int i => .int i
  | .str s => .str (S s)
  | .tup ds => .tuple (D.dats ds)
  | .ref _ => .dict []
def D.dats : List D → List PyData
  | [] => []
  | d :: ds => d.dat :: D.dats ds
end
def toDat (h : AH) : D → PyData
  | .ref n => match h[n]? with
    | some (.lst ds) => .list (D.dats ds)
    | some (.scr ds) => .list (D.dats ds)
    | _ => .dict []
  | d => d.dat
section
variable {K : PySem.W.Frag} {mg : Str → Option Value} {η : Nat → Addr} {N : Nat} {H : Hp} {ah : AH}
mutual
theorem RelD.dp : ∀ (d : D) (v : V), RelD η N H d v → d.dat.plain = true → Dp K H v d.dat
  | .non, _, h, _ => by rw [show _ = V.non from h]; exact .non
  | .bl b, _, h, _ => by rw [show _ = V.bl b from h]; exact .bl b
  | .int i, _, h, _ => by rw [show _ = V.int i from h]; exact .int i
  | .str s, _, h, _ => by rw [show _ = V.str (S s) from h]; exact .str _
  | .tup ds, _, h, p => by
    obtain ⟨a, vs, rfl, h1, h2⟩ := h
    exact .tup (h1.sq) (RelDs.dp ds vs h2 (by simpa [D.dat, PyData.plain] using p))
  | .ref n, _, _, p => by simp [D.dat, PyData.plain] at p
theorem RelDs.dp : ∀ (ds : List D) (vs : List V), RelDs η N H ds vs → PyData.plainAll (D.dats ds) = true → DpAll K H vs (D.dats ds)
  | [], _, h, _ => by rw [show _ = [] from h]; exact .nil
  | d :: ds, _, h, p => by
    obtain ⟨v, r, rfl, h1, h2⟩ := h
    simp only [D.dats, PyData.plainAll, Bool.and_eq_true] at p
    exact .cons (RelD.dp d v h1 p.1) (RelDs.dp ds r h2 p.2)
end
theorem toDat_dp {d : D} {v : V} (hh : RelH K mg η ah H) (r : RelD η ah.length H d v) (p : (toDat ah d).plain = true) : Dp K H v (toDat ah d) := by
  cases d with
  | ref n =>
    obtain ⟨hn, rfl⟩ := r
    unfold toDat at p ⊢
    dsimp only at p ⊢
    split at p
    · rename_i ds e
      obtain ⟨vs, h1, h2⟩ := hh.obj n _ e
      exact .lst (.of h1) (RelDs.dp _ _ h2 (by simpa [PyData.plain] using p))
    · rename_i ds e
      obtain ⟨vs, h1, h2⟩ := SqL_of_scr (hh.obj n _ e)
      exact .lst h1 (RelDs.dp _ _ h2 (by simpa [PyData.plain] using p))
    · simp [PyData.plain] at p
  | _ => exact RelD.dp _ _ r p
end
/-! ## == and in -/
def okD (a b : PyData) : Bool := a.plain && b.plain && decide (a.depth ≤ 60)
def eqD (neg : Bool) : Op2 := fun x y h => if okD (toDat h x) (toDat h y) = true then some (.bl (xor neg (PyData.eqv (toDat h x) (toDat h y))), h) else none
/-- what it walks over -/
def itemsD (h : AH) : D → Option (List D)
  | .tup ds => some ds
  | .ref n => match h[n]? with
    | some (.lst ds) => some ds
    | some (.scr ds) => some ds
    | _ => none
  | _ => none
def isIn (x : PyData) (ds : List PyData) : Bool := ds.any fun y => PyData.eqv y x
/-- one text within another -/
def subStr (s t : List Nat) : Bool := !(Builtin.Str.occurrences (S t) (S s) 0 t.length 1).isEmpty
def dkey : D → Option Key
  | .int i => some (.inl i)
  | .str s => some (.inr (S s))
  | _ => none
def dkeys : List D → Option (List Key)
  | [] => some []
  | d :: ds => match dkey d, dkeys ds with
    | some k, some ks => some (k :: ks)
    | _, _ => none
/-- keys of a dict: int and texts, or tuples of them -/
def keyOk : D → Bool
  | .int _ => true
  | .str _ => true
  | .tup ds => (dkeys ds).isSome
  | _ => false
def sameK : D → D → Bool
  | .int i, .int j => decide (i = j)
  | .str s, .str t => decide (s = t)
  | .tup a, .tup b => decide (dkeys a = dkeys b)
  | _, _ => false
def inD (neg : Bool) : Op2 := fun x y h => match x, y with
  | .str s, .str t => some (.bl (xor neg (subStr s t)), h)
  | x, y => match itemsD h y with
    | some ds => if (PyData.plainAll (D.dats ds) && x.dat.plain && decide (x.dat.depth ≤ 60)) = true then some (.bl (xor neg (isIn x.dat (D.dats ds))), h) else none
    | none => none
section
variable {X : Cx} {W : WX} {η η' η1 : Nat → Addr} {N N1 : Nat} {σd : Lc} {ah ah' ah1 : AH} {σ : L2.St} {H H' H1 : Hp} {Q : VK} {pos : Pos}
theorem AnsP.same {K : PySem.W.Frag} {mg : Str → Option Value} {d : D} {v : V} (h : AnsP K mg η ah.length H (some (d, ah)) Q) (hh : RelH K mg η ah H) (rd : RelD η ah.length H d v) : Q v H := h.val rfl hh rd
theorem AnsP.none {K : PySem.W.Frag} {mg : Str → Option Value} (h : AnsP K mg η N H none Q) : False := by
  obtain ⟨_, _, e, _⟩ := h
  cases e
theorem AnsP.lst {K : PySem.W.Frag} {mg : Str → Option Value} {ds : List D} {vs : List V} {p : Addr} (h : AnsP K mg η ah.length H (some (.ref ah.length, ah ++ [.lst ds])) Q) (hh : RelH K mg η ah H) (r : RelDs η ah.length H ds vs) (hp : H p = Option.none) : Q (.ref p) (upd H p (.lst vs)) := by
  obtain ⟨d, h', e, q⟩ := h
  cases e
  have el : (ah ++ [O.lst ds]).length = ah.length + 1 := by simp
  exact q (etaN η ah.length p) (.ref p) _ (by rw [el]; exact ext_new hp) (relH_new hh hp rfl ⟨vs, upd_same, RelDs.ext (ext_new hp) _ _ r⟩) ⟨by rw [el]; exact Nat.lt_succ_self _, by rw [etaN_at]⟩
theorem AnsP.tup {ds : List D} {vs : List V} (h : AnsP X.K X.mg η ah.length H (some (.tup ds, ah)) Q) (hh : RelH X.K X.mg η ah H) (r : RelDs η ah.length H ds vs) : NewT H vs Q := by
  obtain ⟨d, h', e, q⟩ := h
  cases e
  exact rel_newT hh r fun v H' e hh' rd => q η v H' e hh' rd
/-- a plain one -/
theorem AnsP.tupP {ds : List D} {vs : List V} {p : Addr} (h : AnsP X.K X.mg η ah.length H (some (.tup ds, ah)) Q) (hh : RelH X.K X.mg η ah H) (r : RelDs η ah.length H ds vs) (hz : nz ds = false) (hp : H p = Option.none) : Q (.ref p) (upd H p (.tup vs)) := by
  obtain ⟨d, h', e, q⟩ := h
  cases e
  exact q η _ _ (ext_tup hp) (relH_tup hh hp) ⟨p, vs, rfl, .ofF hz upd_same, RelDs.ext (ext_tup hp) _ _ r⟩
theorem AnsP.ite {K : PySem.W.Frag} {mg : Str → Option Value} {c : Prop} [Decidable c] {r : Option (D × AH)} (h : AnsP K mg η N H (if c then r else Option.none) Q) : c ∧ AnsP K mg η N H r Q := by
  by_cases hc : c
  · rw [if_pos hc] at h; exact ⟨hc, h⟩
  · rw [if_neg hc] at h; exact h.none.elim

theorem hu60 {n : Nat} {A : Around} (hu : A.units + 64 < cLine) {a b : Nat} (h : a ≤ 60) : A.units + min a b < cLine := by omega
theorem opr_eq (hu : X.A.units + 64 < cLine) : OpR X (compareOp .Eq) (rD2 X.K X.mg (eqD false)) := by
  intro pins s σ H x y v u Q I rx ry ⟨η, ah, dx, dy, hh, r1, r2, a⟩
  unfold eqD at a
  obtain ⟨c, a⟩ := a.ite
  simp only [okD, Bool.and_eq_true, decide_eq_true_eq] at c
  obtain ⟨as, q1⟩ := Dp.reads I _ _ _ (toDat_dp hh r1 c.1.1) rx
  obtain ⟨bs, q2⟩ := Dp.reads I _ _ _ (toDat_dp hh r2 c.1.2) ry
  refine SeqAt.eq_plain q1 q2 c.1.1 c.1.2 (hu60 (n := 0) hu c.2) ⟨.bl _, H, I, rfl, ?_⟩
  exact a.same hh (by simp [RelD])
theorem opr_ne (hu : X.A.units + 64 < cLine) : OpR X (compareOp .NotEq) (rD2 X.K X.mg (eqD true)) := by
  intro pins s σ H x y v u Q I rx ry ⟨η, ah, dx, dy, hh, r1, r2, a⟩
  unfold eqD at a
  obtain ⟨c, a⟩ := a.ite
  simp only [okD, Bool.and_eq_true, decide_eq_true_eq] at c
  obtain ⟨as, q1⟩ := Dp.reads I _ _ _ (toDat_dp hh r1 c.1.1) rx
  obtain ⟨bs, q2⟩ := Dp.reads I _ _ _ (toDat_dp hh r2 c.1.2) ry
  refine SeqAt.ne_plain q1 q2 c.1.1 c.1.2 (hu60 (n := 0) hu c.2) ⟨.bl _, H, I, rfl, ?_⟩
  exact a.same hh (by simp [RelD])
theorem in_core (hu : X.A.units + 64 < cLine) {neg : Bool} {f : Value → Value → Sem Value}
    (hs : OpR X f fun x y H Q => ∃ i j, x = .str i ∧ y = .str j ∧ Q (.bl (xor neg (!(Builtin.Str.occurrences j i 0 j.length 1).isEmpty))) H)
    (hd : ∀ {s : Shared} {c x : Value} {xs : List PyData} {d : PyData} {as bs : List Addr} {Q : Value → Shared → Prop}, (Reads s.heap c (.list xs) as ∨ Reads s.heap c (.tuple xs) as) → Reads s.heap x d bs → PyData.plainAll xs = true → d.plain = true →
      X.A.units + 1 + min (PyData.depthAll xs) d.depth < cLine → Q (.bool (xor neg (xs.any fun y => PyData.eqv y d))) s → wpAny (model X.prog X.w) X.A (f x c) Q X.xe s) : OpR X f (rD2 X.K X.mg (inD neg)) := by
  intro pins s σ H x y v u Q I rx ry ⟨η, ah, dx, dy, hh, r1, r2, a⟩
  unfold inD at a
  split at a
  · refine hs pins s σ H x y v u Q I rx ry ⟨_, _, r1, r2, ?_⟩
    exact a.same hh rfl
  · rename_i nn
    clear nn
    split at a
    · rename_i ds e
      obtain ⟨c, a⟩ := a.ite
      simp only [Bool.and_eq_true, decide_eq_true_eq] at c
      obtain ⟨bs, q2⟩ := Dp.reads I _ _ _ (RelD.dp _ _ r1 c.1.2) rx
      have q1 : ∃ as, Reads s.heap u (.list (D.dats ds)) as ∨ Reads s.heap u (.tuple (D.dats ds)) as := by
        unfold itemsD at e
        split at e
        · cases e
          obtain ⟨p, vs, rfl, h1, h2⟩ := r2
          obtain ⟨as, q⟩ := Dp.reads I _ _ _ (.tup (h1.sq) (RelDs.dp _ _ h2 c.1.1)) ry
          exact ⟨as, .inr q⟩
        · rename_i n
          obtain ⟨hn, rfl⟩ := r2
          split at e
          · rename_i ds' e2
            cases e
            obtain ⟨vs, h1, h2⟩ := hh.obj n _ e2
            obtain ⟨as, q⟩ := Dp.reads I _ _ _ (.lst (.of h1) (RelDs.dp _ _ h2 c.1.1)) ry
            exact ⟨as, .inl q⟩
          · rename_i ds' e2
            cases e
            obtain ⟨vs, h1, h2⟩ := SqL_of_scr (hh.obj n _ e2)
            obtain ⟨as, q⟩ := Dp.reads I _ _ _ (.lst h1 (RelDs.dp _ _ h2 c.1.1)) ry
            exact ⟨as, .inl q⟩
          · cases e
        · cases e
      obtain ⟨as, q1⟩ := q1
      refine hd q1 q2 c.1.1 c.1.2 (by have := c.2; omega) ⟨.bl _, H, I, rfl, ?_⟩
      exact a.same hh (by simp [RelD, isIn])
    · exact a.none.elim
theorem opr_in (hu : X.A.units + 64 < cLine) : OpR X (compareOp .In) (rD2 X.K X.mg (inD false)) := by
  refine in_core hu (fun pins s σ H x y v u Q I rx ry h => op_in_str pins s σ H x y v u Q I rx ry ?_) fun q1 q2 h1 h2 h3 h4 => ?_
  · obtain ⟨i, j, e1, e2, q⟩ := h
    exact ⟨i, j, e1, e2, by simpa using q⟩
  · rcases q1 with q1 | q1
    · exact SeqAt.in_list_data q1 q2 h1 h2 h3 (by simpa using h4)
    · exact SeqAt.in_tuple_data q1 q2 h1 h2 h3 (by simpa using h4)
theorem opr_notIn (hu : X.A.units + 64 < cLine) : OpR X (compareOp .NotIn) (rD2 X.K X.mg (inD true)) := by
  refine in_core hu (fun pins s σ H x y v u Q I rx ry h => op_notin_str pins s σ H x y v u Q I rx ry ?_) fun q1 q2 h1 h2 h3 h4 => ?_
  · obtain ⟨i, j, e1, e2, q⟩ := h
    exact ⟨i, j, e1, e2, by simpa using q⟩
  · rcases q1 with q1 | q1
    · exact SeqAt.notIn_list_data q1 q2 h1 h2 h3 (by simpa using h4)
    · exact SeqAt.notIn_tuple_data q1 q2 h1 h2 h3 (by simpa using h4)
end
end DL


set_option maxRecDepth 100000
namespace DL
open PySem PySem.Spec PyProof.Rows L2

/-! ## more operations -/
def addD : Op2 := fun x y h => match x, y with
  | .int i, .int j => some (.int (i + j), h)
  | .str s, .str t => if s.length + t.length ≤ 16777216 then some (.str (s ++ t), h) else none
  | .tup a, .tup b => if a.length + b.length ≤ 16777216 then some (.tup (a ++ b), h) else none
  | .ref m, .ref n => match h[m]?, h[n]? with
    | some (.lst a), some (.lst b) => if a.length + b.length ≤ 16777216 then some (.ref h.length, h ++ [.lst (a ++ b)]) else none
    | _, _ => none
  | _, _ => none
def subD : Op2 := fun x y h => match x, y with
  | .int i, .int j => some (.int (i - j), h)
  | _, _ => none
def small64 (i : Int) : Bool := decide (-(2 ^ 64) < i) && decide (i < 2 ^ 64)
def mulD : Op2 := fun x y h => match x, y with
  | .int i, .int j => if (small64 i || small64 j) = true then some (.int (i * j), h) else none
  | .tup a, .int j => if a ≠ [] ∧ 2 ≤ j ∧ j ≤ 1000 ∧ a.length ≤ 1000 then some (.tup (List.replicate j.toNat a).flatten, h) else none
  | .str a, .int j => if 0 ≤ j ∧ j ≤ 1000 ∧ a.length ≤ 1000 then some (.str (List.replicate j.toNat a).flatten, h) else none
  | .ref n, .int j => match h[n]? with
    | some (.lst a) => if 0 ≤ j ∧ j ≤ 1000 ∧ a.length ≤ 1000 then some (.ref h.length, h ++ [.lst (List.replicate j.toNat a).flatten]) else none
    | _ => none
  | _, _ => none
def modD : Op2 := fun x y h => match x, y with
  | .int i, .int j => if 0 < j then some (.int (i % j), h) else none
  | _, _ => none
def fdivD : Op2 := fun x y h => match x, y with
  | .int i, .int j => if 0 < j ∧ j < 1073741824 then some (.int (i / j), h) else none
  | _, _ => none
def negD : Op1 := fun x h => match x with
  | .int i => some (.int (-i), h)
  | _ => none
def cmpD (pi : Int → Int → Bool) (ps : List Nat → List Nat → Bool) : Op2 := fun x y h => match x, y with
  | .int i, .int j => some (.bl (pi i j), h)
  | .str s, .str t => some (.bl (ps s t), h)
  | _, _ => none
def ltD : Op2 := cmpD (fun i j => decide (i < j)) (fun s t => decide (s < t))
def gtD : Op2 := cmpD (fun i j => decide (j < i)) (fun s t => decide (t < s))
def leD : Op2 := cmpD (fun i j => decide (i ≤ j)) (fun s t => !decide (t < s))
def geD : Op2 := cmpD (fun i j => decide (j ≤ i)) (fun s t => !decide (s < t))
def isN : D → Bool
  | .non => true
  | _ => false
/-- is: None, or truths -/
def isD (neg : Bool) : Op2 := fun x y h => match x, y with
  | x, .non => some (.bl (xor neg (isN x)), h)
  | .bl a, .bl b => some (.bl (xor neg (decide (a = b))), h)
  | _, _ => none
def lenD (d : D) (h : AH) : Option Nat := match d with
  | .str s => if s.length ≤ 16777216 then some s.length else none
  | .tup ds => some ds.length
  | .ref n => match h[n]? with
    | some (.lst ds) => some ds.length
    | some (.scr ds) => some ds.length
    | _ => none
  | _ => none
def lenL : OpL := fun ds h => match ds with
  | [d] => (lenD d h).map fun (n : Nat) => (D.int (n : Int), h)
  | _ => none
def allBl : List D → Option (List Bool)
  | [] => some []
  | .bl b :: ds => (allBl ds).map (b :: ·)
  | _ :: _ => none
def allL : OpL := fun ds h => match ds with
  | [.ref n] => match h[n]? with
    | some (.lst ds) => (allBl ds).map fun bs => (.bl (bs.all id), h)
    | _ => none
  | _ => none
def anyL : OpL := fun ds h => match ds with
  | [.ref n] => match h[n]? with
    | some (.lst ds) => (allBl ds).map fun bs => (.bl (bs.any id), h)
    | _ => none
  | _ => none
def istr (i : Int) : List Nat := (Str.ofString (toString i)).cps.toList
def strL : OpL := fun ds h => match ds with
  | [.int i] => if i.natAbs.log2 < 1920 then some (.str (istr i), h) else none
  | _ => none
def tupleL : OpL := fun ds h => match ds with
  | [.tup ds] => some (.tup ds, h)
  | [.ref n] => match h[n]? with
    | some (.lst ds) => some (.tup ds, h)
    | some (.scr ds) => some (.tup ds, h)
    | _ => none
  | _ => none
def listL : OpL := fun ds h => match ds with
  | [.tup ds] => some (.ref h.length, h ++ [.lst ds])
  | [.ref n] => match h[n]? with
    | some (.lst ds) => some (.ref h.length, h ++ [.lst ds])
    | some (.scr ds) => some (.ref h.length, h ++ [.lst ds])
    | _ => none
  | _ => none
/-- an item by its place -/
def ixD : Op2 := fun x y h => match x, y with
  | .str s, .int i => if s.length ≤ 16777216 then (atI s i).map fun c => (.str [c], h) else none
  | .tup ds, .int i => (atI ds i).map fun d => (d, h)
  | .ref n, .int i => match h[n]? with
    | some (.lst ds) => (atI ds i).map fun d => (d, h)
    | some (.scr ds) => (atI ds i).map fun d => (d, h)
    | _ => none
  | _, _ => none
/-- a part -/
def cut {α : Type} (xs : List α) (lo hi : Option Int) : List α := (xs.drop (HT.sIx xs.length 0 lo)).take (HT.sIx xs.length xs.length hi - HT.sIx xs.length 0 lo)
def slK (d : D) (lo hi : Option Int) (h : AH) : Option (D × AH) := match d with
  | .str s => if s.length ≤ 16777216 then some (.str (cut s lo hi), h) else none
  | .tup ds => some (.tup (cut ds lo hi), h)
  | .ref n => match h[n]? with
    | some (.lst ds) => some (.ref h.length, h ++ [.lst (cut ds lo hi)])
    | some (.scr ds) => some (.ref h.length, h ++ [.lst (cut ds lo hi)])
    | _ => none
  | _ => none
section
variable {X : Cx} {W : WX} {η η' η1 : Nat → Addr} {N N1 : Nat} {σd : Lc} {ah ah' ah1 : AH} {σ : L2.St} {H H' H1 : Hp} {Q : VK} {pos : Pos}
theorem S_append (s t : List Nat) : S s ++ S t = S (s ++ t) := by
  show Str.append (S s) (S t) = S (s ++ t)
  simp [Str.append, S]
theorem S_length (s : List Nat) : (S s).length = s.length := by simp [S, Str.length]
theorem AnsP.map {K : PySem.W.Frag} {mg : Str → Option Value} {α : Type} {o : Option α} {f : α → D × AH} (h : AnsP K mg η N H (o.map f) Q) : ∃ a, o = some a ∧ AnsP K mg η N H (some (f a)) Q := by
  cases o with
  | none => exact h.none.elim
  | some a => exact ⟨a, rfl, h⟩
theorem op_catB : OpR X (binaryOp .Add) (fun x y H Q => ∃ a b xs ys, x = .ref a ∧ y = .ref b ∧ SqT X.K H a xs ∧ SqT X.K H b ys ∧ xs.length + ys.length ≤ sizeLine ∧
    (xs = [] → Q (.ref b) H) ∧ (xs ≠ [] → ys = [] → Q (.ref a) H) ∧ (xs ≠ [] → ys ≠ [] → NewT H (xs ++ ys) Q)) := by
  intro pins s σ H x y v u Q I rx ry h
  obtain ⟨a, b, xs, ys, rfl, rfl, ha, hb, hz, q0, q1, q2⟩ := h
  by_cases hx : xs = []
  · exact op_catA pins s σ H _ _ v u Q I rx ry ⟨a, b, xs, ys, rfl, rfl, ha, hb, hz, q0, q1, fun z => absurd hx z⟩
  · by_cases hy : ys = []
    · exact op_catA pins s σ H _ _ v u Q I rx ry ⟨a, b, xs, ys, rfl, rfl, ha, hb, hz, q0, q1, fun _ z => absurd hy z⟩
    · cases rx
      cases ry
      obtain ⟨its, r1, p1, _⟩ := I.tuple ha
      obtain ⟨its2, r2, p2, _⟩ := I.tuple hb
      refine HT.cat_tup p1 p2 (fun z => hx (r1.nil_iff.mp z)) (fun z => absurd (r2.nil_iff.mp z) hy) (fun z => ?_) (by rw [← r1.length, ← r2.length]; exact hz)
      exact newT_laid I (fun b ob q => Heap.get?_push_of_some _ q) (Nat.le_refl _) (Heap.get?_push_size _ rfl) rfl (IsTup.new _ _) (by rw [List.length_append]; exact hz) (r1.append r2) (q2 hx hy) (t' := s.toks)
theorem nz_rep {a : List D} {j : Nat} (ha : a ≠ []) (hj : 2 ≤ j) : nz (List.replicate j a).flatten = false := by
  obtain ⟨k, rfl⟩ : ∃ k, j = k + 2 := ⟨j - 2, by omega⟩
  cases a with
  | nil => exact absurd rfl ha
  | cons d a =>
    unfold nz
    rw [decide_eq_false_iff_not]
    rintro ⟨_, _, h3⟩
    rw [List.replicate_succ, List.replicate_succ] at h3
    simp only [List.flatten_cons, List.cons_append, List.map_cons, List.map_append, List.nodup_cons] at h3
    exact h3.1 (by simp)
theorem opr_add : OpR X (binaryOp .Add) (rD2 X.K X.mg addD) := by
  intro pins s σ H x y v u Q I rx ry ⟨η, ah, dx, dy, hh, r1, r2, a⟩
  unfold addD at a
  split at a
  · exact op_add pins s σ H x y v u Q I rx ry ⟨_, _, r1, r2, a.same hh rfl⟩
  · obtain ⟨c, a⟩ := a.ite
    refine op_add_str pins s σ H x y v u Q I rx ry ⟨_, _, r1, r2, by rw [S_length, S_length]; exact c, ?_⟩
    rw [S_append]
    exact a.same hh rfl
  · rename_i da db
    obtain ⟨c, a⟩ := a.ite
    obtain ⟨p, vs, rfl, h1, h2⟩ := r1
    obtain ⟨q, ws, rfl, h3, h4⟩ := r2
    refine op_catB pins s σ H _ _ v u Q I rx ry ⟨p, q, vs, ws, rfl, rfl, h1.sq, h3.sq, by rw [h2.length, h4.length]; exact c, fun e => ?_, fun e1 e2 => ?_, fun e1 e2 => ?_⟩
    · have ea : da = [] := by
        have := h2.length
        rw [e] at this
        exact List.length_eq_zero_iff.mp this.symm
      rw [ea] at a
      exact a.same hh ⟨q, ws, rfl, h3, h4⟩
    · have eb : db = [] := by
        have := h4.length
        rw [e2] at this
        exact List.length_eq_zero_iff.mp this.symm
      rw [eb, List.append_nil] at a
      exact a.same hh ⟨p, vs, rfl, h1, h2⟩
    · exact a.tup hh (RelDs.append h2 h4)
  · rename_i m n
    obtain ⟨hm, rfl⟩ := r1
    obtain ⟨hn, rfl⟩ := r2
    split at a
    · rename_i da db e1 e2
      obtain ⟨c, a⟩ := a.ite
      obtain ⟨vs, h1, h2⟩ := hh.obj m _ e1
      obtain ⟨ws, h3, h4⟩ := hh.obj n _ e2
      exact op_cat pins s σ H _ _ v u Q I rx ry ⟨_, _, vs, ws, rfl, rfl, h1, h3, by rw [h2.length, h4.length]; exact c, fun p hp => a.lst hh (RelDs.append h2 h4) hp⟩
    · exact a.none.elim
  · exact a.none.elim
theorem opr_sub : OpR X (binaryOp .Sub) (rD2 X.K X.mg subD) := by
  intro pins s σ H x y v u Q I rx ry ⟨η, ah, dx, dy, hh, r1, r2, a⟩
  unfold subD at a
  split at a
  · exact op_sub pins s σ H x y v u Q I rx ry ⟨_, _, r1, r2, a.same hh rfl⟩
  · exact a.none.elim
theorem rep_rel {ds : List D} {vs : List V} (r : RelDs η N H ds vs) : ∀ k : Nat, RelDs η N H (List.replicate k ds).flatten (List.replicate k vs).flatten
  | 0 => rfl
  | k + 1 => by
    rw [List.replicate_succ, List.flatten_cons, List.replicate_succ, List.flatten_cons]
    exact RelDs.append r (rep_rel r k)
theorem mulS_rel {z : List Nat} {x : V} {v : Value} (r : RelD η N H (.str z) x) (rx : RelV x v) : ∃ t, v = .str (S z) t := by
  rw [show x = V.str (S z) from r] at rx
  exact rx
theorem mulS_ok {z : List Nat} {j : Int} (h0 : 0 ≤ j) (h1 : j ≤ 1000) (hz : z.length ≤ 1000) : PySem.MulOk (S z) j := by
  have hl : (S z).length * j.toNat ≤ 1000 * 1000 := Nat.mul_le_mul (by rw [S_length]; exact hz) (by omega)
  refine ⟨?_, fun hj _ => ?_, fun hj _ => ?_⟩
  · rw [Bool.or_eq_false_iff]
    exact ⟨decide_eq_false (by omega), decide_eq_false (by omega)⟩
  · have : (1000 : Int) ≤ (2 ^ 63 - 1) / j := by
      rw [Int.le_ediv_iff_mul_le (by omega)]
      omega
    rw [S_length]
    omega
  · show decide (_ > sizeLine) = false
    rw [decide_eq_false_iff_not, sizeLine_eq]
    omega
theorem foldl_app (a : List Nat) : ∀ (k : Nat) (acc : Array Nat), ((List.replicate k a.toArray).foldl (· ++ ·) acc).toList = acc.toList ++ (List.replicate k a).flatten
  | 0, acc => by simp
  | k + 1, acc => by
    rw [List.replicate_succ, List.foldl_cons, foldl_app a k]
    simp [List.replicate_succ]
theorem mulS_eq {z : List Nat} {j : Int} (h0 : 0 ≤ j) : PySem.Txt.mul (S z) j = S (List.replicate j.toNat z).flatten := by
  have key : (PySem.Txt.mul (S z) j).cps.toList = (List.replicate j.toNat z).flatten := by
    unfold PySem.Txt.mul
    by_cases h1 : j < 1
    · rw [if_pos h1, show j.toNat = 0 by omega]
      rfl
    · rw [if_neg h1]
      by_cases h2 : (j == 1 || (S z).length == 0) = true
      · rw [if_pos h2]
        rw [Bool.or_eq_true, beq_iff_eq, beq_iff_eq, S_length] at h2
        rcases h2 with rfl | h2
        · show z = _
          simp
        · have : z = [] := List.length_eq_zero_iff.mp h2
          subst this
          show [] = _
          simp
      · rw [if_neg h2]
        show ((List.replicate j.toNat z.toArray).foldl (· ++ ·) #[]).toList = _
        rw [foldl_app]
        rfl
  have e : PySem.Txt.mul (S z) j = S (PySem.Txt.mul (S z) j).cps.toList := rfl
  rw [e, key]
theorem opr_mul : OpR X (binaryOp .Mult) (rD2 X.K X.mg mulD) := by
  intro pins s σ H x y v u Q I rx ry ⟨η, ah, dx, dy, hh, r1, r2, a⟩
  unfold mulD at a
  split at a
  · obtain ⟨c, a⟩ := a.ite
    refine op_mul pins s σ H x y v u Q I rx ry ⟨_, _, r1, r2, ?_, a.same hh rfl⟩
    simp only [small64, Bool.or_eq_true, Bool.and_eq_true, decide_eq_true_eq] at c
    exact c
  · obtain ⟨c, a⟩ := a.ite
    obtain ⟨p, vs, rfl, h1, h2⟩ := r1
    refine op_repT pins s σ H _ y v u Q I rx ry ⟨p, _, vs, rfl, r2, h1.sq, ?_, c.2.1, c.2.2.1, by rw [h2.length]; exact c.2.2.2, fun p hp => a.tupP hh (rep_rel h2 _) (nz_rep c.1 (by omega)) hp⟩
    intro e
    have := h2.length
    rw [e] at this
    exact c.1 (List.length_eq_zero_iff.mp this.symm)
  · rename_i z j
    obtain ⟨c, a⟩ := a.ite
    obtain ⟨t, rfl⟩ := mulS_rel r1 rx
    have ry' := ry
    rw [show y = V.int j from r2] at ry'
    obtain ⟨t2, rfl⟩ := ry'
    refine PySem.SB.mul (mulS_ok c.1 c.2.1 c.2.2) fun t' k => ⟨.str (PySem.Txt.mul (S z) j), H, I.tok _, ⟨t', rfl⟩, ?_⟩
    refine a.same hh ?_
    show V.str _ = V.str _
    rw [mulS_eq c.1]
  · rename_i n j
    obtain ⟨hn, rfl⟩ := r1
    split at a
    · rename_i ds e
      obtain ⟨c, a⟩ := a.ite
      obtain ⟨vs, h1, h2⟩ := hh.obj n _ e
      refine op_rep pins s σ H _ y v u Q I rx ry ⟨_, j, vs, rfl, r2, h1, by omega, by omega, ?_, fun p hp => a.lst hh (rep_rel h2 _) hp⟩
      have : vs.length * j.toNat ≤ 1000 * 1000 := Nat.mul_le_mul (by rw [h2.length]; exact c.2.2) (by omega)
      rw [sizeLine_eq]
      omega
    · exact a.none.elim
  · exact a.none.elim
theorem opr_mod : OpR X (binaryOp .Mod) (rD2 X.K X.mg modD) := by
  intro pins s σ H x y v u Q I rx ry ⟨η, ah, dx, dy, hh, r1, r2, a⟩
  unfold modD at a
  split at a
  · obtain ⟨c, a⟩ := a.ite
    exact op_mod pins s σ H x y v u Q I rx ry ⟨_, _, r1, r2, c, a.same hh rfl⟩
  · exact a.none.elim
theorem opr_fdiv : OpR X (binaryOp .FloorDiv) (rD2 X.K X.mg fdivD) := by
  intro pins s σ H x y v u Q I rx ry ⟨η, ah, dx, dy, hh, r1, r2, a⟩
  unfold fdivD at a
  split at a
  · obtain ⟨c, a⟩ := a.ite
    exact op_fdiv pins s σ H x y v u Q I rx ry ⟨_, _, r1, r2, c, a.same hh rfl⟩
  · exact a.none.elim
theorem unr_neg : UnR X (unaryOp .USub) (rD1 X.K X.mg negD) := by
  intro pins s σ H x v Q I rx ⟨η, ah, dx, hh, r1, a⟩
  unfold negD at a
  split at a
  · exact un_neg pins s σ H x v Q I rx ⟨_, r1, a.same hh rfl⟩
  · exact a.none.elim
theorem cmp_core {f : Value → Value → Sem Value} {pi : Int → Int → Bool} {ps : List Nat → List Nat → Bool} (hi : OpR X f (rI0 fun i j => .bl (pi i j)))
    (hs : OpR X f fun x y H Q => ∃ i j, x = .str i ∧ y = .str j ∧ Q (.bl (ps i.cps.toList j.cps.toList)) H) : OpR X f (rD2 X.K X.mg (cmpD pi ps)) := by
  intro pins s σ H x y v u Q I rx ry ⟨η, ah, dx, dy, hh, r1, r2, a⟩
  unfold cmpD at a
  split at a
  · exact hi pins s σ H x y v u Q I rx ry ⟨_, _, r1, r2, a.same hh rfl⟩
  · exact hs pins s σ H x y v u Q I rx ry ⟨_, _, r1, r2, a.same hh rfl⟩
  · exact a.none.elim
theorem opr_lt : OpR X (compareOp .Lt) (rD2 X.K X.mg ltD) := cmp_core op_lt op_lt_str
theorem opr_gt : OpR X (compareOp .Gt) (rD2 X.K X.mg gtD) := cmp_core op_gt op_gt_str
theorem opr_le : OpR X (compareOp .LtE) (rD2 X.K X.mg leD) := cmp_core op_le op_le_str
theorem opr_ge : OpR X (compareOp .GtE) (rD2 X.K X.mg geD) := cmp_core op_ge op_ge_str
theorem isN_rel {d : D} {v : V} (r : RelD η N H d v) : isN d = decide (v = .non) := by
  cases d with
  | non => rw [show v = _ from r]; rfl
  | bl b => rw [show v = _ from r]; rfl
  | int b => rw [show v = _ from r]; rfl
  | str b => rw [show v = _ from r]; rfl
  | tup ds => obtain ⟨a, vs, rfl, _⟩ := r; rfl
  | ref n => rw [r.2]; rfl
theorem opr_is : OpR X (compareOp .Is) (rD2 X.K X.mg (isD false)) := by
  intro pins s σ H x y v u Q I rx ry ⟨η, ah, dx, dy, hh, r1, r2, a⟩
  unfold isD at a
  split at a
  · refine op_isN pins s σ H x y v u Q I rx ry ⟨r2, ?_⟩
    rw [← isN_rel r1]
    exact a.same hh (by simp [RelD])
  · refine op_isBl pins s σ H x y v u Q I rx ry ⟨_, _, r1, r2, ?_⟩
    exact a.same hh (by simp [RelD])
  · exact a.none.elim
theorem opr_isNot : OpR X (compareOp .IsNot) (rD2 X.K X.mg (isD true)) := by
  intro pins s σ H x y v u Q I rx ry ⟨η, ah, dx, dy, hh, r1, r2, a⟩
  unfold isD at a
  split at a
  · refine op_notN pins s σ H x y v u Q I rx ry ⟨r2, ?_⟩
    rw [← isN_rel r1]
    exact a.same hh (by simp [RelD])
  · refine op_notBl pins s σ H x y v u Q I rx ry ⟨_, _, r1, r2, ?_⟩
    exact a.same hh (by simp [RelD])
  · exact a.none.elim
theorem seq_of {d : D} {v : V} (hh : RelH X.K X.mg η ah H) (r : RelD η ah.length H d v) {ds : List D} (e : itemsD ah d = some ds) : ∃ p vs, v = .ref p ∧ RelDs η ah.length H ds vs ∧ (SqL X.K H p vs ∨ SqT X.K H p vs) := by
  unfold itemsD at e
  split at e
  · cases e
    obtain ⟨p, vs, rfl, h1, h2⟩ := r
    exact ⟨p, vs, rfl, h2, .inr h1.sq⟩
  · rename_i n
    obtain ⟨hn, rfl⟩ := r
    split at e
    · rename_i ds' e2
      cases e
      obtain ⟨vs, h1, h2⟩ := hh.obj n _ e2
      exact ⟨_, vs, rfl, h2, .inl (.of h1)⟩
    · rename_i ds' e2
      cases e
      obtain ⟨vs, h1, h2⟩ := SqL_of_scr (hh.obj n _ e2)
      exact ⟨_, vs, rfl, h2, .inl h1⟩
    · cases e
  · cases e
theorem callr_len : CallR X (.builtin "len") (rDL X.K X.mg lenL) := by
  intro pins s σ H xs us Q I r ⟨η, ah, ds, hh, rd, a⟩
  unfold lenL at a
  split at a
  · rename_i d
    obtain ⟨v, r', rfl, r1, rfl⟩ := rd
    obtain ⟨n, e, a⟩ := a.map
    have hq := a.same hh (show RelD η ah.length H (.int n) (.int n) from rfl)
    refine call_len pins s σ H _ us Q I r ⟨v, n, rfl, ?_, hq⟩
    unfold lenD at e
    split at e
    · rw [show v = _ from r1]
      split at e
      · cases e
        refine ⟨?_, ?_⟩
        · rw [S_length]; assumption
        · rw [S_length]
      · cases e
    · cases e
      obtain ⟨p, vs, rfl, h2, h3⟩ := seq_of hh r1 rfl
      rcases h3 with h3 | h3
      · exact .inl ⟨vs, h3, h2.length.symm⟩
      · exact .inr ⟨vs, h3, h2.length.symm⟩
    · rename_i m
      split at e
      · rename_i ds e2
        cases e
        obtain ⟨p, vs, rfl, h2, h3⟩ := seq_of hh r1 (show itemsD ah (.ref m) = some ds by simp [itemsD, e2])
        rcases h3 with h3 | h3
        · exact .inl ⟨vs, h3, h2.length.symm⟩
        · exact .inr ⟨vs, h3, h2.length.symm⟩
      · rename_i ds e2
        cases e
        obtain ⟨p, vs, rfl, h2, h3⟩ := seq_of hh r1 (show itemsD ah (.ref m) = some ds by simp [itemsD, e2])
        rcases h3 with h3 | h3
        · exact .inl ⟨vs, h3, h2.length.symm⟩
        · exact .inr ⟨vs, h3, h2.length.symm⟩
      · cases e
    · cases e
  · exact a.none.elim
theorem allBl_rel : ∀ {ds : List D} {vs : List V} {bs : List Bool}, RelDs η N H ds vs → allBl ds = some bs → vs = bs.map V.bl
  | [], _, _, r, e => by cases e; exact r
  | d :: ds, _, bs, r, e => by
    obtain ⟨v, r', rfl, r1, r2⟩ := r
    cases d with
    | bl b =>
      have e' : (allBl ds).map (b :: ·) = some bs := e
      obtain ⟨bs', e1, e2⟩ := Option.map_eq_some_iff.mp e'
      subst e2
      rw [show v = _ from r1, allBl_rel r2 e1]
      rfl
    | _ => cases e
theorem callr_all (hc : X.calm = true) : CallR X (.builtin "all") (rDL X.K X.mg allL) := by
  intro pins s σ H xs us Q I r ⟨η, ah, ds, hh, rd, a⟩
  unfold allL at a
  split at a
  · rename_i n
    obtain ⟨v, r', rfl, ⟨hn, rfl⟩, rfl⟩ := rd
    split at a
    · rename_i ds e
      obtain ⟨vs, h1, h2⟩ := hh.obj n _ e
      obtain ⟨bs, e2, a⟩ := a.map
      have := allBl_rel h2 e2
      subst this
      exact cr_all hc pins s σ H _ us Q I r ⟨_, bs, rfl, .of h1, a.same hh rfl⟩
    · exact a.none.elim
  · exact a.none.elim
theorem callr_any (hc : X.calm = true) : CallR X (.builtin "any") (rDL X.K X.mg anyL) := by
  intro pins s σ H xs us Q I r ⟨η, ah, ds, hh, rd, a⟩
  unfold anyL at a
  split at a
  · rename_i n
    obtain ⟨v, r', rfl, ⟨hn, rfl⟩, rfl⟩ := rd
    split at a
    · rename_i ds e
      obtain ⟨vs, h1, h2⟩ := hh.obj n _ e
      obtain ⟨bs, e2, a⟩ := a.map
      have := allBl_rel h2 e2
      subst this
      exact cr_any hc pins s σ H _ us Q I r ⟨_, bs, rfl, .of h1, a.same hh rfl⟩
    · exact a.none.elim
  · exact a.none.elim
theorem callr_str : CallR X (.type "str") (rDL X.K X.mg strL) := by
  intro pins s σ H xs us Q I r ⟨η, ah, ds, hh, rd, a⟩
  unfold strL at a
  split at a
  · rename_i i
    obtain ⟨v, r', rfl, r1, rfl⟩ := rd
    obtain ⟨c, a⟩ := a.ite
    refine call_str_int pins s σ H _ us Q I r ⟨i, by rw [show v = _ from r1], c, ?_⟩
    refine a.same hh ?_
    show V.str _ = V.str (S (istr i))
    unfold istr
    rw [S_toList]
  · exact a.none.elim
theorem call_tupleB : CallR X (.type "tuple") (fun xs H Q => ∃ p ys, xs = [.ref p] ∧ ((SqL X.K H p ys ∧ NewT H ys Q) ∨ (SqT X.K H p ys ∧ Q (.ref p) H))) := by
  intro pins s σ H xs us Q I r h
  obtain ⟨p, ys, rfl, h⟩ := h
  rcases h with ⟨hq, q⟩ | ⟨hq, q⟩
  · obtain ⟨u, rfl, rx⟩ := vals1 r
    cases rx
    obtain ⟨its, r', pl, hz⟩ := I.list hq
    have hlen := r'.length
    refine call_tuple_list pl.isList (fun h' kp => ?_) (by simp only [List.size_toArray] <;> omega)
    have I1 : Inv X pins σ H { s with heap := h' } := I.kept (t' := s.toks) kp
    exact newT_laid I1 (fun b o e => Heap.get?_push_of_some _ e) (Nat.le_refl _) (Heap.get?_push_size _ rfl) rfl (IsTup.new _ _) hz r' q (t' := s.toks)
  · exact call_tuple_of pins s σ H _ us Q I r ⟨p, ys, rfl, .inr ⟨hq, q⟩⟩
theorem callr_tuple : CallR X (.type "tuple") (rDL X.K X.mg tupleL) := by
  intro pins s σ H xs us Q I r ⟨η, ah, ds, hh, rd, a⟩
  unfold tupleL at a
  split at a
  · rename_i ds
    obtain ⟨v, r', rfl, r1, rfl⟩ := rd
    have r1' := r1
    obtain ⟨p, vs, rfl, h1, h2⟩ := r1
    exact call_tupleB pins s σ H _ us Q I r ⟨p, vs, rfl, .inr ⟨h1.sq, a.same hh r1'⟩⟩
  · rename_i n
    obtain ⟨v, r', rfl, ⟨hn, rfl⟩, rfl⟩ := rd
    split at a
    · rename_i ds e
      obtain ⟨vs, h1, h2⟩ := hh.obj n _ e
      exact call_tupleB pins s σ H _ us Q I r ⟨_, vs, rfl, .inl ⟨.of h1, a.tup hh h2⟩⟩
    · rename_i ds e
      obtain ⟨vs, h1, h2⟩ := SqL_of_scr (hh.obj n _ e)
      exact call_tupleB pins s σ H _ us Q I r ⟨_, vs, rfl, .inl ⟨h1, a.tup hh h2⟩⟩
    · exact a.none.elim
  · exact a.none.elim
theorem callr_list : CallR X (.type "list") (rDL X.K X.mg listL) := by
  intro pins s σ H xs us Q I r ⟨η, ah, ds, hh, rd, a⟩
  unfold listL at a
  split at a
  · rename_i ds
    obtain ⟨v, r', rfl, ⟨p, vs, rfl, h1, h2⟩, rfl⟩ := rd
    exact call_list_of pins s σ H _ us Q I r ⟨p, vs, rfl, .inr h1.sq, fun p hp => a.lst hh h2 hp⟩
  · rename_i n
    obtain ⟨v, r', rfl, ⟨hn, rfl⟩, rfl⟩ := rd
    split at a
    · rename_i ds e
      obtain ⟨vs, h1, h2⟩ := hh.obj n _ e
      exact call_list_of pins s σ H _ us Q I r ⟨_, vs, rfl, .inl (.of h1), fun p hp => a.lst hh h2 hp⟩
    · rename_i ds e
      obtain ⟨vs, h1, h2⟩ := SqL_of_scr (hh.obj n _ e)
      exact call_list_of pins s σ H _ us Q I r ⟨_, vs, rfl, .inl h1, fun p hp => a.lst hh h2 hp⟩
    · exact a.none.elim
  · exact a.none.elim
theorem atI_rel {ds : List D} {vs : List V} (r : RelDs η N H ds vs) {i : Int} {d : D} (e : atI ds i = some d) : ∃ v, atI vs i = some v ∧ RelD η N H d v := by
  unfold atI at e ⊢
  rw [r.length]
  obtain ⟨j, e1, e2⟩ := Option.bind_eq_some_iff.mp e
  obtain ⟨v, hv, rv⟩ := r.get e2
  exact ⟨v, by rw [e1]; exact hv, rv⟩
theorem IxR.or3 {r1 r2 r3 : R2} (h1 : IxR X r1) (h2 : IxR X r2) (h3 : IxR X r3) : IxR X (fun x y H Q => (r1 x y H Q ∨ r2 x y H Q) ∨ r3 x y H Q) := (h1.or h2).or h3
theorem ixr_any : IxR X (rD2 X.K X.mg ixD) := by
  intro value slice pins s σ H x y v u Q I rx ry ⟨η, ah, dx, dy, hh, r1, r2, a⟩ hs
  unfold ixD at a
  split at a
  · obtain ⟨c, a⟩ := a.ite
    obtain ⟨e, h1, a⟩ := a.map
    exact ix_str value slice pins s σ H x y v u Q I rx ry ⟨_, _, e, r1, r2, by rw [S_length]; exact c, h1, a.same hh rfl⟩ hs
  · obtain ⟨e, h1, a⟩ := a.map
    obtain ⟨p, vs, rfl, h2, h3⟩ := r1
    obtain ⟨w, hw, rw'⟩ := atI_rel h3 h1
    exact ix_tup value slice pins s σ H _ y v u Q I rx ry ⟨p, vs, _, w, rfl, r2, h2.sq, hw, a.same hh rw'⟩ hs
  · rename_i n i
    obtain ⟨hn, rfl⟩ := r1
    split at a
    · rename_i ds e
      obtain ⟨d, h1, a⟩ := a.map
      obtain ⟨vs, h2, h3⟩ := hh.obj n _ e
      obtain ⟨w, hw, rw'⟩ := atI_rel h3 h1
      exact ix_list value slice pins s σ H _ y v u Q I rx ry ⟨_, vs, _, w, rfl, r2, .of h2, hw, a.same hh rw'⟩ hs
    · rename_i ds e
      obtain ⟨d, h1, a⟩ := a.map
      obtain ⟨vs, h2, h3⟩ := SqL_of_scr (hh.obj n _ e)
      obtain ⟨w, hw, rw'⟩ := atI_rel h3 h1
      exact ix_list value slice pins s σ H _ y v u Q I rx ry ⟨_, vs, _, w, rfl, r2, h2, hw, a.same hh rw'⟩ hs
    · exact a.none.elim
  · exact a.none.elim
theorem de_ix {a b : Expr} {fa fb : SE} (ha : DE X W a fa) (hb : DE X W b fb) (hs : PlainIx b := by exact fun _ _ => rfl) : DE X W (.Subscript a b pos) (dBin ixD fa fb) := PE.imp (pe_ix ixr_any ha hb hs) fun σ H Q h => by
  obtain ⟨η, σd, ah, sim, h⟩ := h
  exact tE_bind sim h fun dx ah1 η1 x H1 s1 e1 r1 h1 => tE_bind s1 h1 fun dy ah2 η2 y H2 s2 e2 r2 h2 => ⟨η2, ah2, dx, dy, s2.hh, r1.ext e2, r2, .of h2⟩
/-! ### slices -/
abbrev SOp := Lc → AH → Option (Option Int × AH)
def rSlD (K : PySem.W.Frag) (mg : Str → Option Value) : V → Option Int → Option Int → Hp → VK → Prop := fun x lo hi H Q => ∃ η ah dx, RelH K mg η ah H ∧ RelD η ah.length H dx x ∧ AnsP K mg η ah.length H (slK dx lo hi ah) Q
theorem cut_rel {ds : List D} {vs : List V} (r : RelDs η N H ds vs) (lo hi : Option Int) : RelDs η N H (cut ds lo hi) (cutV vs lo hi) := by
  unfold cut cutV
  rw [r.length]
  exact (r.drop _).take _
theorem cut_whole {α : Type} {xs : List α} {lo hi : Option Int} (h1 : HT.sIx xs.length 0 lo = 0) (h2 : HT.sIx xs.length xs.length hi = xs.length) : cut xs lo hi = xs := by
  unfold cut
  rw [h1, h2]
  simp
theorem sl_tupB : SlR X (fun x lo hi H Q => ∃ a xs, x = .ref a ∧ SqT X.K H a xs ∧
    (HT.sIx xs.length 0 lo = 0 ∧ HT.sIx xs.length xs.length hi = xs.length → Q (.ref a) H) ∧ (¬ (HT.sIx xs.length 0 lo = 0 ∧ HT.sIx xs.length xs.length hi = xs.length) → NewT H (cutV xs lo hi) Q)) := by
  intro pins s σ H x v vl vu lo hi sl Q I rx hs pl pu h
  obtain ⟨a, xs, rfl, hx, q1, q2⟩ := h
  by_cases hw : HT.sIx xs.length 0 lo = 0 ∧ HT.sIx xs.length xs.length hi = xs.length
  · exact sl_tupA pins s σ H _ v vl vu lo hi sl Q I rx hs pl pu ⟨a, xs, rfl, hx, q1, fun z => absurd hw z⟩
  · cases rx
    obtain ⟨its, r, ht, hz⟩ := I.tuple hx
    have hlen : its.toArray.size = xs.length := by rw [List.size_toArray]; exact r.length.symm
    refine ⟨"tuple", _, PyProof.Rows.slot_tuple_getitem.lookup, ht.typeIs, ?_⟩
    refine HT.getItem_tuple_cut ht hs pl pu (by rw [hlen]; exact hw) ?_ (by rw [hlen]; exact hz)
    rw [hlen]
    exact newT_laid I (fun b ob q => Heap.get?_push_of_some _ q) (Nat.le_refl _) (Heap.get?_push_size _ rfl) rfl (IsTup.new _ _) (Nat.le_trans (cutV_length xs lo hi) hz) ((r.drop (HT.sIx xs.length 0 lo)).take (HT.sIx xs.length xs.length hi - HT.sIx xs.length 0 lo)) (q2 hw) (t' := s.toks)
theorem slr_any : SlR X (rSlD X.K X.mg) := by
  intro pins s σ H x v vl vu lo hi sl Q I rx hs pl pu ⟨η, ah, dx, hh, r1, a⟩
  unfold slK at a
  split at a
  · obtain ⟨c, a⟩ := a.ite
    refine sl_str pins s σ H x v vl vu lo hi sl Q I rx hs pl pu ⟨_, r1, by rw [S_length]; exact c, ?_⟩
    refine a.same hh ?_
    show V.str _ = V.str _
    unfold cutS cut
    rw [S_cps, S_length]
  · rename_i ds
    have r1' := r1
    obtain ⟨p, vs, rfl, h1, h2⟩ := r1
    refine sl_tupB pins s σ H _ v vl vu lo hi sl Q I rx hs pl pu ⟨p, vs, rfl, h1.sq, fun e => ?_, fun e => ?_⟩
    · rw [cut_whole (by rw [← h2.length]; exact e.1) (by rw [← h2.length]; exact e.2)] at a
      exact a.same hh r1'
    · exact a.tup hh (cut_rel h2 lo hi)
  · rename_i n
    obtain ⟨hn, rfl⟩ := r1
    split at a
    · rename_i ds e
      obtain ⟨vs, h1, h2⟩ := hh.obj n _ e
      exact sl_list pins s σ H _ v vl vu lo hi sl Q I rx hs pl pu ⟨_, vs, rfl, .of h1, fun p hp => a.lst hh (cut_rel h2 lo hi) hp⟩
    · rename_i ds e
      obtain ⟨vs, h1, h2⟩ := SqL_of_scr (hh.obj n _ e)
      exact sl_list pins s σ H _ v vl vu lo hi sl Q I rx hs pl pu ⟨_, vs, rfl, h1, fun p hp => a.lst hh (cut_rel h2 lo hi) hp⟩
    · exact a.none.elim
  · exact a.none.elim
def evP : Option SE → SE
  | none => fun _ h => .ok .non h
  | some f => fun σ h => (f σ h).bind fun d h1 => match d with
    | .int i => .ok (.int i) h1
    | _ => .bad
def toP : D → Option Int
  | .int i => some i
  | _ => none
def pvI : V → Option Int
  | .int i => some i
  | _ => none
def tPo (K : PySem.W.Frag) (mg : Str → Option Value) (W : WX) (o : Option SE) : TO := fun σ H Q => tE K mg W (evP o) σ H fun v H' => Q (pvI v) H'
def DPo (X : Cx) (W : WX) (e : Option Expr) (o : Option SE) : Prop := PO X e (tPo X.K X.mg W o)
theorem PO.imp {e : Option Expr} {t t' : TO} (h : PO X e t) (k : ∀ σ H Q, t' σ H Q → t σ H Q) : PO X e t' := ⟨fun pins s σ H Q I q => h.run pins s σ H Q I (k _ _ _ q)⟩
theorem dpo_none : DPo X W none none := PO.imp po_none fun σ H Q h => by
  obtain ⟨η, σd, ah, sim, h⟩ := h
  exact h η .non H Ext.refl sim.hh rfl
theorem dpo_some {e : Expr} {f : SE} (he : DE X W e f) : DPo X W (some e) (some f) := PO.imp (po_some he) fun σ H Q h => by
  obtain ⟨η, σd, ah, sim, h⟩ := h
  refine tE_bind sim h fun d ah1 η1 v H1 s1 e1 r1 h1 => ?_
  cases d with
  | int i => exact ⟨i, r1, h1 η1 (.int i) H1 Ext.refl s1.hh rfl⟩
  | _ => exact h1.elim
theorem evP_rel {o : Option SE} {σd : Lc} {ah ah1 : AH} {d : D} {v : V} (e : evP o σd ah = .ok d ah1) (r : RelD η N H d v) : pvI v = toP d := by
  cases o with
  | none => cases e; rw [show v = _ from r]; rfl
  | some f =>
    have e : ((f σd ah).bind fun d h1 => match d with
      | .int i => .ok (.int i) h1
      | _ => .bad) = R.ok d ah1 := e
    cases q : f σd ah with
    | bad => rw [q] at e; cases e
    | exc x h => rw [q] at e; cases e
    | ok d' h' =>
      rw [q] at e
      cases d' with
      | int i => cases e; rw [show v = _ from r]; rfl
      | _ => cases e
def dSl (fa : SE) (lo hi : Option SE) : SE := fun σ h => (fa σ h).bind fun x h1 => (evP lo σ h1).bind fun l h2 => (evP hi σ h2).bind fun u h3 => ofO (slK x (toP l) (toP u) h3)
theorem de_sl {a : Expr} {lo hi : Option Expr} {fa : SE} {fl fh : Option SE} {p2 : Pos} (ha : DE X W a fa) (hl : DPo X W lo fl) (hh : DPo X W hi fh) : DE X W (.Subscript a (.Slice lo hi none p2) pos) (dSl fa fl fh) := PE.imp (pe_slice slr_any ha hl hh) fun σ H Q h => by
  obtain ⟨η, σd, ah, sim, h⟩ := h
  refine tE_bind sim h fun dx ah1 η1 x H1 s1 e1 r1 h1 => ?_
  show tE X.K X.mg W (evP fl) σ H1 _
  refine tE_go s1 (fun q => by rw [q] at h1; exact h1) (fun x ah' q => by rw [q] at h1; exact h1) fun dl ah2 η2 l H2 q s2 e2 r2 => ?_
  rw [q] at h1
  have h2 := RP.base e2 h1
  have el := evP_rel q r2
  show tE X.K X.mg W (evP fh) σ H2 _
  refine tE_go s2 (fun q => by rw [R.bind, q] at h2; exact h2) (fun x ah' q => by rw [R.bind, q] at h2; exact h2) fun du ah3 η3 u H3 q3 s3 e3 r3 => ?_
  rw [R.bind, q3] at h2
  have h3 := RP.base e3 h2
  have eu := evP_rel q3 r3
  rw [el, eu]
  exact ⟨η3, ah3, dx, s3.hh, (r1.ext e2).ext e3, .of h3⟩
end
end DL


set_option maxRecDepth 100000
namespace DL
open PySem PySem.Spec PyProof.Rows L2

/-! ## methods of texts and lists -/
def un1 (f : Str → Str) (s : List Nat) : List Nat := (f (S s)).cps.toList
def un2 (f : Str → Str → Str) (s t : List Nat) : List Nat := (f (S s) (S t)).cps.toList
def mS0 (big : Nat) (f : Str → Str) : OpM := fun x xs h => match x, xs with
  | .str s, [] => if s.length ≤ big then some (.str (un1 f s), h) else none
  | _, _ => none
def mS1 (f : Str → Str → Str) : OpM := fun x xs h => match x, xs with
  | .str s, [.str t] => if s.length ≤ 16777216 then some (.str (un2 f s t), h) else none
  | _, _ => none
def mB1 (f : Str → Str → Bool) : OpM := fun x xs h => match x, xs with
  | .str s, [.str t] => some (.bl (f (S s) (S t)), h)
  | _, _ => none
def parts (ys : List Str) : List D := ys.map fun y => .str y.cps.toList
def mSplit : OpM := fun x xs h => match x, xs with
  | .str s, [.str t] => if t ≠ [] ∧ s.length + 2 ≤ 16777216 then some (.ref h.length, h ++ [.lst (parts (Txt.split (S s) (S t)))]) else none
  | _, _ => none
def mWords : OpM := fun x xs h => match x, xs with
  | .str s, [] => if s.length + 2 ≤ 16777216 then some (.ref h.length, h ++ [.lst (parts (Txt.words (S s)))]) else none
  | _, _ => none
def strsOf : List D → Option (List Str)
  | [] => some []
  | .str s :: ds => (strsOf ds).map (S s :: ·)
  | _ :: _ => none
def mJoin : OpM := fun x xs h => match x, xs with
  | .str s, [y] => (itemsD h y).bind fun ds => (strsOf ds).bind fun ys => if (ys.map (·.length)).sum + ys.length * s.length ≤ 16777216 then some (.str (Txt.join (S s) ys).cps.toList, h) else none
  | _, _ => none
def mSIndex : OpM := fun x xs h => match x, xs with
  | .str s, [.str t] => match Builtin.Str.occurrences (S s) (S t) 0 s.length 1 with
    | i :: _ => some (.int (i : Nat), h)
    | [] => none
  | _, _ => none
def mAppend : OpM := fun x xs h => match x, xs with
  | .ref n, [d] => match h[n]? with
    | some (.lst ds) => if ds.length < 16777216 then some (.non, h.set n (.lst (ds ++ [d]))) else none
    | _ => none
  | _, _ => none
def flatD : D → Bool
  | .non => true
  | .bl _ => true
  | .int _ => true
  | .str _ => true
  | _ => false
def placeD (x : D) (ds : List D) : Option Nat := ds.findIdx? fun y => PyData.eqv y.dat x.dat
def mIndex : OpM := fun x xs h => match x, xs with
  | .ref n, [d] => match h[n]? with
    | some (.lst ds) => if (flatD d && ds.all flatD) = true then (placeD d ds).map fun (j : Nat) => (D.int (j : Int), h) else none
    | _ => none
  | _, _ => none
def gStr : D → AH → Bool := fun d _ => match d with
  | .str _ => true
  | _ => false
def gLst : D → AH → Bool := fun d h => match d with
  | .ref n => match h[n]? with
    | some (.lst _) => true
    | _ => false
  | _ => false
def dMt (g : D → AH → Bool) (o : OpM) (fo : SE) (fs : SA) : SE := fun σ h => (fo σ h).bind fun x h1 => if g x h1 = true then (fs σ h1).bind fun ds h2 => ofO (o x ds h2) else .bad
section
variable {X : Cx} {W : WX} {η η' η1 : Nat → Addr} {N N1 : Nat} {σd : Lc} {ah ah' ah1 : AH} {σ : L2.St} {H H' H1 : Hp} {Q : VK} {pos : Pos}
def Guard (X : Cx) (g : D → AH → Bool) (T : String) : Prop := ∀ {η : Nat → Addr} {ah : AH} {H : Hp} {d : D} {v : V}, RelH X.K X.mg η ah H → RelD η ah.length H d v → g d ah = true → tyV X.K T v H
theorem guard_str : Guard X gStr "str" := fun {η ah H d v} hh r e => by
  cases d with
  | str s => rw [show v = _ from r]; rfl
  | _ => cases e
theorem guard_lst : Guard X gLst "list" := fun {η ah H d v} hh r e => by
  cases d with
  | ref n =>
    obtain ⟨hn, rfl⟩ := r
    unfold gLst at e
    dsimp only at e
    split at e
    · rename_i ds q
      obtain ⟨vs, h1, _⟩ := hh.obj n _ q
      exact .inl ⟨rfl, vs, .of h1⟩
    · cases e
  | _ => cases e
section
variable {o e : Expr} {es : List Expr} {fo : SE} {fs : SA} {name : Str} {apos cpos : Pos} {T id : String} {g : D → AH → Bool} {om : OpM}
theorem de_mt (hg : Guard X g T) (pa : PlainAttrs T) (slot : Slot T name id) (hty : typeOf (.builtin id) = pure (.type "method_descriptor")) (hm : MtR X id (rDM X.K X.mg om)) (ho : DE X W o fo) (ha : DA X W (e :: es) fs)
    (hbase : attributeBase o name X.env (eval o X.env) = eval o X.env := by rfl)
    (hfew : ((backTo cpos (starEach (e :: es) X.env)).all (fun x => !x.1) && (backToKw cpos (keywordEach [] X.env)).all (fun x => x.1.isSome)
      && decide ((e :: es).length + ([] : List Keyword).length + (if ([] : List Keyword).isEmpty then 0 else 1) < 30)) = true := by rfl)
    (hline : (apos.endLine == cpos.line) = true := by rfl) (hs : starEach (e :: es) X.env = (false, eval e X.env) :: starEach es X.env := by rfl) (hplain : (backTo cpos (starEach es X.env)).any (·.1) = false := by rfl) :
    DE X W (.Call (.Attribute o name apos) (e :: es) [] cpos) (dMt g om fo fs) := PE.imp (pe_bm pa slot hty hm ho ha hbase hfew hline hs hplain) fun σ H Q h => by
  obtain ⟨η, σd, ah, sim, h⟩ := h
  refine tE_bind sim h fun dx ah1 η1 x H1 s1 e1 r1 h1 => ?_
  by_cases c : g dx ah1 = true
  · rw [if_pos c] at h1
    exact ⟨hg s1.hh r1 c, tA_bind s1 h1 fun ds ah2 η2 xs H2 s2 e2 r2 h2 => ⟨η2, ah2, dx, ds, s2.hh, r1.ext e2, r2, .of h2⟩⟩
  · rw [if_neg c] at h1; exact h1.elim
theorem de_mt0 (hg : Guard X g T) (pa : PlainAttrs T) (slot : Slot T name id) (hty : typeOf (.builtin id) = pure (.type "method_descriptor")) (hm : MtR X id (rDM X.K X.mg om)) (ho : DE X W o fo)
    (hbase : attributeBase o name X.env (eval o X.env) = eval o X.env := by rfl) (hline : (apos.endLine == cpos.line) = true := by rfl) : DE X W (.Call (.Attribute o name apos) [] [] cpos) (dMt g om fo dNil) := PE.imp (pe_bm0 pa slot hty hm ho hbase hline) fun σ H Q h => by
  obtain ⟨η, σd, ah, sim, h⟩ := h
  refine tE_bind sim h fun dx ah1 η1 x H1 s1 e1 r1 h1 => ?_
  by_cases c : g dx ah1 = true
  · rw [if_pos c] at h1
    exact ⟨hg s1.hh r1 c, ⟨η1, ah1, dx, [], s1.hh, r1, rfl, .of h1⟩⟩
  · rw [if_neg c] at h1; exact h1.elim
end
theorem rel_str {x : Str} : RelD η N H (.str x.cps.toList) (.str x) := by
  show V.str x = V.str (S x.cps.toList)
  rw [S_toList]
theorem rel_parts : ∀ ys : List Str, RelDs η N H (parts ys) (ys.map V.str)
  | [] => rfl
  | y :: ys => ⟨.str y, _, rfl, rel_str, rel_parts ys⟩
theorem mtS0 {id : String} {big : Nat} {f : Str → Str} (hr : MtR X id fun x xs H Q => ∃ a, x = .str a ∧ xs = [] ∧ a.length ≤ big ∧ Q (.str (f a)) H) : MtR X id (rDM X.K X.mg (mS0 big f)) := by
  intro pins s σ H x xs v us Q I rx rv ⟨η, ah, dx, ds, hh, r1, r2, a⟩
  unfold mS0 at a
  split at a
  · obtain ⟨c, a⟩ := a.ite
    exact hr pins s σ H x xs v us Q I rx rv ⟨_, r1, r2, by rw [S_length]; exact c, a.same hh rel_str⟩
  · exact a.none.elim
theorem mtS1 {id : String} {f : Str → Str → Str} (hr : MtR X id fun x xs H Q => ∃ a b, x = .str a ∧ xs = [.str b] ∧ a.length ≤ sizeLine ∧ Q (.str (f a b)) H) : MtR X id (rDM X.K X.mg (mS1 f)) := by
  intro pins s σ H x xs v us Q I rx rv ⟨η, ah, dx, ds, hh, r1, r2, a⟩
  unfold mS1 at a
  split at a
  · obtain ⟨c, a⟩ := a.ite
    obtain ⟨w, r', rfl, rw', rfl⟩ := r2
    exact hr pins s σ H x _ v us Q I rx rv ⟨_, _, r1, by rw [show w = _ from rw'], by rw [S_length]; exact c, a.same hh rel_str⟩
  · exact a.none.elim
theorem mtB1 {id : String} {f : Str → Str → Bool} (hr : MtR X id fun x xs H Q => ∃ a b, x = .str a ∧ xs = [.str b] ∧ Q (.bl (f a b)) H) : MtR X id (rDM X.K X.mg (mB1 f)) := by
  intro pins s σ H x xs v us Q I rx rv ⟨η, ah, dx, ds, hh, r1, r2, a⟩
  unfold mB1 at a
  split at a
  · obtain ⟨w, r', rfl, rw', rfl⟩ := r2
    exact hr pins s σ H x _ v us Q I rx rv ⟨_, _, r1, by rw [show w = _ from rw'], a.same hh rfl⟩
  · exact a.none.elim
theorem mt_splitD : MtR X "str.split" (rDM X.K X.mg mSplit) := by
  intro pins s σ H x xs v us Q I rx rv ⟨η, ah, dx, ds, hh, r1, r2, a⟩
  unfold mSplit at a
  split at a
  · rename_i l t
    obtain ⟨c, a⟩ := a.ite
    obtain ⟨w, r', rfl, rw', rfl⟩ := r2
    refine mt_split pins s σ H x _ v us Q I rx rv ⟨_, _, r1, by rw [show w = _ from rw'], ?_, by rw [S_length]; exact c.2, fun p hp => a.lst hh (rel_parts _) hp⟩
    rw [S_length]
    cases t with
    | nil => exact absurd rfl c.1
    | cons a b => rfl
  · exact a.none.elim
theorem mt_wordsD : MtR X "str.split" (rDM X.K X.mg mWords) := by
  intro pins s σ H x xs v us Q I rx rv ⟨η, ah, dx, ds, hh, r1, r2, a⟩
  unfold mWords at a
  split at a
  · obtain ⟨c, a⟩ := a.ite
    exact mt_words pins s σ H x xs v us Q I rx rv ⟨_, r1, r2, by rw [S_length]; exact c, fun p hp => a.lst hh (rel_parts _) hp⟩
  · exact a.none.elim
theorem strsOf_rel : ∀ {ds : List D} {vs : List V} {ys : List Str}, RelDs η N H ds vs → strsOf ds = some ys → vs = ys.map V.str
  | [], _, _, r, e => by cases e; exact r
  | d :: ds, _, ys, r, e => by
    obtain ⟨v, r', rfl, r1, r2⟩ := r
    cases d with
    | str b =>
      have e' : (strsOf ds).map (S b :: ·) = some ys := e
      obtain ⟨bs', e1, e2⟩ := Option.map_eq_some_iff.mp e'
      subst e2
      rw [show v = _ from r1, strsOf_rel r2 e1]
      rfl
    | _ => cases e
theorem AnsP.bind {K : PySem.W.Frag} {mg : Str → Option Value} {α : Type} {o : Option α} {f : α → Option (D × AH)} (h : AnsP K mg η N H (o.bind f) Q) : ∃ a, o = some a ∧ AnsP K mg η N H (f a) Q := by
  cases o with
  | none => exact h.none.elim
  | some a => exact ⟨a, rfl, h⟩
theorem mt_joinD : MtR X "str.join" (rDM X.K X.mg mJoin) := by
  intro pins s σ H x xs v us Q I rx rv ⟨η, ah, dx, ds, hh, r1, r2, a⟩
  unfold mJoin at a
  split at a
  · obtain ⟨w, r', rfl, rw', rfl⟩ := r2
    obtain ⟨ds, e1, a⟩ := a.bind
    obtain ⟨ys, e2, a⟩ := a.bind
    obtain ⟨c, a⟩ := a.ite
    obtain ⟨p, vs, rfl, q1, q2⟩ := seq_of hh rw' e1
    have := strsOf_rel q1 e2
    subst this
    exact mt_join pins s σ H x _ v us Q I rx rv ⟨_, p, ys, r1, rfl, q2, by rw [S_length]; exact c, a.same hh rel_str⟩
  · exact a.none.elim
theorem mt_sindexD : MtR X "str.index" (rDM X.K X.mg mSIndex) := by
  intro pins s σ H x xs v us Q I rx rv ⟨η, ah, dx, ds, hh, r1, r2, a⟩
  unfold mSIndex at a
  split at a
  · obtain ⟨w, r', rfl, rw', rfl⟩ := r2
    split at a
    · rename_i i rest e
      refine mt_sindex pins s σ H x _ v us Q I rx rv ⟨_, _, i, rest, r1, by rw [show w = _ from rw'], by rw [S_length]; exact e, a.same hh rfl⟩
    · exact a.none.elim
  · exact a.none.elim
theorem AnsP.set {K : PySem.W.Frag} {mg : Str → Option Value} {n : Nat} {ds ds' : List D} {vs : List V} (h : AnsP K mg η ah.length H (some (.non, ah.set n (.lst ds'))) Q) (hh : RelH K mg η ah H) (e : ah[n]? = some (.lst ds)) (r : RelDs η ah.length H ds' vs) : Q .non (upd H (η n) (.lst vs)) := by
  obtain ⟨d, h', e', q⟩ := h
  cases e'
  obtain ⟨k1, k2⟩ := relH_lst hh e r
  exact q η .non _ k2 k1 rfl
theorem mt_appendD : MtR X "list.append" (rDM X.K X.mg mAppend) := by
  intro pins s σ H x xs v us Q I rx rv ⟨η, ah, dx, ds, hh, r1, r2, a⟩
  unfold mAppend at a
  split at a
  · rename_i n d
    obtain ⟨w, r', rfl, rw', rfl⟩ := r2
    obtain ⟨hn, rfl⟩ := r1
    split at a
    · rename_i ds e
      obtain ⟨c, a⟩ := a.ite
      obtain ⟨vs, h1, h2⟩ := hh.obj n _ e
      exact mt_append pins s σ H _ _ v us Q I rx rv ⟨_, vs, w, rfl, rfl, h1, by rw [h2.length]; exact c, a.set hh e (RelDs.append h2 (show RelDs η ah.length H [d] [w] from ⟨w, [], rfl, rw', rfl⟩))⟩
    · exact a.none.elim
  · exact a.none.elim
theorem flat_rel {d : D} {v : V} (r : RelD η N H d v) (f : flatD d = true) : flatV v = true := by
  cases d with
  | non => rw [show v = _ from r]; rfl
  | bl b => rw [show v = _ from r]; rfl
  | int b => rw [show v = _ from r]; rfl
  | str b => rw [show v = _ from r]; rfl
  | _ => cases f
theorem eqv_rel {d e : D} {v w : V} (r : RelD η N H d v) (q : RelD η N H e w) (f : flatD d = true) (g : flatD e = true) : eqV v w = PyData.eqv d.dat e.dat := by
  cases d with
  | non =>
    rw [show v = _ from r]
    cases e with
    | non => rw [show w = _ from q]; simp [eqV, D.dat, PyData.eqv]
    | bl b => rw [show w = _ from q]; simp [eqV, D.dat, PyData.eqv]
    | int b => rw [show w = _ from q]; simp [eqV, D.dat, PyData.eqv]
    | str b => rw [show w = _ from q]; simp [eqV, D.dat, PyData.eqv]
    | _ => cases g
  | bl a =>
    rw [show v = _ from r]
    cases e with
    | non => rw [show w = _ from q]; simp [eqV, D.dat, PyData.eqv]
    | bl b => rw [show w = _ from q]; simp [eqV, D.dat, PyData.eqv]
    | int b => rw [show w = _ from q]; simp [eqV, D.dat, PyData.eqv]
    | str b => rw [show w = _ from q]; simp [eqV, D.dat, PyData.eqv]
    | _ => cases g
  | int a =>
    rw [show v = _ from r]
    cases e with
    | non => rw [show w = _ from q]; simp [eqV, D.dat, PyData.eqv]
    | bl b => rw [show w = _ from q]; simp [eqV, D.dat, PyData.eqv]
    | int b => rw [show w = _ from q]; simp [eqV, D.dat, PyData.eqv]
    | str b => rw [show w = _ from q]; simp [eqV, D.dat, PyData.eqv]
    | _ => cases g
  | str a =>
    rw [show v = _ from r]
    cases e with
    | non => rw [show w = _ from q]; simp [eqV, D.dat, PyData.eqv]
    | bl b => rw [show w = _ from q]; simp [eqV, D.dat, PyData.eqv]
    | int b => rw [show w = _ from q]; simp [eqV, D.dat, PyData.eqv]
    | str b => rw [show w = _ from q]; simp [eqV, D.dat, PyData.eqv]
    | _ => cases g
  | _ => cases f
theorem mt_indexD' : MtR X "list.index" (rDM X.K X.mg mIndex) := by
  intro pins s σ H x xs v us Q I rx rv ⟨η, ah, dx, ds, hh, r1, r2, a⟩
  unfold mIndex at a
  split at a
  · rename_i n d
    obtain ⟨w, r', rfl, rw', rfl⟩ := r2
    obtain ⟨hn, rfl⟩ := r1
    split at a
    · rename_i ds e
      obtain ⟨c, a⟩ := a.ite
      rw [Bool.and_eq_true] at c
      obtain ⟨j, hj, a⟩ := a.map
      obtain ⟨vs, h1, h2⟩ := hh.obj n _ e
      unfold placeD at hj
      obtain ⟨hjl, hj1, hj2⟩ := List.findIdx?_eq_some_iff_getElem.mp hj
      have fl : ∀ i z, ds[i]? = some z → flatD z = true := fun i z hz => List.all_eq_true.mp c.2 z (List.mem_of_getElem? hz)
      obtain ⟨z, hz, rz⟩ := h2.get (List.getElem?_eq_getElem hjl)
      refine mt_index pins s σ H _ _ v us Q I rx rv ⟨_, vs, w, j, z, rfl, rfl, .of h1, flat_rel rw' c.1, ?_, hz, ?_, fun m z' hm hz' => ?_, a.same hh rfl⟩
      · rw [List.all_eq_true]
        intro z hz
        obtain ⟨i, hi, rfl⟩ := List.mem_iff_getElem.mp hz
        obtain ⟨v', hv', rv'⟩ := h2.get (List.getElem?_eq_getElem (show i < ds.length by rw [← h2.length]; exact hi))
        rw [List.getElem?_eq_getElem hi] at hv'
        cases hv'
        exact flat_rel rv' (fl i _ (List.getElem?_eq_getElem _))
      · rw [eqv_rel rz rw' (fl j _ (List.getElem?_eq_getElem hjl)) c.1]
        exact hj1
      · obtain ⟨v', hv', rv'⟩ := h2.get (List.getElem?_eq_getElem (show m < ds.length by omega))
        rw [hz'] at hv'
        cases hv'
        rw [eqv_rel rv' rw' (fl m _ (List.getElem?_eq_getElem _)) c.1]
        have := hj2 m hm
        simpa using this
    · exact a.none.elim
  · exact a.none.elim

/-! ## isinstance of a built-in class -/
def tyN (d : D) (h : AH) : Option String := match d with
  | .non => some "NoneType"
  | .bl _ => some "bool"
  | .int _ => some "int"
  | .str _ => some "str"
  | .tup _ => some "tuple"
  | .ref n => match h[n]? with
    | some (.lst _) => some "list"
    | some (.dct _) => some "dict"
    | some (.dcT _) => some "dict"
    | _ => none
def dIsi (T : String) (fa : SE) : SE := fun σ h => (fa σ h).bind fun d h1 => match tyN d h1 with
  | some t => match kitB t T with
    | some b => .ok (.bl b) h1
    | none => .bad
  | none => .bad
theorem tyN_rel {d : D} {v : V} {t : String} (hh : RelH X.K X.mg η ah H) (r : RelD η ah.length H d v) (e : tyN d ah = some t) : TyX X.K H v (.type t) := by
  by_cases hd : ∃ ds, d = .tup ds
  · obtain ⟨ds, rfl⟩ := hd
    cases e
    obtain ⟨a, vs, rfl, h1, _⟩ := r
    cases q : nz ds with
    | true => obtain ⟨o, _, h⟩ := h1.1 q; exact .fTuple h
    | false => exact .base (.tup (h1.2 q))
  refine .base ?_
  cases d with
  | non => cases e; rw [show v = _ from r]; exact .non
  | bl b => cases e; rw [show v = _ from r]; exact .bl b
  | int b => cases e; rw [show v = _ from r]; exact .int b
  | str b => cases e; rw [show v = _ from r]; exact .str _
  | tup ds =>
    exact absurd ⟨_, rfl⟩ hd
  | ref n =>
    obtain ⟨hn, rfl⟩ := r
    unfold tyN at e
    dsimp only at e
    split at e
    · rename_i ds q
      cases e
      obtain ⟨vs, h1, _⟩ := hh.obj n _ q
      exact .lst h1
    · rename_i ds q
      cases e
      obtain ⟨ks, h1, _⟩ := hh.obj n _ q
      exact .dK h1
    · rename_i ds q
      cases e
      obtain ⟨ks, h1, _⟩ := hh.obj n _ q
      exact .dT h1
    · cases e
theorem de_isi {a : Expr} {fa : SE} {t : Str} {T : String} {p tp pos : Pos} (ha : DE X W a fa) (hg : Gl X "isinstance") (hm : X.mg "isinstance" = none) (hgt : Gl X t) (hmt : X.mg t = none) (hvt : bootBuiltins t = some (.type T)) (hv : bootBuiltins "isinstance" = some (.builtin "isinstance") := by decide +kernel)
    (hn : t ≠ "__name__" := by decide) (hdb : (t == ("__debug__" : Str)) = false := by decide)
    (he : starEach [a, .Name t tp] X.env = (false, eval a X.env) :: starEach [.Name t tp] X.env := by rfl) (hpl : (backTo pos (starEach [.Name t tp] X.env)).any (·.1) = false := by rfl) (hs2 : starEach [.Name t tp] X.env = (false, eval (.Name t tp) X.env) :: starEach [] X.env := by rfl) :
    DE X W (.Call (.Name "isinstance" p) [a, .Name t tp] [] pos) (dIsi T fa) := PE.imp (pe_callB call_isi hg hm hv (pa_cons ha (pa_cons (pe_bltn hgt hmt hvt (v := .ty T) rfl hn hdb) pa_nil hs2) he) (by decide) (by decide) he hpl) fun σ H Q h => by
  obtain ⟨η, σd, ah, sim, h⟩ := h
  refine tE_bind sim h fun d ah1 η1 v H1 s1 e1 r1 h1 => ?_
  cases q : tyN d ah1 with
  | none => rw [q] at h1; exact h1.elim
  | some tn =>
    rw [q] at h1
    dsimp only at h1
    cases q2 : kitB tn T with
    | none => rw [q2] at h1; exact h1.elim
    | some b =>
      rw [q2] at h1
      exact ⟨v, .ty T, .type tn, .type T, b, rfl, .ty T, tyN_rel s1.hh r1 q, kit_ty q2, h1 η1 _ H1 Ext.refl s1.hh rfl⟩

/-! ## a, b = e1, e2 -/
def sPar (i j : Nat) (fa fb : SE) : SS := fun σ h => (fa σ h).bindS σ fun x h1 => (fb σ h1).bindS σ fun y h2 => .nx ((σ.set i (some x)).set j (some y)) h2
theorem ds_par (i j : Nat) {x y : Str} {a b : Expr} {fa fb : SE} {px py pt pos : Pos} {kt k2 pt2} (hc : X.calm = true) (hN : X.N.Nodup) (ha : DE X W a fa) (hb : DE X W b fb) (hi : X.N[i]? = some x := by rfl) (hj : X.N[j]? = some y := by rfl) (hij : i ≠ j := by decide)
    (hx : X.env.scope.names.lookup x = some .local := by rfl) (hy : X.env.scope.names.lookup y = some .local := by rfl)
    (hw : swappedStores [.Tuple [.Name x px, .Name y py] kt pt] (.Tuple [a, b] k2 pt2) X.env = pure (some [x, y]) := by rfl)
    (hs : swapsWithSole [.Tuple [.Name x px, .Name y py] kt pt] (.Tuple [a, b] k2 pt2) pos.line X.env = pure false := by rfl)
    (s1 : starEach [a, b] X.env = (false, eval a X.env) :: starEach [b] X.env := by rfl) (s2 : starEach [b] X.env = (false, eval b X.env) :: starEach [] X.env := by rfl) :
    DS X W (.Assign [.Tuple [.Name x px, .Name y py] kt pt] (.Tuple [a, b] k2 pt2) pos) (sPar i j fa fb) := PS.imp (ps_par hc hN hi hj hij hx hy (pa_cons ha (pa_cons hb pa_nil s2) s1) hw hs) fun D σ H h => by
  obtain ⟨η, σd, ah, sim, h⟩ := h
  refine tE_bindS sim h fun dx ah1 η1 v H1 s1 e1 r1 h1 => tE_bindS s1 h1 fun dy ah2 η2 w H2 s2 e2 r2 h2 => ?_
  exact ⟨v, w, rfl, h2 η2 _ H2 Ext.refl ((s2.set (r1.ext e2)).set r2)⟩
/-- target = e, any target of names -/
def sAsg (f : SE) (g : GF) : SS := fun σ h => (f σ h).bindS σ fun d h1 => match g d σ h1 with
  | some σ' => .nx σ' h1
  | none => .bad
theorem ds_asg {tg e : Expr} {f : SE} {g : GF} {sl : List Nat} {pos : Pos} (he : DE X W e f) (hg : DG X sl tg g) (hs : swapsWithSole [tg] e pos.line X.env = pure false := by rfl) (hw : swappedStores [tg] e X.env = pure none := by rfl)
    (h1 : (assignEach [tg] X.env).map (·.2) = [assign tg X.env] := by rfl) : DS X W (.Assign [tg] e pos) (sAsg f g) := PS.imp (ps_asg he hg hs hw h1) fun D σ H h => by
  obtain ⟨η, σd, ah, sim, h⟩ := h
  refine tE_bindS sim h fun d ah1 η1 v H1 s1 e1 r1 h1 => ?_
  cases q : g d σd ah1 with
  | none => rw [q] at h1; exact h1.elim
  | some σ' =>
    rw [q] at h1
    exact ⟨η1, σd, ah1, d, σ', s1, r1, q, fun σ2 s2 _ => h1 η1 σ2 H1 Ext.refl s2⟩
end
end DL


set_option maxRecDepth 100000
namespace DL
open PySem PySem.Spec PyProof.Rows L2

/-! ## a def that keeps its promise, whatever the world -/
def OkF (K : PySem.W.Frag) (mg : Str → Option Value) (f : Addr) (k : Nat) (ps : List Str) (F : Fn) : Prop :=
  ∃ fd : FuncData, (∀ (s : Shared) (us : List Value), us.length = ps.length → BindsTo s fd ⟨us, []⟩ (ps.zip us)) ∧ PySem.W.keepIn K (.ref f) = true ∧ Binds K fd ps [] ∧
    ∀ (P : Program) (w : World) (base : Heap), FnOk P w K mg base (L2.CX P w) k f fd ps (spD K mg F)
section
variable {K : PySem.W.Frag} {mg : Str → Option Value} {x qual : Str} {params : Arguments} {body : List Stmt} {scope : Scope} {f : Addr} {Nm ps : List Str} {k : Nat} {t : SS}
theorem okF_mkN (h : ∃ fd, FunD K x qual params body scope [] [] f fd) (S : FnScope Nm ps scope)
    (hbd : ∀ (kV doc pm : Value) (an : Option Addr) (cdv ct : Value) (us : List Value), us.length = ps.length → bindArgs (PySem.W.fnOf x qual params body scope .none kV doc pm an cdv ct) ⟨us, []⟩ = pure (ps.zip us))
    (hb : ∀ (P : Program) (w : World) (base : Heap) (cdv : Value) (A : Around) (outer : List Env) (s : Shared) (H : Hp) (E : XK), Room k (cxOf (L2.CX P w) P w K mg base Nm qual scope f cdv A outer s H E).A →
      Takes (cxOf (L2.CX P w) P w K mg base Nm qual scope f cdv A outer s H E) (fun cls d _ H => E cls d H) →
      PassesOwn (model P w) (cxOf (L2.CX P w) P w K mg base Nm qual scope f cdv A outer s H E).A (cxOf (L2.CX P w) P w K mg base Nm qual scope f cdv A outer s H E).env (cxOf (L2.CX P w) P w K mg base Nm qual scope f cdv A outer s H E).xe →
      DSs (cxOf (L2.CX P w) P w K mg base Nm qual scope f cdv A outer s H E) (fun cls d _ H => E cls d H) body t) :
    OkF K mg f (k + 1) ps (runF Nm.length ps.length t) := by
  obtain ⟨fd, F⟩ := h
  exact ⟨fd, F.bindsA hbd, F.kp, F.bindsN hbd, fun P w base => fn_okD F S fun cdv A outer s H E hr => hb P w base cdv A outer s H E hr (takes_of rfl rfl rfl rfl) (passes_of rfl)⟩
theorem OkF.gc {F : Fn} (o : OkF K mg f k ps F) : OkF K mg f k ps (gcF F) := by
  obtain ⟨fd, h1, h2, h3, h4⟩ := o
  exact ⟨fd, h1, h2, h3, fun P w base => FnOk.gc (h4 P w base)⟩
theorem OkF.mono {F : Fn} {j : Nat} (o : OkF K mg f k ps F) (h : k ≤ j) : OkF K mg f j ps F := by
  obtain ⟨fd, h1, h2, h3, h4⟩ := o
  exact ⟨fd, h1, h2, h3, fun P w base => (h4 P w base).mono h⟩
theorem okF_mk (h : ∃ fd, FunD K x qual params body scope [] [] f fd) (S : FnScope Nm ps scope)
    (hbd : ∀ (kV doc pm : Value) (an : Option Addr) (cdv ct : Value) (us : List Value), us.length = ps.length → bindArgs (PySem.W.fnOf x qual params body scope .none kV doc pm an cdv ct) ⟨us, []⟩ = pure (ps.zip us))
    (hb : ∀ (P : Program) (w : World) (base : Heap) (cdv : Value) (A : Around) (outer : List Env) (s : Shared) (H : Hp) (E : XK), Room k (cxOf (L2.CX P w) P w K mg base Nm qual scope f cdv A outer s H E).A →
      Takes (cxOf (L2.CX P w) P w K mg base Nm qual scope f cdv A outer s H E) (fun cls d _ H => E cls d H) →
      PassesOwn (model P w) (cxOf (L2.CX P w) P w K mg base Nm qual scope f cdv A outer s H E).A (cxOf (L2.CX P w) P w K mg base Nm qual scope f cdv A outer s H E).env (cxOf (L2.CX P w) P w K mg base Nm qual scope f cdv A outer s H E).xe →
      DSs (cxOf (L2.CX P w) P w K mg base Nm qual scope f cdv A outer s H E) (fun cls d _ H => E cls d H) body t) :
    OkF K mg f (k + 1) ps (gcF (runF Nm.length ps.length t)) := (okF_mkN h S hbd hb).gc
theorem okF_bad (h : ∃ fd : FuncData, (∀ (kV doc pm : Value) (an : Option Addr) (cdv ct : Value), True) ∧ (∀ (s : Shared) (us : List Value), us.length = ps.length → BindsTo s fd ⟨us, []⟩ (ps.zip us)) ∧ PySem.W.keepIn K (.ref f) = true ∧ Binds K fd ps []) : OkF K mg f k ps (fun _ _ => .bad) := by
  obtain ⟨fd, _, h1, h2, h3⟩ := h
  refine ⟨fd, h1, h2, h3, fun P w base => ⟨fun vs H Q E q => ?_, fun A outer s H args us vs Q E _ _ _ _ q => ?_⟩⟩
  · obtain ⟨_, _, _, _, _, z⟩ := q; exact z.elim
  · obtain ⟨_, _, _, _, _, z⟩ := q; exact z.elim
theorem okF_badB (h : ∃ fd, FunD K x qual params body scope [] [] f fd)
    (hbd : ∀ (kV doc pm : Value) (an : Option Addr) (cdv ct : Value) (us : List Value), us.length = ps.length → bindArgs (PySem.W.fnOf x qual params body scope .none kV doc pm an cdv ct) ⟨us, []⟩ = pure (ps.zip us)) : OkF K mg f k ps (fun _ _ => .bad) := by
  obtain ⟨fd, F⟩ := h
  exact okF_bad ⟨fd, fun _ _ _ _ _ _ => trivial, F.bindsA hbd, F.kp, F.bindsN hbd⟩
end
section
variable {X : Cx} {W : WX} {f : Addr} {k j : Nat} {ps : List Str} {F : Fn} {x : Str} {p pos : Pos} {e : Expr} {es : List Expr} {fs : SA}
theorem de_callF (tk : Takes X W) (o : OkF X.K X.mg f k ps F) (hr : Room j X.A) (hk : k ≤ j) (hg : Gl X x) (hm : X.mg x = some (.ref f))
    (ha : DA X W (e :: es) fs) (hdb : (x == ("__debug__" : Str)) = false := by decide) (he : starEach (e :: es) X.env = (false, eval e X.env) :: starEach es X.env := by rfl) (hpl : (backTo pos (starEach es X.env)).any (·.1) = false := by rfl) :
    DE X W (.Call (.Name x p) (e :: es) [] pos) (dCall F fs) := by
  obtain ⟨fd, _, h2, h3, h4⟩ := o
  exact de_call tk (h4 _ _ _) hr hk hg hm h2 h3 ha hdb he hpl
end
/-! ## the end of a law -/
theorem walk_end {l : PySem.W.OpenLaw} {n k : Nat} {q : Program} {loose : List Str} {XP : (Str → Option Value) → Heap → Prop} {YP : World → Heap → Prop} {d : DefRec} {CX : World → CXT} {x : Str}
    (hn : l.most = some n) (hn2 : n ≤ sizeLine) (hdf : d.params.defaults = []) (hr : Room k callerA)
    (F : ∀ (w : World) (mg : Str → Option Value) (fa : Addr) (h : Heap), YP w h → h.Ns mainGlobals mg → mg d.name = some (.ref fa) →
      ∃ (K : PySem.W.Frag) (fd : FuncData) (sp : Sp), K.In h ∧ (∀ (s : Shared) (u : Value), BindsTo s fd ⟨[u], []⟩ [(x, u)]) ∧
        (∀ (H : Hp) (a : Addr) (ns : List Int), ns.length ≤ n → Only H → SqL K H a (ns.map V.int) → sp [.ref a] H (fun v _ => v = .bl true) fun _ _ _ => False) ∧
        ∀ base : Heap, K.In base → base.Ns mainGlobals mg → FnOk l.prog w K mg base (CX w) k fa fd [x] sp)
    (hCX : ∀ (w : World) (H : Hp) (s : Shared) (e : Value) (s' : Shared), CX w [] H s (fun _ _ _ => False) e s' → False) :
    PySem.W.WalkO q loose XP YP l.row.toRowW d [] (fun f vs => PySem.call f vs) := by
  refine Att.attach_call hn hdf fun w s₀ s₁ mg mb fa o pm cd doc a vs ns G Y ho hd hcd hmg hobj hints hlen hg => ?_
  obtain ⟨K, fd, sp, KX, hb, hsp, hF⟩ := F w mg fa _ Y G.T.g hmg
  exact law_call KX G.T.g G.T.b G.T.builtins G.T.nolimit hg hobj hints (Nat.le_trans hlen hn2) hr hF hb (fun H hO hS => hsp H a ns hlen hO hS) fun H e s' => hCX w H s₁ e s'
theorem cx_none {P : Program} {w : World} (H : Hp) (s : Shared) (e : Value) (s' : Shared) (h : L2.CX P w [] H s (fun _ _ _ => False) e s') : False := by
  obtain ⟨_, _, _, _, _, _, _, _, _, _, _, _, z⟩ := h
  exact z.elim
theorem walk_law {l : PySem.W.OpenLaw} {k : Nat} {q : Program} {loose : List Str} {XP : (Str → Option Value) → Heap → Prop} {d : DefRec} {x : Str} {F : Fn} {m : Nat} {fa : List He.Fa} {fn : List He.DefD}
    (hn : l.most = some 63) (hdf : d.params.defaults = []) (hr : Room k callerA) (hname : d.name = ("law" : Str))
    (ok : ∀ {K : PySem.W.Frag} {mg : Str → Option Value} {h : Heap}, He.SaysD fa fn K → K.In h → h.Ns mainGlobals mg → OkF K mg (He.ga K "law") k [x] F ∧ mg ("law" : Str) = some (.ref (He.ga K "law")))
    (hlaw : ∀ ns : List Int, ns.length ≤ 63 → ∃ h', F [.ref 0] [.scr (ns.map D.int)] = .ok (.bl true) h') :
    PySem.W.WalkO q loose XP (He.hookD m fa fn).says l.row.toRowW d [] (fun f vs => PySem.call f vs) := by
  refine walk_end (n := 63) (k := k) (x := x) (CX := fun w => L2.CX l.prog w) hn (by decide) hdf hr ?_ fun w H s e s' h => cx_none H s e s' h
  intro w mg fad h Y G hmg
  obtain ⟨K, KX, c⟩ := Y
  obtain ⟨⟨fd, h1, h2, h3, h4⟩, h5⟩ := ok c KX G
  rw [hname, h5] at hmg
  cases hmg
  refine ⟨K, fd, spD K mg F, KX, fun s u => h1 s [u] rfl, fun H a ns hl hO hS => ?_, fun base _ _ => h4 l.prog w base⟩
  obtain ⟨h', e⟩ := hlaw ns hl
  exact law_sp hO hS e
/-- constants -/
def lits : List D → SA
  | [] => dNil
  | d :: ds => dCons (dC d) (lits ds)
end DL


set_option maxRecDepth 100000
namespace HT
open PySem PySem.Spec PyProof.Rows PySem.W
section
variable {prog : Program} {w : World} {A : Around} {E : Value → Shared → Prop} {s : Shared}
theorem adjust_rev (n : Nat) : Builtin.Slice.sliceAdjust none none (-1) (n : Int) = ((n : Int) - 1, -1) := rfl
theorem places_rev (n : Nat) : Builtin.Slice.slicePlaces ((n : Int) - 1) (-1) (-1) = n := by
  unfold Builtin.Slice.slicePlaces
  rw [if_neg (by decide)]
  by_cases h : n = 0
  · subst h
    rfl
  · rw [if_pos (by omega), show (- -1 : Int) = 1 by decide, Int.ediv_one]
    omega
theorem sliceApplied_rev {sl : Addr} {vl vu vs : Value} {n : Nat} {Q : Int × Int × Nat → Shared → Prop} (hs : s.heap.IsSliceOf sl vl vu vs) (pl : IsPart vl none) (pu : IsPart vu none) (ps : IsPart vs (some (-1)))
    (h : Q ((n : Int) - 1, -1, n) s) : wpAny (model prog w) A (Builtin.Slice.sliceApplied (.ref sl) (pure (n : Int))) Q E s := by
  obtain ⟨os, hos, hcs, hds⟩ := id hs
  unfold Builtin.Slice.sliceApplied Builtin.Slice.sliceFields
  refine wpAny_bind (wpAny_bind (wpAny_field hos hds (x := vl) rfl (wpAny_bind (wpAny_field hos hds (x := vu) rfl (wpAny_bind (wpAny_field hos hds (x := vs) rfl (wpAny_pure ?_)))))))
  refine wpAny_bind (slicePart_ ps ?_)
  show wpAny _ _ (if ((-1 : Int) == 0) = true then _ else _) _ _ s
  rw [if_neg (by decide)]
  refine wpAny_bind (slicePart_ pl (wpAny_bind (slicePart_ pu (wpAny_bind (wpAny_pure ?_)))))
  show wpAny _ _ (match Builtin.Slice.sliceAdjust none none (-1) (n : Int) with | (lo, hi) => pure (lo, (-1 : Int), Builtin.Slice.slicePlaces lo hi (-1))) _ _ s
  rw [adjust_rev]
  show wpAny _ _ (pure (((n : Int) - 1), (-1 : Int), Builtin.Slice.slicePlaces ((n : Int) - 1) (-1) (-1))) _ _ s
  rw [places_rev]
  exact wpAny_pure h
theorem fm_congr {α β : Type} {f g : α → Option β} : ∀ {l : List α}, (∀ x ∈ l, f x = g x) → l.filterMap f = l.filterMap g
  | [], _ => rfl
  | a :: l, h => by rw [List.filterMap_cons, List.filterMap_cons, h a (by simp), fm_congr fun x hx => h x (by simp [hx])]
theorem pick_rev (xs : Array Value) : ((List.range xs.size).filterMap fun (m : Nat) => xs[((xs.size : Int) - 1 + (m : Int) * (-1)).toNat]?).toArray = xs.toList.reverse.toArray := by
  congr 1
  have e : (List.range xs.size).filterMap (fun (m : Nat) => xs[((xs.size : Int) - 1 + (m : Int) * (-1)).toNat]?) = ((List.range xs.size).map fun k => xs.size - 1 - k).filterMap (xs[·]?) := by
    rw [List.filterMap_map]
    refine fm_congr fun m hm => ?_
    have := List.mem_range.mp hm
    show _ = xs[xs.size - 1 - m]?
    rw [show ((xs.size : Int) - 1 + (m : Int) * (-1)).toNat = xs.size - 1 - m by omega]
  rw [e, krv_range, List.filterMap_reverse, krv_all]
theorem getItem_tuple_rev {t sl : Addr} {items : Array Value} {vl vu vs : Value} {Q : Value → Shared → Prop} (ht : IsTup s.heap t items) (hs : s.heap.IsSliceOf sl vl vu vs) (pl : IsPart vl none) (pu : IsPart vu none) (ps : IsPart vs (some (-1)))
    (h : Q (.ref s.heap.objs.size) { s with heap := s.heap.push { cls := .type "tuple", data := .seq items.toList.reverse.toArray } })
    (hsz : items.size ≤ sizeLine) : wpAny (model prog w) A (getItem (.ref t) (.ref sl)) Q E s := by
  have htake : sizeOk (.seq items.toList.reverse.toArray) := by
    show items.toList.reverse.toArray.size ≤ sizeLine
    rw [List.size_toArray, List.length_reverse, Array.length_toList]
    exact hsz
  obtain ⟨os, hos, hcs, hds⟩ := id hs
  have hTs : s.TypeIs (.ref sl) "slice" := ⟨os, hos, hcs⟩
  unfold getItem
  try with_reducible refine wpAny_holding ?_
  first | refine wpAny_bind (wpAny_pure ?_) | skip
  refine wpAny_bind (wpAny_sequenceKey ht.typeIs (by decide) ?_)
  refine wpAny_bind (wpAny_callSpecial?_slot (name := Str.ofString "__getitem__") ht.typeIs PyProof.Rows.slot_tuple_getitem
    (wpAny_call_entry PyProof.Rows.slot_tuple_getitem ht.typeIs entry_tuple_getitem ?_ (args_tuple_getitem _ _)))
  show wpAny _ _ (Builtin.Tuple.tupleItemsOf (.ref t) >>= _) _ _ s
  refine wpAny_bind (tupleItemsOf_ ht ?_)
  refine wpAny_bind (wpAny_typeOf hTs ?_)
  rw [if_pos (by decide)]
  refine wpAny_bind (sliceApplied_rev hs pl pu ps ?_)
  have hno : ¬ ((((items.size : Int) - 1) == 0 && (-1 : Int) == 1 && items.size == items.size) = true) := by
    rw [show ((-1 : Int) == 1) = false by decide, Bool.and_false, Bool.false_and]
    exact Bool.false_ne_true
  show wpAny _ _ (if (((items.size : Int) - 1) == 0 && (-1 : Int) == 1 && items.size == items.size) = true then _ else _) _ _ s
  rw [if_neg hno, pick_rev]
  first
    | exact wpAny_bind (m := Builtin.Tuple.tupleExact _) (wpAny_newObj_type (wpAny_pure ⟨_, rfl, wpAny_pure h⟩) htake)
    | exact wpAny_bind (m := Builtin.Tuple.tupleExact _) (wpAny_newObj_type (wpAny_bind (wpAny_pure (wpAny_pure ⟨_, rfl, wpAny_pure h⟩))) htake)
    | exact wpAny_bind (wpAny_bind (m := Builtin.Tuple.tupleExact _) (wpAny_newObj_type (wpAny_pure (wpAny_pure ⟨_, rfl, wpAny_pure h⟩)) htake))
    | exact wpAny_bind (wpAny_bind (m := Builtin.Tuple.tupleExact _) (wpAny_newObj_type (wpAny_pure ⟨_, rfl, wpAny_pure h⟩) htake))
end
end HT
namespace DL
open PySem PySem.Spec PyProof.Rows L2
section
variable {X : Cx} {W : WX} {η η' η1 : Nat → Addr} {N N1 : Nat} {σd : Lc} {ah ah' ah1 : AH} {σ : L2.St} {H H' H1 : Hp} {Q : VK} {pos : Pos}
/-! ## x[::-1] of a list, of a tuple -/
def tRevA (K : PySem.W.Frag) (te : TE) : TE := fun σ H Q => te σ H fun x H1 => (∃ a xs, x = .ref a ∧ SqL K H1 a xs ∧ ∀ p, H1 p = none → Q (.ref p) (upd H1 p (.lst xs.reverse))) ∨
  ∃ a xs, x = .ref a ∧ SqT K H1 a xs ∧ NewT H1 xs.reverse Q
theorem pe_revA {e : Expr} {te : TE} {k : Nat} {p1 p2 p3 pos : Pos} (he : PE X e te) : PE X (.Subscript e (.Slice none none (some (.UnaryOp .USub (.Constant (.int 1) k p1) p2)) p3) pos) (tRevA X.K te) := by
  refine ⟨fun pins s σ H Q I h => ?_⟩
  refine Subscript_ (thn (he.run pins s σ H _ I h) fun v s1 ⟨x, H1, I1, r1, q1⟩ => ?_)
  have hst : PO X (some (.UnaryOp .USub (.Constant (.int 1) k p1) p2)) (tPart (tUn (rU fun i => .int (-i)) (tC (.int 1)))) := po_some (pe_un un_neg pe_int)
  refine wpAny_Slice (thn (po_none.run pins s1 σ H1 (fun o H2 => o = none ∧ H2 = H1) I1 ⟨rfl, rfl⟩) fun vl s2 ⟨l, H2, I2, pl, el, e2⟩ => ?_)
  subst el e2
  refine thn (po_none.run pins s2 σ H2 (fun o H3 => o = none ∧ H3 = H2) I2 ⟨rfl, rfl⟩) fun vu s3 ⟨u, H3, I3, pu, eu, e3⟩ => ?_
  subst eu e3
  refine thn (hst.run pins s3 σ H3 (fun o H4 => o = some (-1) ∧ H4 = H3) I3 ⟨1, rfl, -1, rfl, rfl, rfl⟩) fun vs s4 ⟨o, H4, I4, ps, eo, e4⟩ => ?_
  subst eo e4
  have I5 : Inv X pins σ H4 { s4 with heap := s4.heap.push { cls := .type "slice", data := .fields #[vl, vu, vs] } } := I4.kept (t' := s4.toks) fun b ob q => Heap.get?_push_of_some _ q
  rcases q1 with ⟨a, xs, ex, hx, q⟩ | ⟨a, xs, ex, hx, q⟩
  · subst ex
    cases r1
    obtain ⟨its, r, ht, hz⟩ := I5.list hx
    have hlen := r.length
    show wpAny (model X.prog X.w) X.A (subscriptTail e (.Slice none none (some (.UnaryOp .USub (.Constant (.int 1) k p1) p2)) p3) (.ref a) (.ref s4.heap.objs.size)) (EP X pins σ Q) X.xe { s4 with heap := s4.heap.push { cls := .type "slice", data := .fields #[vl, vu, vs] } }
    refine tail_any (ops := [.ref a, .ref s4.heap.objs.size]) ht.isList.typeIs (PySem.slot_list_getitem.lookup) ?_ (by with_unfolding_all rfl)
    refine wpAny_getItem_list_slice ht.isList (Heap.IsSliceOf.new _ vl vu vs) pl pu ps (by decide) ?_ (by rw [List.size_toArray]; omega)
    rw [PySem.W.krv_pick]
    refine ⟨.ref _, _, I5.laid (t' := s4.toks) (o := .lst xs.reverse) (fun b ob q => Heap.get?_push_of_some _ q) (Nat.le_refl _) ?_, rfl, q _ (I5.hok.fresh (Nat.le_refl _))⟩
    exact ⟨by rw [List.length_reverse]; exact hz, _, 0, r.reverse, Heap.get?_push_size _ rfl⟩
  · subst ex
    cases r1
    obtain ⟨its, r, ht, hz⟩ := I5.tuple hx
    have hlen := r.length
    show wpAny (model X.prog X.w) X.A (subscriptTail e (.Slice none none (some (.UnaryOp .USub (.Constant (.int 1) k p1) p2)) p3) (.ref a) (.ref s4.heap.objs.size)) (EP X pins σ Q) X.xe { s4 with heap := s4.heap.push { cls := .type "slice", data := .fields #[vl, vu, vs] } }
    refine tail_any (ops := [.ref a, .ref s4.heap.objs.size]) ht.typeIs (PyProof.Rows.slot_tuple_getitem.lookup) ?_ (by with_unfolding_all rfl)
    refine HT.getItem_tuple_rev ht (Heap.IsSliceOf.new _ vl vu vs) pl pu ps ?_ (by rw [List.size_toArray]; omega)
    exact newT_laid I5 (fun b ob q => Heap.get?_push_of_some _ q) (Nat.le_refl _) (Heap.get?_push_size _ rfl) rfl (IsTup.new _ _) (by rw [List.length_reverse]; exact hz) r.reverse q (t' := s4.toks)
/-- x[::-1] -/
def revD : Op1 := fun x h => match x with
  | .tup ds => some (.tup ds.reverse, h)
  | .ref n => match h[n]? with
    | some (.lst ds) => some (.ref h.length, h ++ [.lst ds.reverse])
    | some (.scr ds) => some (.ref h.length, h ++ [.lst ds.reverse])
    | _ => none
  | _ => none
theorem RelDs.append' : ∀ {ds es : List D} {vs ws : List V}, RelDs η N H ds vs → RelDs η N H es ws → RelDs η N H (ds ++ es) (vs ++ ws) := fun a b => RelDs.append a b
theorem RelDs.reverse : ∀ {ds : List D} {vs : List V}, RelDs η N H ds vs → RelDs η N H ds.reverse vs.reverse
  | [], _, h => by rw [show _ = [] from h]; rfl
  | d :: ds, _, h => by
    obtain ⟨v, r, rfl, h1, h2⟩ := h
    rw [List.reverse_cons, List.reverse_cons]
    exact RelDs.append (RelDs.reverse h2) ⟨v, [], rfl, h1, rfl⟩
theorem de_rev {e : Expr} {f : SE} {k : Nat} {p1 p2 p3 : Pos} (he : DE X W e f) : DE X W (.Subscript e (.Slice none none (some (.UnaryOp .USub (.Constant (.int 1) k p1) p2)) p3) pos) (dUn revD f) := PE.imp (pe_revA he) fun σ H Q h => by
  obtain ⟨η, σd, ah, sim, h⟩ := h
  refine tE_bind sim h fun dx ah1 η1 x H1 s1 e1 r1 h1 => ?_
  have a := AnsP.of h1
  unfold revD at a
  split at a
  · rename_i ds
    obtain ⟨p, vs, rfl, q1, q2⟩ := r1
    exact .inr ⟨p, vs, rfl, q1.sq, a.tup s1.hh (RelDs.reverse q2)⟩
  · rename_i n
    obtain ⟨hn, rfl⟩ := r1
    split at a
    · rename_i ds e
      obtain ⟨vs, q1, q2⟩ := s1.hh.obj n _ e
      exact .inl ⟨_, vs, rfl, .of q1, fun p hp => a.lst s1.hh (RelDs.reverse q2) hp⟩
    · rename_i ds e
      obtain ⟨vs, q1, q2⟩ := SqL_of_scr (s1.hh.obj n _ e)
      exact .inl ⟨_, vs, rfl, q1, fun p hp => a.lst s1.hh (RelDs.reverse q2) hp⟩
    · exact a.none.elim
  · exact a.none.elim
end
end DL


set_option maxRecDepth 100000
namespace DL
open PySem PySem.Spec PyProof.Rows L2

/-! ## raise X() -/
section
variable {X : Cx} {W : WX} {C : Addr} {bmB : List Value} {B newId initId : String} {x : Str} {p pos pos' : Pos}
theorem pmk_own0 (F : ExcBaseFacts B newId initId bmB) (q : PySem.W.excIn X.K C bmB newId = true) (gC : X.mg x = some (.ref C)) (kC : PySem.W.keepIn X.K (.ref C) = true) (r : Raises X (.ref C)) (hg : Gl X x)
    (hdb : (x == ("__debug__" : Str)) = false := by decide) : PMk X (.Call (.Name x p) [] [] pos) (fun _ H Q => Q (.ref C) none H) := by
  intro pins s σ H Q I h
  refine wpAny_Call_Name_kw (ld_glob I hg gC ?_ hdb)
  refine PySem.W.callWith_K0 I.kIn kC ?_
  show wpAny _ _ (call (.ref C) []) _ _ _
  obtain ⟨bm, N, nm, qn, bs, hdct, sn, sub, ab, col, dd, k0, k1, k2, k3, k5, mN, hC, hN, hni, T⟩ := exc_obj I.kIn q
  refine wpAny_call_exc_subT F T hC hN hni (fun h' e hm => ?_) (by show 0 ≤ sizeLine; exact Nat.zero_le _)
  exact mk_of I hm r h (I.hok.gone hm.new)
def sRse (x : Str) : SS := fun σ h => .exc x σ h
theorem ds_raise0 (hc : X.calm = true) (tk : Takes X W) (F : ExcBaseFacts B newId initId bmB) (q : PySem.W.excIn X.K C bmB newId = true) (gC : X.mg x = some (.ref C)) (kC : PySem.W.keepIn X.K (.ref C) = true) (r : Raises X (.ref C)) (hg : Gl X x)
    (hdb : (x == ("__debug__" : Str)) = false := by decide) : DS X W (.Raise (some (.Call (.Name x p) [] [] pos)) none pos') (sRse x) := PS.imp (ps_raise hc tk (pmk_own0 F q gC kC r hg hdb)) fun D σ H h => by
  obtain ⟨η, σd, ah, sim, h⟩ := h
  exact h η σ H C Ext.refl sim gC
end
/-! ## try .. except X -/
def sTry (m : List (Str × Bool)) (t u : SS) : SS := fun σ h => match t σ h with
  | .exc y σ' h' => match m.lookup y with
    | some true => u σ' h'
    | some false => .exc y σ' h'
    | none => .bad
  | r => r
section
variable {X : Cx} {W : WX} {x : Str} {c : Value} {body suite : List Stmt} {b₀ : Stmt} {np pos pos' : Pos} {m : List (Str × Bool)} {t u : SS}
theorem ds_try (hs : X.stack = X.env :: X.outer) (hf : X.env.frame = some X.env.locals) (hc : Names X x c) (tk : Takes X W)
    (hb : ∀ (W' : WX) (pn : List (Addr × Obj)) (xe : Value → Shared → Prop), Takes (X.tr pn xe) W' → PassesOwn (model X.prog X.w) X.A X.env xe → DSs (X.tr pn xe) W' body t)
    (hsu : ∀ (a : Addr) (oe : Obj) (pn : List (Addr × Obj)), DSs (X.suite a ((a, oe) :: pn)) W (b₀ :: suite) u)
    (hm : ∀ y b, m.lookup y = some b → ∀ C, X.mg y = some (.ref C) → PySem.W.exmOne X.K (.ref C) c = some b) :
    DS X W (.Try body [.ExceptHandler (some (.Name x np)) none (b₀ :: suite) pos'] [] [] pos) (sTry m t u) :=
  PS.imp (ps_try_only (tb := fun W' => tS X.K X.mg W' t) (ts := fun _ _ _ => tS X.K X.mg W u) hs hf hc tk (fun W' pn xe tk' hp => hb W' pn xe tk' hp) (fun a oe cls d pn _ _ => hsu a oe pn)) fun D σ H h => by
    obtain ⟨η, σd, ah, sim, h⟩ := h
    refine ⟨η, σd, ah, sim, ?_⟩
    unfold sTry at h
    cases q : t σd ah with
    | exc y σ' h' =>
      rw [q] at h
      dsimp only at h
      intro η' σ1 H' C e s1 hC
      cases ql : m.lookup y with
      | none => rw [ql] at h; exact h.elim
      | some b =>
        rw [ql] at h
        refine ⟨b, hm y b ql C hC, fun hb' a ha => ?_, fun hb' => ?_⟩
        · subst hb'
          exact ⟨η', σ', h', s1, RPS.base e h⟩
        · subst hb'
          exact h η' σ1 H' C e s1 hC
    | nx a b => rw [q] at h; exact h
    | rt a b => rw [q] at h; exact h
    | bk a b => rw [q] at h; exact h
    | ct a b => rw [q] at h; exact h
    | bad => rw [q] at h; exact h.elim
theorem lookup1 {y x : Str} {b : Bool} (h : ([(x, true)] : List (Str × Bool)).lookup y = some b) : y = x ∧ b = true := by
  rw [List.lookup_cons] at h
  split at h
  · rename_i e
    exact ⟨by simpa using e, by cases h; rfl⟩
  · simp at h
theorem hm1 {K : PySem.W.Frag} {mg : Str → Option Value} {x : Str} {A : Addr} (g : mg x = some (.ref A)) (e : PySem.W.exmOne K (.ref A) (.ref A) = some true) :
    ∀ y b, ([(x, true)] : List (Str × Bool)).lookup y = some b → ∀ C, mg y = some (.ref C) → PySem.W.exmOne K (.ref C) (.ref A) = some b := by
  intro y b hl C hC
  obtain ⟨rfl, rfl⟩ := lookup1 hl
  rw [g] at hC
  cases hC
  exact e
end
end DL


set_option maxRecDepth 100000
namespace DL
open PySem PySem.Spec PyProof.Rows L2

/-! ## dicts -/
def valD (kvs : List (D × D)) (k : D) : Option D := (kvs.find? fun p => sameK p.1 k).map (·.2)
def putD (kvs : List (D × D)) (k v : D) : List (D × D) := if (kvs.any fun p => sameK p.1 k) = true then kvs.map (fun p => if sameK p.1 k = true then (p.1, v) else p) else kvs ++ [(k, v)]
def dropD (kvs : List (D × D)) (k : D) : List (D × D) := kvs.filter fun p => !sameK p.1 k
/-- the table at d, and whether its keys are tuples -/
def dctOf (h : AH) : D → Option (Bool × List (D × D))
  | .ref n => match h[n]? with
    | some (.dct kvs) => some (false, kvs)
    | some (.dcT kvs) => some (true, kvs)
    | some (.lck kvs) => some (false, kvs)
    | some (.lcT kvs) => some (true, kvs)
    | _ => none
  | _ => none
/-- a key of the right kind -/
def keyAs : Bool → D → Bool
  | false, k => (dkey k).isSome
  | true, .tup ds => (dkeys ds).isSome && (!ds.isEmpty || !nzE)
  | true, _ => false
theorem keyAs_T {ds : List D} (h : keyAs true (.tup ds) = true) : (dkeys ds).isSome = true ∧ nz ds = false := by
  simp only [keyAs, Bool.and_eq_true, Bool.or_eq_true, Bool.not_eq_true'] at h
  refine ⟨h.1, ?_⟩
  cases ds with
  | nil =>
    unfold nz
    rw [decide_eq_false_iff_not]
    rintro ⟨h1, _⟩
    rcases h.2 with h2 | h2
    · cases h2
    · rw [h1 rfl] at h2; cases h2
  | cons d ds =>
    refine nz_cons_not ?_
    cases d with
    | tup l => simp [dkeys, dkey] at h
    | _ => rfl
theorem keyAs_key {ds : List D} {q : List Key} (e : dkeys ds = some q) (h : ds ≠ []) : keyAs true (.tup ds) = true := by
  cases ds with
  | nil => exact absurd rfl h
  | cons d ds => simp only [keyAs, e]; rfl
section
variable {K : PySem.W.Frag} {mg : Str → Option Value} {η : Nat → Addr} {N : Nat} {H : Hp} {ah : AH}
theorem dkey_rel {k : D} {q : Key} {y : V} (e : dkey k = some q) (r : RelD η N H k y) : y = kV q := by
  cases k with
  | int i => cases e; exact r
  | str s => cases e; exact r
  | _ => cases e
theorem relD_kV {k : D} {q : Key} (r : RelD η N H k (kV q)) : k = keyD q := by
  cases q with
  | inl i =>
    cases k with
    | int j => have : V.int i = V.int j := r; cases this; rfl
    | tup ds => obtain ⟨a, vs, e, _⟩ := r; cases e
    | ref n => cases r.2
    | non => have : V.int i = V.non := r; cases this
    | bl b => have : V.int i = V.bl b := r; cases this
    | str s => have : V.int i = V.str (S s) := r; cases this
  | inr x =>
    cases k with
    | str s => have : V.str x = V.str (S s) := r; cases this; rfl
    | tup ds => obtain ⟨a, vs, e, _⟩ := r; cases e
    | ref n => cases r.2
    | non => have : V.str x = V.non := r; cases this
    | bl b => have : V.str x = V.bl b := r; cases this
    | int s => have : V.str x = V.int s := r; cases this
theorem dkey_keyD (q : Key) : dkey (keyD q) = some q := by
  cases q with
  | inl i => rfl
  | inr x => show some (Sum.inr (S x.cps.toList)) = _; rw [S_toList]
theorem dkeys_keyD : ∀ q : List Key, dkeys (q.map keyD) = some q
  | [] => rfl
  | k :: q => by
    simp only [List.map_cons, dkeys, dkey_keyD, dkeys_keyD q]
theorem dkeys_rel : ∀ {ds : List D} {q : List Key} {vs : List V}, dkeys ds = some q → RelDs η N H ds vs → vs = q.map kV
  | [], _, _, e, r => by cases e; exact r
  | d :: ds, q, _, e, r => by
    obtain ⟨v, vs, rfl, r1, r2⟩ := r
    simp only [dkeys] at e
    split at e
    · rename_i k ks e1 e2
      cases e
      rw [dkey_rel e1 r1, dkeys_rel e2 r2]
      rfl
    · cases e
theorem dkeys_eq : ∀ {ds : List D} {q : List Key}, dkeys ds = some q → ds = q.map keyD
  | [], _, e => by cases e; rfl
  | d :: ds, q, e => by
    simp only [dkeys] at e
    split at e
    · rename_i k ks e1 e2
      cases e
      rw [dkeys_eq e2]
      cases d with
      | int i => cases e1; rfl
      | str s => cases e1; rfl
      | _ => cases e1
    · cases e
theorem sameK_key {p : Key} {k : D} {q : Key} (e : dkey k = some q) : sameK (keyD p) k = decide (p = q) := by
  cases k with
  | int i =>
    cases e
    cases p with
    | inl j => show decide (j = i) = _; by_cases h : j = i <;> simp [h]
    | inr x => simp [keyD, sameK]
  | str s =>
    cases e
    cases p with
    | inl j => simp [keyD, sameK]
    | inr x =>
      show decide (x.cps.toList = s) = _
      by_cases h : x.cps.toList = s
      · subst h; simp [S_toList]
      · rw [decide_eq_false h, decide_eq_false]
        intro z
        apply h
        have := Sum.inr.inj z
        rw [this]
  | _ => cases e
theorem sameK_keys {p : List Key} {ds : List D} {q : List Key} (e : dkeys ds = some q) : sameK (.tup (p.map keyD)) (.tup ds) = decide (p = q) := by
  simp only [sameK, e, dkeys_keyD, Option.some.injEq]
theorem relK_val {k : D} {q : Key} (e : dkey k = some q) : ∀ {kvs : List (D × D)} {ks : List (Key × V)}, RelK η N H kvs ks → match valD kvs k with
    | some d => ∃ v, valV ks q = some v ∧ RelD η N H d v
    | none => valV ks q = none
  | [], _, r => by rw [show _ = [] from r]; rfl
  | (k0, d0) :: kvs, _, r => by
    obtain ⟨q0, v0, ks, rfl, r1, r2, r3⟩ := r
    have ih := relK_val e r3
    have e0 := relD_kV r1
    subst e0
    have es := sameK_key (p := q0) e
    by_cases h : q0 = q
    · have : sameK (keyD q0) k = true := by rw [es]; simp [h]
      rw [show valD ((keyD q0, d0) :: kvs) k = some d0 by simp [valD, List.find?_cons, this], valV_pos h]
      exact ⟨v0, rfl, r2⟩
    · have : sameK (keyD q0) k = false := by rw [es]; simp [h]
      rw [show valD ((keyD q0, d0) :: kvs) k = valD kvs k by simp [valD, List.find?_cons, this], valV_neg h]
      exact ih
theorem relT_val {ds : List D} {q : List Key} (e : dkeys ds = some q) : ∀ {kvs : List (D × D)} {ks : List (List Key × V)}, RelT η N H kvs ks → match valD kvs (.tup ds) with
    | some d => ∃ v, valV ks q = some v ∧ RelD η N H d v
    | none => valV ks q = none
  | [], _, r => by rw [show _ = [] from r]; rfl
  | (k0, d0) :: kvs, _, r => by
    obtain ⟨q0, v0, ks, rfl, ⟨rfl, hz0⟩, r2, r3⟩ := r
    have ih := relT_val e r3
    have es := sameK_keys (p := q0) e
    by_cases h : q0 = q
    · have : sameK (.tup (q0.map keyD)) (.tup ds) = true := by rw [es]; simp [h]
      rw [show valD ((D.tup (q0.map keyD), d0) :: kvs) (.tup ds) = some d0 by simp [valD, List.find?_cons, this], valV_pos h]
      exact ⟨v0, rfl, r2⟩
    · have : sameK (.tup (q0.map keyD)) (.tup ds) = false := by rw [es]; simp [h]
      rw [show valD ((D.tup (q0.map keyD), d0) :: kvs) (.tup ds) = valD kvs (.tup ds) by simp [valD, List.find?_cons, this], valV_neg h]
      exact ih
/-- what the related dict holds at a related key -/
theorem dct_get {d k : D} {x y : V} {t : Bool} {kvs : List (D × D)} (hh : RelH K mg η ah H) (rx : RelD η ah.length H d x) (ry : RelD η ah.length H k y) (e : dctOf ah d = some (t, kvs)) (hk : keyAs t k = true) :
    ∃ a o, x = .ref a ∧ DGet H a y o ∧ match valD kvs k with
      | some d => ∃ v, o = some v ∧ RelD η ah.length H d v
      | none => o = none := by
  cases d with
  | ref n =>
    obtain ⟨hn, rfl⟩ := rx
    simp only [dctOf] at e
    have keyK : t = false → ∃ q, dkey k = some q ∧ y = kV q := fun ht => by
      subst ht
      obtain ⟨q, hq⟩ := Option.isSome_iff_exists.mp hk
      exact ⟨q, hq, dkey_rel hq ry⟩
    have keyT : t = true → ∃ ds q b, k = .tup ds ∧ dkeys ds = some q ∧ y = .ref b ∧ H b = some (.tup (q.map kV)) := fun ht => by
      subst ht
      cases k with
      | tup ds =>
        obtain ⟨hk1, hk2⟩ := keyAs_T hk
        obtain ⟨q, hq⟩ := Option.isSome_iff_exists.mp hk1
        obtain ⟨b, vs, rfl, h1, h2⟩ := ry
        have h1 := h1.2 hk2
        rw [dkeys_rel hq h2] at h1
        exact ⟨ds, q, b, rfl, hq, rfl, h1⟩
      | _ => cases hk
    split at e
    · rename_i kvs' q
      cases e
      obtain ⟨ks, h1, h2⟩ := hh.obj n _ q
      obtain ⟨q, hq, rfl⟩ := keyK rfl
      refine ⟨_, valV ks q, rfl, .inl ⟨ks, q, .inl h1, rfl, rfl⟩, ?_⟩
      exact relK_val hq h2
    · rename_i kvs' q
      cases e
      obtain ⟨ks, h1, h2⟩ := hh.obj n _ q
      obtain ⟨ds, q, b, rfl, hq, rfl, hb⟩ := keyT rfl
      exact ⟨_, valV ks q, rfl, .inr ⟨ks, q, b, .inl h1, rfl, hb, rfl⟩, relT_val hq h2⟩
    · rename_i kvs' q
      cases e
      obtain ⟨ob, ks, h1, h2⟩ := hh.obj n _ q
      obtain ⟨q, hq, rfl⟩ := keyK rfl
      exact ⟨_, valV ks q, rfl, .inl ⟨ks, q, .inr ⟨ob, h1⟩, rfl, rfl⟩, relK_val hq h2⟩
    · rename_i kvs' q
      cases e
      obtain ⟨ob, ks, h1, h2⟩ := hh.obj n _ q
      obtain ⟨ds, q, b, rfl, hq, rfl, hb⟩ := keyT rfl
      exact ⟨_, valV ks q, rfl, .inr ⟨ks, q, b, .inr ⟨ob, h1⟩, rfl, hb, rfl⟩, relT_val hq h2⟩
    · cases e
  | _ => cases e
end
section
variable {X : Cx} {W : WX} {η η' η1 : Nat → Addr} {N N1 : Nat} {σd : Lc} {ah ah' ah1 : AH} {σ : L2.St} {H H' H1 : Hp} {Q : VK} {pos : Pos}
/-! ### d[k], k in d -/
def ixE : Op2 := fun x y h => match dctOf h x with
  | some (t, kvs) => if keyAs t y = true then (valD kvs y).map fun d => (d, h) else none
  | none => ixD x y h
theorem ixr_E (hu : X.A.units + 64 < cLine) : IxR X (rD2 X.K X.mg ixE) := by
  intro value slice pins s σ H x y v u Q I rx ry ⟨η, ah, dx, dy, hh, r1, r2, a⟩ hs
  unfold ixE at a
  cases q : dctOf ah dx with
  | none =>
    rw [q] at a
    exact ixr_any value slice pins s σ H x y v u Q I rx ry ⟨η, ah, dx, dy, hh, r1, r2, a⟩ hs
  | some p =>
    obtain ⟨t, kvs⟩ := p
    rw [q] at a
    obtain ⟨c, a⟩ := a.ite
    obtain ⟨d, e, a⟩ := a.map
    obtain ⟨b, o, rfl, g, m⟩ := dct_get hh r1 r2 q c
    rw [e] at m
    obtain ⟨w, rfl, rw'⟩ := m
    cases rx
    exact tail_any (ops := [.ref b, u]) (dict_typeIs I g) PySem.F.slot_dict_getitem.lookup (d_getItem (show X.A.units + 1 < cLine by omega) I g ry fun w' s3 I3 rw2 => ⟨w, H, I3, rw2, a.same hh rw'⟩) hs
theorem de_ixE {a b : Expr} {fa fb : SE} (hu : X.A.units + 64 < cLine) (ha : DE X W a fa) (hb : DE X W b fb) (hs : PlainIx b := by exact fun _ _ => rfl) : DE X W (.Subscript a b pos) (dBin ixE fa fb) := PE.imp (pe_ix (ixr_E hu) ha hb hs) fun σ H Q h => by
  obtain ⟨η, σd, ah, sim, h⟩ := h
  exact tE_bind sim h fun dx ah1 η1 x H1 s1 e1 r1 h1 => tE_bind s1 h1 fun dy ah2 η2 y H2 s2 e2 r2 h2 => ⟨η2, ah2, dx, dy, s2.hh, r1.ext e2, r2, .of h2⟩
def inE (neg : Bool) : Op2 := fun x y h => match dctOf h y with
  | some (t, kvs) => if keyAs t x = true then some (.bl (xor neg (valD kvs x).isSome), h) else none
  | none => inD neg x y h
theorem val_isSome {o : Option V} {m : Option D} {P : D → V → Prop} (h : match m with | some d => ∃ v, o = some v ∧ P d v | none => o = none) : m.isSome = o.isSome := by
  cases m with
  | none => rw [show o = none from h]; rfl
  | some d => obtain ⟨v, rfl, _⟩ := h; rfl
theorem opr_inE (hu : X.A.units + 64 < cLine) : OpR X (compareOp .In) (rD2 X.K X.mg (inE false)) := by
  intro pins s σ H x y v u Q I rx ry ⟨η, ah, dx, dy, hh, r1, r2, a⟩
  unfold inE at a
  cases q : dctOf ah dy with
  | none =>
    rw [q] at a
    exact opr_in hu pins s σ H x y v u Q I rx ry ⟨η, ah, dx, dy, hh, r1, r2, a⟩
  | some p =>
    obtain ⟨t, kvs⟩ := p
    rw [q] at a
    obtain ⟨c, a⟩ := a.ite
    obtain ⟨b, o, rfl, g, m⟩ := dct_get hh r2 r1 q c
    cases ry
    rw [val_isSome (P := fun d v => RelD η ah.length H d v) m] at a
    exact d_in (show X.A.units + 1 < cLine by omega) I g rx fun s3 I3 => ⟨.bl o.isSome, H, I3, rfl, a.same hh (by simp [RelD])⟩
theorem opr_notInE (hu : X.A.units + 64 < cLine) : OpR X (compareOp .NotIn) (rD2 X.K X.mg (inE true)) := by
  intro pins s σ H x y v u Q I rx ry ⟨η, ah, dx, dy, hh, r1, r2, a⟩
  unfold inE at a
  cases q : dctOf ah dy with
  | none =>
    rw [q] at a
    exact opr_notIn hu pins s σ H x y v u Q I rx ry ⟨η, ah, dx, dy, hh, r1, r2, a⟩
  | some p =>
    obtain ⟨t, kvs⟩ := p
    rw [q] at a
    obtain ⟨c, a⟩ := a.ite
    obtain ⟨b, o, rfl, g, m⟩ := dct_get hh r2 r1 q c
    cases ry
    rw [val_isSome (P := fun d v => RelD η ah.length H d v) m] at a
    exact d_notIn (show X.A.units + 1 < cLine by omega) I g rx fun s3 I3 => ⟨.bl (!o.isSome), H, I3, rfl, a.same hh (by simp [RelD])⟩
/-! ### {} -/
def dDct (t : Bool) : SE := fun σ h => .ok (.ref h.length) (h ++ [if t = true then .dcT [] else .dct []])
theorem de_newK : DE X W (.Dict [] [] pos) (dDct false) := PE.imp pe_dnewK fun σ H Q h => by
  obtain ⟨η, σd, ah, sim, h⟩ := h
  intro p hp
  have el : (ah ++ [O.dct []]).length = ah.length + 1 := by simp
  exact h (etaN η ah.length p) (.ref p) _ (by show Ext _ _ _ _ (ah ++ [O.dct []]).length _; rw [el]; exact ext_new hp) (relH_new sim.hh hp rfl ⟨[], upd_same, rfl⟩) ⟨by show _ < (ah ++ [O.dct []]).length; rw [el]; exact Nat.lt_succ_self _, by rw [etaN_at]⟩
theorem de_newT : DE X W (.Dict [] [] pos) (dDct true) := PE.imp pe_dnewT fun σ H Q h => by
  obtain ⟨η, σd, ah, sim, h⟩ := h
  intro p hp
  have el : (ah ++ [O.dcT []]).length = ah.length + 1 := by simp
  exact h (etaN η ah.length p) (.ref p) _ (by show Ext _ _ _ _ (ah ++ [O.dcT []]).length _; rw [el]; exact ext_new hp) (relH_new sim.hh hp rfl ⟨[], upd_same, rfl⟩) ⟨by show _ < (ah ++ [O.dcT []]).length; rw [el]; exact Nat.lt_succ_self _, by rw [etaN_at]⟩
/-! ### d[k] = v -/
theorem relK_any {k : D} {q : Key} (e : dkey k = some q) : ∀ {kvs : List (D × D)} {ks : List (Key × V)}, RelK η N H kvs ks → (kvs.any fun p => sameK p.1 k) = ks.any fun p => decide (p.1 = q)
  | [], _, r => by rw [show _ = [] from r]; rfl
  | (k0, d0) :: kvs, _, r => by
    obtain ⟨q0, v0, ks, rfl, r1, r2, r3⟩ := r
    have e0 := relD_kV r1
    subst e0
    simp only [List.any_cons, sameK_key (p := q0) e, relK_any e r3]
theorem relK_app : ∀ {kvs lvs : List (D × D)} {ks ls : List (Key × V)}, RelK η N H kvs ks → RelK η N H lvs ls → RelK η N H (kvs ++ lvs) (ks ++ ls)
  | [], _, _, _, r, r' => by rw [show _ = [] from r]; exact r'
  | (k0, d0) :: kvs, _, _, _, r, r' => by
    obtain ⟨q0, v0, ks, rfl, r1, r2, r3⟩ := r
    exact ⟨q0, v0, _, rfl, r1, r2, relK_app r3 r'⟩
theorem relK_map {k v : D} {q : Key} {y : V} (e : dkey k = some q) (ry : RelD η N H v y) : ∀ {kvs : List (D × D)} {ks : List (Key × V)}, RelK η N H kvs ks →
    RelK η N H (kvs.map fun p => if sameK p.1 k = true then (p.1, v) else p) (ks.map fun p => if p.1 = q then (p.1, y) else p)
  | [], _, r => by rw [show _ = [] from r]; rfl
  | (k0, d0) :: kvs, _, r => by
    obtain ⟨q0, v0, ks, rfl, r1, r2, r3⟩ := r
    have e0 := relD_kV r1
    subst e0
    have es := sameK_key (p := q0) e
    simp only [List.map_cons, es, decide_eq_true_eq]
    by_cases h : q0 = q
    · rw [if_pos h, if_pos h]
      exact ⟨q0, y, _, rfl, r1, ry, relK_map e ry r3⟩
    · rw [if_neg h, if_neg h]
      exact ⟨q0, v0, _, rfl, r1, r2, relK_map e ry r3⟩
theorem relK_put {k v : D} {q : Key} {y z : V} (e : dkey k = some q) (rk : RelD η N H k z) (ry : RelD η N H v y) {kvs : List (D × D)} {ks : List (Key × V)} (r : RelK η N H kvs ks) : RelK η N H (putD kvs k v) (putK ks q y) := by
  unfold putD putK
  rw [relK_any e r]
  split
  · exact relK_map e ry r
  · exact relK_app r ⟨q, y, [], rfl, by rw [← dkey_rel e rk]; exact rk, ry, rfl⟩
theorem relT_any {ds : List D} {q : List Key} (e : dkeys ds = some q) : ∀ {kvs : List (D × D)} {ks : List (List Key × V)}, RelT η N H kvs ks → (kvs.any fun p => sameK p.1 (.tup ds)) = ks.any fun p => decide (p.1 = q)
  | [], _, r => by rw [show _ = [] from r]; rfl
  | (k0, d0) :: kvs, _, r => by
    obtain ⟨q0, v0, ks, rfl, ⟨rfl, hz0⟩, r2, r3⟩ := r
    simp only [List.any_cons, sameK_keys (p := q0) e, relT_any e r3]
theorem relT_app : ∀ {kvs lvs : List (D × D)} {ks ls : List (List Key × V)}, RelT η N H kvs ks → RelT η N H lvs ls → RelT η N H (kvs ++ lvs) (ks ++ ls)
  | [], _, _, _, r, r' => by rw [show _ = [] from r]; exact r'
  | (k0, d0) :: kvs, _, _, _, r, r' => by
    obtain ⟨q0, v0, ks, rfl, r1, r2, r3⟩ := r
    exact ⟨q0, v0, _, rfl, r1, r2, relT_app r3 r'⟩
theorem relT_map {v : D} {ds : List D} {q : List Key} {y : V} (e : dkeys ds = some q) (ry : RelD η N H v y) : ∀ {kvs : List (D × D)} {ks : List (List Key × V)}, RelT η N H kvs ks →
    RelT η N H (kvs.map fun p => if sameK p.1 (.tup ds) = true then (p.1, v) else p) (ks.map fun p => if p.1 = q then (p.1, y) else p)
  | [], _, r => by rw [show _ = [] from r]; rfl
  | (k0, d0) :: kvs, _, r => by
    obtain ⟨q0, v0, ks, rfl, ⟨rfl, hz0⟩, r2, r3⟩ := r
    have es := sameK_keys (p := q0) e
    simp only [List.map_cons, es, decide_eq_true_eq]
    by_cases h : q0 = q
    · rw [if_pos h, if_pos h]
      exact ⟨q0, y, _, rfl, ⟨rfl, hz0⟩, ry, relT_map e ry r3⟩
    · rw [if_neg h, if_neg h]
      exact ⟨q0, v0, _, rfl, ⟨rfl, hz0⟩, r2, relT_map e ry r3⟩
theorem relT_put {v : D} {ds : List D} {q : List Key} {y : V} (e : dkeys ds = some q) (hz : nz ds = false) (ry : RelD η N H v y) {kvs : List (D × D)} {ks : List (List Key × V)} (r : RelT η N H kvs ks) : RelT η N H (putD kvs (.tup ds) v) (putK ks q y) := by
  unfold putD putK
  rw [relT_any e r]
  split
  · exact relT_map e ry r
  · exact relT_app r ⟨q, y, [], rfl, ⟨by rw [dkeys_eq e], by rw [← dkeys_eq e]; exact hz⟩, ry, rfl⟩
theorem RelK.length : ∀ {kvs : List (D × D)} {ks : List (Key × V)}, RelK η N H kvs ks → ks.length = kvs.length
  | [], _, r => by rw [show _ = [] from r]; rfl
  | (k0, d0) :: kvs, _, r => by
    obtain ⟨q0, v0, ks, rfl, r1, r2, r3⟩ := r
    simp [RelK.length r3]
theorem RelT.length : ∀ {kvs : List (D × D)} {ks : List (List Key × V)}, RelT η N H kvs ks → ks.length = kvs.length
  | [], _, r => by rw [show _ = [] from r]; rfl
  | (k0, d0) :: kvs, _, r => by
    obtain ⟨q0, v0, ks, rfl, r1, r2, r3⟩ := r
    simp [RelT.length r3]
def putH (h : AH) (d k v : D) : Option AH := match d with
  | .ref n => match h[n]? with
    | some (.dct kvs) => if keyAs false k = true ∧ kvs.length < 16777216 then some (h.set n (.dct (putD kvs k v))) else none
    | some (.dcT kvs) => if keyAs true k = true ∧ kvs.length < 16777216 then some (h.set n (.dcT (putD kvs k v))) else none
    | _ => none
  | _ => none
def sPut (fd fk fv : SE) : SS := fun σ h => (fv σ h).bindS σ fun v h1 => (fd σ h1).bindS σ fun d h2 => (fk σ h2).bindS σ fun k h3 => match putH h3 d k v with
  | some h4 => .nx σ h4
  | none => .bad
theorem putH_rel {d k v : D} {x y z : V} {ah2 : AH} (hh : RelH X.K X.mg η ah H) (rx : RelD η ah.length H d x) (ry : RelD η ah.length H k y) (rz : RelD η ah.length H v z) (e : putH ah d k v = some ah2) :
    ∃ a H4, x = .ref a ∧ DPut H a y z H4 ∧ RelH X.K X.mg η ah2 H4 ∧ Ext η ah.length H η ah2.length H4 := by
  cases d with
  | ref n =>
    obtain ⟨hn, rfl⟩ := rx
    simp only [putH] at e
    split at e
    · rename_i kvs q
      split at e
      · rename_i c
        cases e
        obtain ⟨ks, h1, h2⟩ := hh.obj n _ q
        obtain ⟨qk, hq⟩ := Option.isSome_iff_exists.mp c.1
        have ey := dkey_rel hq ry
        subst ey
        have ex : Ext η ah.length H η ah.length (upd H (η n) (.dK (putK ks qk z))) := ext_set hh q rfl
        refine ⟨_, _, rfl, DPut.k h1 (by rw [RelK.length h2]; exact c.2), relH_set hh q rfl rfl (fun ob w z => by rw [h1] at z; cases z) ⟨_, upd_same, RelK.ext ex _ _ (relK_put hq ry rz h2)⟩, ?_⟩
        rw [List.length_set]
        exact ex
      · cases e
    · rename_i kvs q
      split at e
      · rename_i c
        cases e
        obtain ⟨ks, h1, h2⟩ := hh.obj n _ q
        cases k with
        | tup ds =>
          obtain ⟨hk1, hk2⟩ := keyAs_T c.1
          obtain ⟨qk, hq⟩ := Option.isSome_iff_exists.mp hk1
          obtain ⟨b, vs, rfl, hb1, hb2⟩ := ry
          have hb1 := hb1.2 hk2
          rw [dkeys_rel hq hb2] at hb1
          have ex : Ext η ah.length H η ah.length (upd H (η n) (.dT (putK ks qk z))) := ext_set hh q rfl
          refine ⟨_, _, rfl, DPut.t h1 hb1 (by rw [RelT.length h2]; exact c.2), relH_set hh q rfl rfl (fun ob w z => by rw [h1] at z; cases z) ⟨_, upd_same, RelT.ext ex _ _ (relT_put hq hk2 rz h2)⟩, ?_⟩
          rw [List.length_set]
          exact ex
        | _ => exact absurd c.1 (by simp [keyAs])
      · cases e
    · cases e
  | _ => cases e
end
end DL


set_option maxRecDepth 100000
namespace DL
open PySem PySem.Spec PyProof.Rows L2
section
variable {X : Cx} {W : WX} {η η' η1 : Nat → Addr} {N N1 : Nat} {σd : Lc} {ah ah' ah1 : AH} {σ : L2.St} {H H' H1 : Hp} {Q : VK} {pos : Pos}
theorem ds_put {o i value : Expr} {fd fk fv : SE} {pos' : Pos} (hu : X.A.units + 64 < cLine) (ho : DE X W o fd) (hi : DE X W i fk) (hv : DE X W value fv) (hs : swapsWith value (some (.Subscript o i pos')) pos.line X.env = pure false := by rfl) :
    DS X W (.Assign [.Subscript o i pos'] value pos) (sPut fd fk fv) := PS.imp (ps_dput (show X.A.units + 1 < cLine by omega) ho hi hv hs) fun D σ H h => by
  obtain ⟨η, σd, ah, sim, h⟩ := h
  refine tE_bindS sim h fun dv ah1 η1 v H1 s1 e1 r1 h1 => tE_bindS s1 h1 fun dd ah2 η2 x H2 s2 e2 r2 h2 => tE_bindS s2 h2 fun dk ah3 η3 y H3 s3 e3 r3 h3 => ?_
  cases q : putH ah3 dd dk dv with
  | none => rw [q] at h3; exact h3.elim
  | some ah4 =>
    rw [q] at h3
    obtain ⟨a, H4, rfl, g, hh4, ex⟩ := putH_rel s3.hh (r2.ext e3) r3 ((r1.ext e2).ext e3) q
    exact ⟨a, H4, rfl, g, h3 η3 σ H4 ex (s3.ext ex hh4)⟩
/-! ### d.get(k), d.get(k, x) -/
def getB (d k z : D) (h : AH) : R := match dctOf h d with
  | some (t, kvs) => if keyAs t k = true then .ok ((valD kvs k).getD z) h else .bad
  | none => .bad
def dGet2 (fd fk fx : SE) : SE := fun σ h => (fd σ h).bind fun d h1 => if (dctOf h1 d).isSome = true then (fk σ h1).bind fun k h2 => (fx σ h2).bind fun z h3 => getB d k z h3 else .bad
def dGet1 (fd fk : SE) : SE := fun σ h => (fd σ h).bind fun d h1 => if (dctOf h1 d).isSome = true then (fk σ h1).bind fun k h2 => getB d k .non h2 else .bad
theorem isD_of {d : D} {x : V} (hh : RelH X.K X.mg η ah H) (rx : RelD η ah.length H d x) (e : (dctOf ah d).isSome = true) : ∃ a, x = .ref a ∧ IsD H a := by
  cases d with
  | ref n =>
    obtain ⟨hn, rfl⟩ := rx
    simp only [dctOf] at e
    split at e
    · rename_i q
      obtain ⟨ks, h1, _⟩ := hh.obj n _ q
      exact ⟨_, rfl, .inl ⟨ks, .inl h1⟩⟩
    · rename_i q
      obtain ⟨ks, h1, _⟩ := hh.obj n _ q
      exact ⟨_, rfl, .inr ⟨ks, .inl h1⟩⟩
    · rename_i q
      obtain ⟨ob, ks, h1, _⟩ := hh.obj n _ q
      exact ⟨_, rfl, .inl ⟨ks, .inr ⟨ob, h1⟩⟩⟩
    · rename_i q
      obtain ⟨ob, ks, h1, _⟩ := hh.obj n _ q
      exact ⟨_, rfl, .inr ⟨ks, .inr ⟨ob, h1⟩⟩⟩
    · cases e
  | _ => cases e
theorem getB_rel {W : WX} {d k z : D} {x y w : V} (hh : RelH X.K X.mg η ah H) (rx : RelD η ah.length H d x) (ry : RelD η ah.length H k y) (rz : RelD η ah.length H z w) (h : RP X.K X.mg W η ah.length σ H (getB d k z ah) Q) :
    ∃ a o, x = .ref a ∧ DGet H a y o ∧ Q (o.getD w) H := by
  unfold getB at h
  cases q : dctOf ah d with
  | none => rw [q] at h; exact h.elim
  | some p =>
    obtain ⟨t, kvs⟩ := p
    rw [q] at h
    dsimp only at h
    by_cases c : keyAs t k = true
    · rw [if_pos c] at h
      obtain ⟨a, o, rfl, g, m⟩ := dct_get hh rx ry q c
      refine ⟨a, o, rfl, g, ?_⟩
      cases qv : valD kvs k with
      | none =>
        rw [qv] at m h
        rw [show o = none from m]
        exact h η w H Ext.refl hh rz
      | some dd =>
        rw [qv] at m h
        obtain ⟨v, rfl, rv⟩ := m
        exact h η v H Ext.refl hh rv
    · rw [if_neg c] at h
      exact h.elim
theorem de_get2 {o e f : Expr} {fd fk fx : SE} {apos cpos : Pos} (hu : X.A.units + 64 < cLine) (ho : DE X W o fd) (he : DE X W e fk) (hf : DE X W f fx) (m : M2 X o "get" apos e f cpos := by exact ⟨rfl, rfl, rfl, rfl⟩) : DE X W (.Call (.Attribute o "get" apos) [e, f] [] cpos) (dGet2 fd fk fx) :=
  PE.imp (pe_dget2 (show X.A.units + 1 < cLine by omega) ho he hf m) fun σ H Q h => by
    obtain ⟨η, σd, ah, sim, h⟩ := h
    refine tE_bind sim h fun dd ah1 η1 x H1 s1 e1 r1 h1 => ?_
    by_cases c : (dctOf ah1 dd).isSome = true
    · rw [if_pos c] at h1
      obtain ⟨a, rfl, hd⟩ := isD_of s1.hh r1 c
      refine ⟨a, rfl, hd, tE_bind s1 h1 fun dk ah2 η2 y H2 s2 e2 r2 h2 => tE_bind s2 h2 fun dz ah3 η3 z H3 s3 e3 r3 h3 => ?_⟩
      obtain ⟨a', o', ex, g, q⟩ := getB_rel s3.hh ((r1.ext e2).ext e3) (r2.ext e3) r3 h3
      cases ex
      exact ⟨o', g, q⟩
    · rw [if_neg c] at h1
      exact h1.elim
theorem de_get1 {o e : Expr} {fd fk : SE} {apos cpos : Pos} (hu : X.A.units + 64 < cLine) (ho : DE X W o fd) (he : DE X W e fk) (m : M1 X o "get" apos e cpos := by exact ⟨rfl, rfl, rfl, rfl⟩) : DE X W (.Call (.Attribute o "get" apos) [e] [] cpos) (dGet1 fd fk) :=
  PE.imp (pe_dget1 (show X.A.units + 1 < cLine by omega) ho he m) fun σ H Q h => by
    obtain ⟨η, σd, ah, sim, h⟩ := h
    refine tE_bind sim h fun dd ah1 η1 x H1 s1 e1 r1 h1 => ?_
    by_cases c : (dctOf ah1 dd).isSome = true
    · rw [if_pos c] at h1
      obtain ⟨a, rfl, hd⟩ := isD_of s1.hh r1 c
      refine ⟨a, rfl, hd, tE_bind s1 h1 fun dk ah2 η2 y H2 s2 e2 r2 h2 => ?_⟩
      obtain ⟨a', o', ex, g, q⟩ := getB_rel (z := .non) (w := .non) s2.hh (r1.ext e2) r2 rfl h2
      cases ex
      exact ⟨o', g, q⟩
    · rw [if_neg c] at h1
      exact h1.elim
end
end DL


set_option maxRecDepth 100000
namespace DL
open PySem PySem.Spec PyProof.Rows L2

/-! ## sorted(list) -/
def isTup1 : PyData → Bool
  | .tuple (_ :: _) => true
  | _ => false
def noTup : PyData → Bool
  | .none => false
  | .tuple _ => false
  | _ => true
def okSort (ds : List D) : Bool := (D.dats ds).all (fun d => (D.dats ds).all fun d' => PySem.W.alike d d') && ((D.dats ds).all isTup1 || (D.dats ds).all noTup) && PyData.plainAll (D.dats ds) && decide (PyData.depthAll (D.dats ds) ≤ 60) && decide (ds.length ≤ 16777216)
def leD2 (a b : D) : Bool := !PySem.W.dataLt b.dat a.dat
def sortD (ds : List D) : List D := ds.mergeSort leD2
def sortedL : OpL := fun ds h => match ds with
  | [.ref n] => match h[n]? with
    | some (.lst ds) => if okSort ds = true then some (.ref h.length, h ++ [.lst (sortD ds)]) else none
    | _ => none
  | _ => none
theorem dats_map : ∀ ds : List D, D.dats ds = ds.map D.dat
  | [] => rfl
  | d :: ds => by simp [D.dats, dats_map ds]
section
variable {X : Cx} {η : Nat → Addr} {N : Nat} {H : Hp}
theorem each_of {R : Value → (D × V) → Prop} (hR : ∀ v p, RelV p.2 v → R v p) : ∀ {ds : List D} {vs : List V} {us : List Value}, RelDs η N H ds vs → Vals vs us → PySem.W.EachIs R us (ds.zip vs)
  | [], _, _, r, v => by
    rw [show _ = [] from r] at v
    cases v
    exact .nil
  | d :: ds, _, _, r, v => by
    obtain ⟨x, vs, rfl, r1, r2⟩ := r
    cases v with
    | cons a b => exact .cons (hR _ _ a) (each_of hR r2 b)
theorem zip_rel : ∀ {ds : List D} {vs : List V}, RelDs η N H ds vs → ∀ p ∈ ds.zip vs, RelD η N H p.1 p.2
  | [], _, _, p, h => by simp at h
  | d :: ds, _, r, p, h => by
    obtain ⟨x, vs, rfl, r1, r2⟩ := r
    rw [List.zip_cons_cons, List.mem_cons] at h
    rcases h with rfl | h
    · exact r1
    · exact zip_rel r2 p h
theorem rel_unzip : ∀ {ps : List (D × V)}, (∀ p ∈ ps, RelD η N H p.1 p.2) → RelDs η N H (ps.map (·.1)) (ps.map (·.2))
  | [], _ => rfl
  | p :: ps, h => ⟨_, _, rfl, h p (by simp), rel_unzip fun q hq => h q (by simp [hq])⟩
theorem vals_each : ∀ {us : List Value} {ps : List (D × V)}, PySem.W.EachIs (fun v p => RelV p.2 v) us ps → Vals (ps.map (·.2)) us
  | _, _, .nil => .nil
  | _, _, .cons a b => .cons a (vals_each b)
theorem zip_fst : ∀ {ds : List D} {vs : List V}, RelDs η N H ds vs → (ds.zip vs).map (·.1) = ds
  | [], _, _ => by simp
  | d :: ds, _, r => by
    obtain ⟨x, vs, rfl, r1, r2⟩ := r
    rw [List.zip_cons_cons, List.map_cons, zip_fst r2]
theorem plain_mem : ∀ {ds : List D}, PyData.plainAll (D.dats ds) = true → ∀ {d : D}, d ∈ ds → d.dat.plain = true
  | x :: ds, h, d, hm => by
    simp only [D.dats, PyData.plainAll, Bool.and_eq_true] at h
    rcases List.mem_cons.mp hm with rfl | hm
    · exact h.1
    · exact plain_mem h.2 hm
theorem depth_mem : ∀ {ds : List D} {d : D}, d ∈ ds → d.dat.depth ≤ PyData.depthAll (D.dats ds)
  | x :: ds, d, hm => by
    simp only [D.dats, PyData.depthAll]
    rcases List.mem_cons.mp hm with rfl | hm
    · omega
    · have := depth_mem hm
      omega
theorem callr_sorted (hu : X.A.units + 64 < cLine) : CallR X (.builtin "sorted") (rDL X.K X.mg sortedL) := by
  intro pins s σ H xs us Q I r ⟨η, ah, ds, hh, rd, a⟩
  unfold sortedL at a
  split at a
  · rename_i n
    obtain ⟨v, r', rfl, ⟨hn, rfl⟩, rfl⟩ := rd
    split at a
    · rename_i ds e
      obtain ⟨c, a⟩ := a.ite
      simp only [okSort, Bool.and_eq_true, Bool.or_eq_true, decide_eq_true_eq, List.all_eq_true] at c
      obtain ⟨⟨⟨⟨c1, c2⟩, c3⟩, c4⟩, c5⟩ := c
      obtain ⟨vs, h1, h2⟩ := hh.obj n _ e
      obtain ⟨its, rv, hl, hz⟩ := I.list (.of h1)
      rw [Vals.ref1 r]
      have hb : (ds.zip vs).map (fun p => p.1.dat) = D.dats ds := by
        have hz := zip_fst h2
        rw [dats_map]
        conv => rhs; rw [← hz, List.map_map]
        rfl
      have hlen : (ds.zip vs).length = ds.length := by rw [List.length_zip, h2.length]; omega
      have pl : ∀ p ∈ ds.zip vs, p.1.dat.plain = true ∧ p.1.dat.depth ≤ 60 := by
        intro p hp
        have hm : p.1 ∈ ds := (List.of_mem_zip (a := p.1) (b := p.2) hp).1
        exact ⟨plain_mem c3 hm, Nat.le_trans (depth_mem hm) c4⟩
      have hrel := zip_rel h2
      have er0 : ∀ {zs : List (D × V)} {ws : List Value}, (∀ p ∈ zs, p.1.dat.plain = true ∧ RelD η ah.length H p.1 p.2) → PySem.W.EachIs (fun v p => RelV p.2 v) ws zs → PySem.W.EachIs (fun v p => ∃ as, Reads s.heap v p.1.dat as) ws zs := by
        intro zs ws hz he
        induction he with
        | nil => exact .nil
        | cons q _ ih => exact .cons (Dp.reads I _ _ _ (RelD.dp _ _ (hz _ (by simp)).2 (hz _ (by simp)).1) q) (ih fun p hp => hz p (by simp [hp]))
      have e0 := each_of (R := fun v p => RelV p.2 v) (fun _ _ h => h) h2 rv
      refine PySem.W.sorted_data (bs := ds.zip vs) (enc := fun p => p.1.dat) (R := fun v p => RelV p.2 v) hl.isList e0 (er0 (fun p hp => ⟨(pl p hp).1, hrel p hp⟩) e0) (by rw [hb]; exact c1) (by
        rw [hb]
        rcases c2 with c2 | c2
        · left
          intro d hd
          have := c2 d hd
          cases d with
          | tuple l => cases l with
            | nil => simp [isTup1] at this
            | cons x r => exact ⟨x, r, rfl⟩
          | _ => simp [isTup1] at this
        · right
          intro d hd
          have := c2 d hd
          refine ⟨fun z => by subst z; simp [noTup] at this, fun xs z => by subst z; simp [noTup] at this⟩) (by rw [hlen, sizeLine_eq]; exact c5) (fun p hp => by
        have := (pl p hp).2
        show X.A.units + 2 + p.1.dat.depth < cLine
        omega) fun out ho eo => ?_
      obtain ⟨ep, he'⟩ := PyProof.Rows.sortedAll_at s.heap its out.toArray
      generalize hps : (ds.zip vs).mergeSort (PySem.W.dataLe false fun p => p.1.dat) = ps at eo
      have hperm : ∀ p ∈ ps, p ∈ ds.zip vs := fun p hp => by rw [← hps] at hp; exact List.mem_mergeSort.mp hp
      have hD : ps.map (·.1) = sortD ds := by
        rw [← hps, List.map_mergeSort (s := leD2) (f := fun p : D × V => p.1) (fun a _ b _ => by rfl), zip_fst h2]
        rfl
      have hvl := vals_each eo
      refine ⟨.ref _, upd H (s.heap.objs.size + 1) (.lst (ps.map (·.2))), I.laid (t' := s.toks) (fun _ _ => PyProof.Rows.sortedAll_old) (Nat.le_succ _) ⟨?_, out, ep, hvl, he'⟩, rfl, ?_⟩
      · have : ps.length = ds.length := by rw [← hps, List.length_mergeSort, hlen]
        rw [List.length_map, this, sizeLine_eq]
        exact c5
      · have hrr := rel_unzip (η := η) (N := ah.length) (H := H) (ps := ps) fun p hp => hrel p (hperm p hp)
        rw [hD] at hrr
        exact a.lst hh hrr (I.hok.fresh (Nat.le_succ _))
    · exact a.none.elim
  · exact a.none.elim
end
end DL


set_option maxRecDepth 100000
namespace DL
open PySem PySem.Spec PyProof.Rows L2
/-! ## range(a, b, -1) -/
def iotaC (lo c : Int) (n : Nat) : List D := (List.range n).map fun (i : Nat) => D.int (lo + (i : Int) * c)
theorem iotaC_get {lo c : Int} {n i : Nat} {d : D} (h : (iotaC lo c n)[i]? = some d) : d = .int (lo + (i : Int) * c) ∧ i < n := by
  unfold iotaC at h
  rw [List.getElem?_map] at h
  cases q : (List.range n)[i]? with
  | none => rw [q] at h; cases h
  | some j =>
    rw [q] at h
    cases h
    obtain ⟨h1, h2⟩ := List.getElem?_eq_some_iff.mp q
    rw [List.length_range] at h1
    rw [List.getElem_range] at h2
    subst h2
    exact ⟨rfl, h1⟩
theorem iotaC_length {lo c : Int} {n : Nat} : (iotaC lo c n).length = n := by unfold iotaC; simp
section
variable {X : Cx} {W : WX} {η η' η1 : Nat → Addr} {N N1 : Nat} {σd : Lc} {ah ah' ah1 : AH} {σ : L2.St} {H H' H1 : Hp} {Q : VK} {pos : Pos}
theorem jok_rngC {lo c : Int} {n : Nat} : JOk X.K X.mg η N H (Itc lo c n) (iotaC lo c n) (fun _ => True) where
  go := fun i η' ah H' e hh _ hi => by rw [iotaC_length] at hi; exact hi
  stop := fun i η' ah H' e hh _ hi => by rw [iotaC_length] at hi; exact hi
  yld := fun i η' ah H' x H2 d e hh _ hd y => by
    obtain ⟨rfl, rfl⟩ := y
    refine ⟨hh, Ext.refl, ?_⟩
    rw [(iotaC_get hd).1]
    rfl
def iRg3K (ds : List D) (h : AH) : RI := match ds with
  | [.int m, .int n, .int c] => if (small62 m && small62 n && decide (c = -1)) = true then .ok (iotaC m c (m - n).toNat) (fun _ => True) h else .bad
  | _ => .bad
def iRng3 (fs : SA) : SI := fun σ h => (fs σ h).bindI iRg3K
theorem iRg3K_inv {ds : List D} {h : AH} {R : It → Hp → Prop} (hr : RPI X.K X.mg W η N σ H (iRg3K ds h) R) : ∃ m n : Int, ds = [.int m, .int n, .int (-1)] ∧ small62 m = true ∧ small62 n = true := by
  unfold iRg3K at hr
  split at hr
  · rename_i m n c
    by_cases hs : (small62 m && small62 n && decide (c = -1)) = true
    · have hs' := hs
      rw [Bool.and_eq_true, Bool.and_eq_true, decide_eq_true_iff] at hs'
      obtain ⟨⟨h1, h2⟩, rfl⟩ := hs'
      exact ⟨m, n, rfl, h1, h2⟩
    · rw [if_neg hs] at hr; exact hr.elim
  · exact hr.elim
theorem di_rng3 {a b c tg : Expr} {fs : SA} {p pos : Pos} (hg : Gl X "range") (hm : X.mg "range" = none) (ha : DA X W [a, b, c] fs) (hs : starEach [a, b, c] X.env = (false, eval a X.env) :: starEach [b, c] X.env := by rfl) (hpl : (backTo pos (starEach [b, c] X.env)).any (·.1) = false := by rfl) :
    DI X W tg (.Call (.Name "range" p) [a, b, c] [] pos) (iRng3 fs) := PI.imp (pi_range3 hg hm ha hs hpl) fun σ H R h => by
  obtain ⟨η, σd, ah, sim, h⟩ := h
  refine tA_bindI sim h fun ds ah1 η1 vs H1 z s1 e1 r1 h1 => ?_
  obtain ⟨m, n, rfl, hs, ht⟩ := iRg3K_inv h1
  obtain ⟨v, r, rfl, rfl, w, r2, rfl, rfl, u, r3, rfl, rfl, rfl⟩ := r1
  have h2 : RPI X.K X.mg W η1 ah1.length σ H1 (if (small62 m && small62 n && decide ((-1 : Int) = -1)) = true then .ok (iotaC m (-1) (m - n).toNat) (fun _ => True) ah1 else .bad) R := h1
  rw [if_pos (by rw [hs, ht]; rfl)] at h2
  simp only [small62, Bool.and_eq_true, decide_eq_true_eq] at hs ht
  exact ⟨m, n, -1, _, rfl, RgC.neg hs.1 hs.2 ht.1 ht.2, h2 η1 H1 Ext.refl s1.hh _ jok_rngC⟩
end
end DL


set_option maxRecDepth 100000
namespace DL
open PySem PySem.Spec PyProof.Rows L2

/-! ## tuples compared -/
def okCmp (x y : PyData) : Bool := PySem.W.alike x y && x.plain && y.plain && decide (x.depth ≤ 30) && decide (y.depth ≤ 30)
def ltE : Op2 := fun x y h => match x, y with
  | .tup a, .tup b => if okCmp (D.tup a).dat (D.tup b).dat = true then some (.bl (PySem.W.dataLt (D.tup a).dat (D.tup b).dat), h) else none
  | x, y => ltD x y h
section
variable {X : Cx} {η : Nat → Addr} {N : Nat} {H : Hp}
theorem opr_ltE (hu : X.A.units + 64 < cLine) : OpR X (compareOp .Lt) (rD2 X.K X.mg ltE) := by
  intro pins s σ H x y v u Q I rx ry ⟨η, ah, dx, dy, hh, r1, r2, a⟩
  unfold ltE at a
  split at a
  · rename_i a1 b1
    obtain ⟨c, a⟩ := a.ite
    simp only [okCmp, Bool.and_eq_true, decide_eq_true_eq] at c
    obtain ⟨⟨⟨⟨c1, c2⟩, c3⟩, c4⟩, c5⟩ := c
    obtain ⟨as, ra⟩ := Dp.reads I _ _ _ (RelD.dp _ _ r1 c2) rx
    obtain ⟨bs, rb⟩ := Dp.reads I _ _ _ (RelD.dp _ _ r2 c3) ry
    refine PySem.W.lt_data ra rb c1 (by simp [D.dat]) (by omega) ?_
    exact ⟨.bl (PySem.W.dataLt (D.tup a1).dat (D.tup b1).dat), H, I, rfl, a.same hh rfl⟩
  · exact opr_lt pins s σ H x y v u Q I rx ry ⟨η, ah, _, _, hh, r1, r2, a⟩
end

/-! ## the keys of a dict, as its object holds them -/
section
variable {X : Cx} {η : Nat → Addr} {N : Nat} {H : Hp} {ah : AH}
theorem keyIs_rel {k : Key} {v : Value} (e : keyIs k v = true) : RelV (kV k) v := by
  rcases keyIs_shape e with ⟨i, t, ek, ev⟩ | ⟨z, t, ek, ev⟩
  · subst ek; exact ⟨t, ev⟩
  · subst ek; exact ⟨t, ev⟩
theorem relK_keys : ∀ {kvs : List (D × D)} {ks : List (Key × V)}, RelK η N H kvs ks → RelDs η N H (kvs.map (·.1)) (ks.map fun q => kV q.1)
  | [], _, r => by rw [show _ = [] from r]; rfl
  | (k, d) :: kvs, _, r => by
    obtain ⟨q, v, ks, rfl, r1, r2, r3⟩ := r
    exact ⟨kV q, _, rfl, r1, relK_keys r3⟩
theorem vals_get {vs : List V} {us : List Value} (hl : us.length = vs.length) (h : ∀ (i : Nat) (u : Value), us[i]? = some u → ∃ v, vs[i]? = some v ∧ RelV v u) : Vals vs us := by
  induction us generalizing vs with
  | nil => cases vs with
    | nil => exact .nil
    | cons v vs => simp at hl
  | cons u us ih => cases vs with
    | nil => simp at hl
    | cons v vs =>
      obtain ⟨v', e, r⟩ := h 0 u rfl
      cases e
      exact .cons r (ih (by simpa using hl) fun i u' e => by simpa using h (i + 1) u' (by simpa using e))
theorem kv_rel {ks : List (Key × V)} {vs : List (Key × Value)} (r : KV ks vs) : ks.map (·.1) = vs.map (·.1) := r.keys
theorem rawK {pins : List (Addr × Obj)} {σ : L2.St} {s : Shared} (I : Inv X pins σ H s) {a : Addr} {kvs : List (D × D)} {ks : List (Key × V)} (e : Rd H a (.dK ks)) (r : RelK η N H kvs ks) :
    (a == sysModules) = false ∧ kvs.length ≤ sizeLine ∧ ∃ es ep vs, s.heap.DictRaw a es ep ∧ es.size = kvs.length ∧ RelDs η N H (kvs.map (·.1)) vs ∧ Vals vs (es.toList.map (·.key)) := by
  obtain ⟨z, lo, vs, rel, dd⟩ := dk_rd I.hok e
  obtain ⟨ep, hat⟩ := dd.dictAt
  obtain ⟨es, hr, hsz, hk⟩ := hat.raw
  have hlen : ks.length = vs.length := rel.length
  have hrk : kvs.length = ks.length := by
    have := (relK_keys r).length
    simpa using this.symm
  refine ⟨lo, by omega, es, ep, ks.map fun q => kV q.1, hr, by omega, relK_keys r, ?_⟩
  refine vals_get (by simp; omega) fun i u e => ?_
  rw [List.getElem?_map] at e
  cases he : es.toList[i]? with
  | none => rw [he] at e; cases e
  | some en =>
    rw [he] at e
    cases e
    have hi : i < es.size := by
      have := (List.getElem?_eq_some_iff.mp he).1
      simpa using this
    have hen : es[i] = en := by
      have := (List.getElem?_eq_some_iff.mp he).2
      simpa using this
    obtain ⟨q, hq⟩ : ∃ q, vs[i]? = some q := ⟨vs[i]'(by omega), List.getElem?_eq_getElem (by omega)⟩
    obtain ⟨h1, _⟩ := hk i hi q.1 q.2 hq
    have hkk : (ks.map (·.1))[i]? = some q.1 := by rw [rel.keys, List.getElem?_map, hq]; rfl
    refine ⟨kV q.1, ?_, ?_⟩
    · rw [List.getElem?_map] at hkk ⊢
      cases hki : ks[i]? with
      | none => rw [hki] at hkk; cases hkk
      | some p => rw [hki] at hkk; simp only [Option.map_some, Option.some.injEq] at hkk ⊢; rw [hkk]
    · rw [← hen]; exact keyIs_rel h1
theorem rawT {pins : List (Addr × Obj)} {σ : L2.St} {s : Shared} (I : Inv X pins σ H s) {a : Addr} {kvs : List (D × D)} {ks : List (List Key × V)} (e : Rd H a (.dT ks)) (r : RelT η N H kvs ks) :
    (a == sysModules) = false ∧ kvs.length ≤ sizeLine ∧ ∃ es ep vs, s.heap.DictRaw a es ep ∧ es.size = kvs.length ∧ RelDs η N H (kvs.map (·.1)) vs ∧ Vals vs (es.toList.map (·.key)) := by
  obtain ⟨z, lo, xs, rel, o, es, ep, ho, hx, hdat, hes, his, hn⟩ := dt_rd I.hok e
  have key : ∀ {kvs : List (D × D)} {ks : List (List Key × V)} {xs : List (List Key × Addr × Value)}, RelT η N H kvs ks → KT H ks xs → kvs.length = ks.length ∧ RelDs η N H (kvs.map (·.1)) (xs.map fun x => V.ref x.2.1) := by
    intro kvs
    induction kvs with
    | nil =>
      intro ks xs r k
      rw [show ks = [] from r] at k ⊢
      cases k
      exact ⟨rfl, rfl⟩
    | cons p kvs ih =>
      intro ks xs r k
      obtain ⟨k0, d0⟩ := p
      obtain ⟨q, v, ks, rfl, ⟨rfl, hz⟩, r2, r3⟩ := r
      cases k with
      | cons h t =>
        obtain ⟨h1, h2⟩ := ih r3 t
        obtain ⟨g1, g2, g3⟩ := h
        refine ⟨by simp [h1], V.ref _, _, rfl, ⟨_, _, rfl, .ofF hz g2, ?_⟩, h2⟩
        have : ∀ l : List Key, RelDs η N H (l.map keyD) (l.map kV) := by
          intro l
          induction l with
          | nil => rfl
          | cons c l ih =>
            refine ⟨kV c, _, rfl, ?_, ih⟩
            cases c with
            | inl i => rfl
            | inr x => show V.str x = V.str (S x.cps.toList); rw [S_toList]
        exact this q
  obtain ⟨h1, h2⟩ := key r rel
  have l1 : ks.length = xs.length := Paired.length rel
  have l2 : es.size = xs.length := size_of_entries hes
  refine ⟨lo, by omega, es, ep, xs.map fun x => V.ref x.2.1, ⟨o, ho, hx, hdat⟩, by omega, h2, ?_⟩
  have e3 : es.toList.map (·.key) = xs.map fun x => Value.ref x.2.1 := by
    rw [hes, List.map_map]
    rfl
  rw [e3]
  exact vals_maps (fun x : List Key × Addr × Value => V.ref x.2.1) (fun x => Value.ref x.2.1) xs fun _ _ => rfl
/-- a dict of ours, its object -/
theorem rawD {pins : List (Addr × Obj)} {σ : L2.St} {s : Shared} (I : Inv X pins σ H s) (hh : RelH X.K X.mg η ah H) {n : Nat} {t : Bool} {kvs : List (D × D)} (e : dctOf ah (.ref n) = some (t, kvs)) :
    (η n == sysModules) = false ∧ kvs.length ≤ sizeLine ∧ ∃ es ep vs, s.heap.DictRaw (η n) es ep ∧ es.size = kvs.length ∧ RelDs η ah.length H (kvs.map (·.1)) vs ∧ Vals vs (es.toList.map (·.key)) := by
  simp only [dctOf] at e
  split at e
  · rename_i kv q; cases e; obtain ⟨ks, h1, h2⟩ := hh.obj n _ q; exact rawK I (.of h1) h2
  · rename_i kv q; cases e; obtain ⟨ks, h1, h2⟩ := hh.obj n _ q; exact rawT I (.of h1) h2
  · rename_i kv q; cases e; obtain ⟨ob, ks, h1, h2⟩ := hh.obj n _ q; exact rawK I (.inr ⟨ob, h1⟩) h2
  · rename_i kv q; cases e; obtain ⟨ob, ks, h1, h2⟩ := hh.obj n _ q; exact rawT I (.inr ⟨ob, h1⟩) h2
  · cases e
theorem items_vals {es : Array DictEntry} {acc : Array Value} (h : ItemsOf (fun i v => ∃ hi : i < es.size, v = es[i].key) acc es.size) : acc.toList = es.toList.map (·.key) := by
  obtain ⟨h1, h2⟩ := h
  apply List.ext_getElem?
  intro i
  by_cases hi : i < acc.size
  · obtain ⟨hi2, e⟩ := h2 i acc[i] (by simp [hi])
    rw [List.getElem?_map]
    simp [hi, hi2, e]
  · rw [List.getElem?_eq_none (by simp; omega), List.getElem?_eq_none (by simp; omega)]
end
mutual
theorem reads_lt {h : Heap} : ∀ {v : Value} {d : PyData} {as : List Addr}, Reads h v d as → ∀ b ∈ as, b < h.objs.size
  | _, _, _, .none, b, hb => by simp at hb
  | _, _, _, .bool _, b, hb => by simp at hb
  | _, _, _, .int _ _, b, hb => by simp at hb
  | _, _, _, .str _ _, b, hb => by simp at hb
  | _, _, _, .list ho _ _ rs, b, hb => by
    rcases List.mem_cons.mp hb with rfl | hb
    · exact Heap.lt_size ho
    · exact readsAll_lt rs b hb
  | _, _, _, .tuple _ _ _ rs, b, hb => readsAll_lt rs b hb
  | _, _, _, .dict ho _ _ r1 r2, b, hb => by
    rcases List.mem_append.mp hb with hb | hb
    · rcases List.mem_cons.mp hb with rfl | hb
      · exact Heap.lt_size ho
      · exact readsAll_lt r1 b hb
    · exact readsAll_lt r2 b hb
theorem readsAll_lt {h : Heap} : ∀ {vs : List Value} {ds : List PyData} {as : List Addr}, ReadsAll h vs ds as → ∀ b ∈ as, b < h.objs.size
  | _, _, _, .nil, b, hb => by simp at hb
  | _, _, _, .cons r rs, b, hb => by
    rcases List.mem_append.mp hb with hb | hb
    · exact reads_lt r b hb
    · exact readsAll_lt rs b hb
end
/-! ## sorted(d) -/
def sortedDL : OpL := fun ds h => match ds with
  | [.ref n] => match dctOf h (.ref n) with
    | some (_, kvs) => if okSort (kvs.map (·.1)) = true then some (.ref h.length, h ++ [.lst (sortD (kvs.map (·.1)))]) else none
    | _ => none
  | _ => none
def sortedE : OpL := fun ds h => match sortedL ds h with
  | some r => some r
  | none => sortedDL ds h
section
variable {X : Cx} {η : Nat → Addr} {N : Nat} {H : Hp}
theorem callr_sortedDL (hc : X.calm = true) (hu : X.A.units + 64 < cLine) : CallR X (.builtin "sorted") (rDL X.K X.mg sortedDL) := by
  intro pins s σ H xs us Q I r ⟨η, ah, ds, hh, rd, a⟩
  unfold sortedDL at a
  split at a
  · rename_i n
    obtain ⟨v, r', rfl, ⟨hn, rfl⟩, rfl⟩ := rd
    split at a
    · rename_i t kvs e
      obtain ⟨c, a⟩ := a.ite
      simp only [okSort, Bool.and_eq_true, Bool.or_eq_true, decide_eq_true_eq, List.all_eq_true] at c
      obtain ⟨⟨⟨⟨c1, c2⟩, c3⟩, c4⟩, c5⟩ := c
      obtain ⟨lo, hz, es, ep, vs, hraw, hsz, h2, hv⟩ := rawD I hh e
      rw [Vals.ref1 r]
      refine Calls.call_function_entry PyProof.Rows.kind_sorted PyProof.Rows.plain_sorted PyProof.Rows.entry_sorted (PyProof.Rows.args_sorted1 _) ?_
      unfold Builtin.«sorted»
      refine wpAny_bind (m := checkCount "sorted" 1 1 _) (wpAny_pure ?_)
      refine wpAny_bind (PySem.W.kdu_collect (A := X.A.in1) (PySem.KdlSrc.rawDict lo) (I.ok.hd hc) hraw (by rw [hsz]; exact hz) fun h' tk acc hk hacc => ?_)
      have hac := items_vals hacc
      have I1 : Inv X pins σ H { s with heap := h', toks := tk } := I.kept hk
      generalize hds : kvs.map (·.1) = dks at *
      have hdl : dks.length = kvs.length := by rw [← hds, List.length_map]
      have hal : acc.toList.length = dks.length := by rw [hac, List.length_map, Array.length_toList, hsz, hdl]
      refine wpAny_bind (wpAny_newList ?_ (by rw [hal, sizeLine_eq]; omega))
      have hoL : (h'.push (seqObj "list" acc.toList.toArray 0)).get? h'.objs.size = some (seqObj "list" acc.toList.toArray 0) := Heap.get?_push_size _ rfl
      have hlen : (dks.zip vs).length = dks.length := by rw [List.length_zip, h2.length]; omega
      have hb : (dks.zip vs).map (fun p => p.1.dat) = D.dats dks := by
        have hz := zip_fst h2
        rw [dats_map]
        conv => rhs; rw [← hz, List.map_map]
        rfl
      have pl : ∀ p ∈ dks.zip vs, p.1.dat.plain = true ∧ p.1.dat.depth ≤ 60 := by
        intro p hp
        have hm : p.1 ∈ dks := (List.of_mem_zip (a := p.1) (b := p.2) hp).1
        exact ⟨plain_mem c3 hm, Nat.le_trans (depth_mem hm) c4⟩
      have hrel := zip_rel h2
      have er0 : ∀ {zs : List (D × V)} {ws : List Value}, (∀ p ∈ zs, p.1.dat.plain = true ∧ RelD η ah.length H p.1 p.2) → PySem.W.EachIs (fun v p => RelV p.2 v) ws zs → PySem.W.EachIs (fun v p => ∃ as, Reads (h'.push (seqObj "list" acc.toList.toArray 0)) v p.1.dat as ∧ h'.objs.size ∉ as) ws zs := by
        intro zs ws hz he
        induction he with
        | nil => exact .nil
        | cons q _ ih =>
          refine .cons ?_ (ih fun p hp => hz p (by simp [hp]))
          obtain ⟨as, ra⟩ := Dp.reads I1 _ _ _ (RelD.dp _ _ (hz _ (by simp)).2 (hz _ (by simp)).1) q
          exact ⟨as, PyProof.Rows.Reads.keeps (fun _ _ e => Heap.get?_push_of_some _ e) ra, fun hm => Nat.lt_irrefl _ (reads_lt ra _ hm)⟩
      have e0 := each_of (R := fun v p => RelV p.2 v) (fun _ _ h => h) h2 (by rw [hac]; exact hv : Vals vs acc.toList)
      show wpAny _ _ _ _ _ { s with heap := h'.push (seqObj "list" acc.toList.toArray 0), toks := tk }
      refine wpAny_bind (wpAny_holding (PySem.W.list_sort_data (s := { s with heap := h'.push (seqObj "list" acc.toList.toArray 0), toks := tk }) (bs := dks.zip vs) (enc := fun p => p.1.dat) (R := fun v p => RelV p.2 v) hoL e0 (er0 (fun p hp => ⟨(pl p hp).1, hrel p hp⟩) e0) (by rw [hb]; exact c1) (by
        rw [hb]
        rcases c2 with c2 | c2
        · left
          intro d hd
          have := c2 d hd
          cases d with
          | tuple l => cases l with
            | nil => simp [isTup1] at this
            | cons x r => exact ⟨x, r, rfl⟩
          | _ => simp [isTup1] at this
        · right
          intro d hd
          have := c2 d hd
          refine ⟨fun z => by subst z; simp [noTup] at this, fun xs z => by subst z; simp [noTup] at this⟩) (by rw [hlen, sizeLine_eq]; exact c5) (fun p hp => by
        have := (pl p hp).2
        show X.A.units + 1 + 1 + p.1.dat.depth < cLine
        omega) fun out ho eo => ?_))
      obtain ⟨e', he'⟩ := PyProof.Rows.sortedHeap_at (vs := acc.toList) (out := List.toArray out) hoL
      generalize hps : (dks.zip vs).mergeSort (PySem.W.dataLe false fun p => p.1.dat) = ps at eo
      have hperm : ∀ p ∈ ps, p ∈ dks.zip vs := fun p hp => by rw [← hps] at hp; exact List.mem_mergeSort.mp hp
      have hD : ps.map (·.1) = sortD dks := by
        rw [← hps, List.map_mergeSort (s := leD2) (f := fun p : D × V => p.1) (fun a _ b _ => by rfl), zip_fst h2]
        rfl
      have hvl := vals_each eo
      have hlo : (ps.map (·.2)).length ≤ sizeLine := by
        have : ps.length = dks.length := by rw [← hps, List.length_mergeSort, hlen]
        rw [List.length_map, this, sizeLine_eq]
        exact c5
      refine wpAny_pure ⟨_, rfl, .ref h'.objs.size, upd H h'.objs.size (.lst (ps.map (·.2))), I1.laid (t' := tk) (fun b u e => ?_) (Nat.le_refl _)
        (show ObjOk X.prog X.w _ _ _ (.lst (ps.map (·.2))) from ⟨hlo, out, e', hvl, he'⟩), rfl, ?_⟩
      · have hb : b < h'.objs.size := Heap.lt_size e
        rw [PyProof.Rows.sortedHeap_old (Nat.ne_of_lt hb) (by rw [size_push']; exact Nat.lt_succ_of_lt hb)]
        exact Heap.get?_push_of_some _ e
      · have hrr := rel_unzip (η := η) (N := ah.length) (H := H) (ps := ps) fun p hp => hrel p (hperm p hp)
        rw [hD] at hrr
        exact a.lst hh hrr (I1.hok.fresh (Nat.le_refl _))
    · exact a.none.elim
  · exact a.none.elim
theorem callr_or {id : Value} {o1 o2 : OpL} (h1 : CallR X id (rDL X.K X.mg o1)) (h2 : CallR X id (rDL X.K X.mg o2)) : CallR X id (rDL X.K X.mg fun ds h => match o1 ds h with
  | some r => some r
  | none => o2 ds h) := by
  intro pins s σ H xs us Q I r ⟨η, ah, ds, hh, rd, a⟩
  cases e : o1 ds ah with
  | some x => simp only [e] at a; exact h1 pins s σ H xs us Q I r ⟨η, ah, ds, hh, rd, by rw [e]; exact a⟩
  | none => simp only [e] at a; exact h2 pins s σ H xs us Q I r ⟨η, ah, ds, hh, rd, a⟩
theorem callr_sortedE (hc : X.calm = true) (hu : X.A.units + 64 < cLine) : CallR X (.builtin "sorted") (rDL X.K X.mg sortedE) := callr_or (callr_sorted hu) (callr_sortedDL hc hu)
end
end DL


set_option maxRecDepth 100000
namespace DL
open PySem PySem.Spec PyProof.Rows L2

/-! ## dict(list of pairs) -/
def pairsOf : List D → Option (List (D × D))
  | [] => some []
  | .tup [k, v] :: r => (pairsOf r).map ((k, v) :: ·)
  | _ :: _ => none
def mergeD (acc more : List (D × D)) : List (D × D) := more.foldl (fun a p => putD a p.1 p.2) acc
def dctO (t : Bool) (kvs : List (D × D)) : O := if t = true then .dcT kvs else .dct kvs
def dictL (t : Bool) : OpL := fun ds h => match ds with
  | [.ref n] => match h[n]? with
    | some (.lst ds) => match pairsOf ds with
      | some kvs => if kvs.all (fun p => keyAs t p.1) = true ∧ ds.length ≤ 1000000 then some (.ref h.length, h ++ [dctO t (mergeD [] kvs)]) else none
      | none => none
    | _ => none
  | _ => none
section
variable {prog : Program} {w : World} {A : Around} {E : Value → Shared → Prop}
theorem isTK_at {knd : KeyKind prog w Key} {h h' : Heap} {k : List Key} {a : Addr} (x : (tupleKind knd).is h k a) (e : ∀ o, h.get? a = some o → h'.get? a = some o) : (tupleKind knd).is h' k a := by
  obtain ⟨o, its, n, h1, h2, h3, h4⟩ := x
  exact ⟨o, its, n, e _ h1, h2, h3, h4⟩
theorem dictH_ext {knd : KeyKind prog w Key} {h h' : Heap} {S I : Addr} {acc : List (List Key × Addr × Value)} {oI : Obj} (x : h.DictOfH (tupleKind knd) S acc) (e : ∀ b o, b ≠ I → h.get? b = some o → h'.get? b = some o) (hSI : S ≠ I) (hI : h.get? I = some oI) (hc : oI.cls ≠ .type "tuple") : h'.DictOfH (tupleKind knd) S acc := by
  obtain ⟨o, es, ep, ho, hx, hd, he, his, hn⟩ := x
  refine ⟨o, es, ep, e _ _ hSI ho, hx, hd, he, fun y hy => ?_, hn⟩
  have hk := his y hy
  refine isTK_at hk fun o' e' => e _ _ (fun z => ?_) e'
  obtain ⟨o2, its, n, h1, h2, h3, h4⟩ := hk
  rw [z, hI] at h1
  cases h1
  exact hc h2
def mergedH (acc : List (List Key × Addr × Value)) (more : List (List Key × Addr × Value)) : List (List Key × Addr × Value) := more.foldl (fun a q => storedH a q.1 q.2.1 q.2.2) acc
theorem storedH_le (xs : List (List Key × Addr × Value)) (k : List Key) (a : Addr) (v : Value) : (storedH xs k a v).length ≤ xs.length + 1 := by
  unfold storedH
  split <;> simp
/-- the walk over the pairs, keys tuples -/
theorem updT_loop {R : Result → Shared → Prop} {S I l : Addr} {items : Array Value} {res : Value} (hu : A.in1.units < cLine) (hh : A.handled = none) (hlI : l ≠ I) (hSI : S ≠ I) (hSl : S ≠ l) :
    ∀ (rest : List (List Key × Addr × Value)) (i : Nat) (acc : List (List Key × Addr × Value)) (ix : Int) (t : Tok) (s : Shared), items.size = i + rest.length → acc.length + rest.length ≤ sizeLine →
      (∀ (j : Nat) (q : List Key × Addr × Value), rest[j]? = some q → ∃ (b : Addr), items[i + j]? = some (.ref b) ∧ b ≠ S ∧ b ≠ I ∧ q.2.1 ≠ S ∧ q.2.1 ≠ I ∧ IsTup s.heap b #[.ref q.2.1, q.2.2] ∧ (tupleKind (mixKind prog w)).is s.heap q.1 q.2.1) →
      s.heap.IsListIter I l i → s.heap.IsList l items → s.heap.DictOfH (tupleKind (mixKind prog w)) S acc →
      (∀ h' tk, h'.DictOfH (tupleKind (mixKind prog w)) S (mergedH acc rest) → (∀ b o, b ≠ S → b ≠ I → s.heap.get? b = some o → h'.get? b = some o) → R (.ok (.ret res)) { s with heap := h', toks := tk }) →
      codeAny (model prog w) A (.builtin "dict.update.loop" ⟨[.ref S, .ref I, .int ix t, res], []⟩) R s
  | [], i, acc, ix, t, s, hsz, hln, ht, hit, hl, hm, hR => by
    obtain ⟨oI, hoI, hcI, _⟩ := id hit
    refine codeAny_builtin ud_entry ?_
    rw [Around.under_plainId ud_plain _]
    show wpAny _ A.in1 (pyNext (.ref I) >>= _) _ _ s
    refine wpAny_bind (wpAny_pyNext_list_end (A := A.in1) hh hit hl (by first | exact Array.getElem?_eq_none (Nat.le_of_eq hsz) | (simp at hsz; simp; omega)) fun h' he => ?_)
    show wpAny _ A.in1 (Builtin.Dict.addKeywords S [] >>= _) _ _ _
    refine wpAny_bind (wpAny_pure (wpAny_pure ?_))
    exact hR h' s.toks (dictH_ext hm he hSI hoI (by rw [hcI]; decide)) fun b o _ hb e => he b o hb e
  | q :: rest, i, acc, ix, t, s, hsz, hln, ht, hit, hl, hm, hR => by
    obtain ⟨b, hb, hbS, hbI, hcS, hcI, htup, hk⟩ := ht 0 q rfl
    obtain ⟨oI, hoI, hclI, _⟩ := id hit
    rw [List.length_cons] at hsz hln
    refine codeAny_builtin ud_entry ?_
    rw [Around.under_plainId ud_plain _]
    show wpAny _ A.in1 (pyNext (.ref I) >>= _) _ _ s
    refine wpAny_bind (wpAny_pyNext_list_item (x := .ref b) hit hl (by simpa using hb) fun h1 hit1 hs1 => ?_)
    have ht1 : IsTup h1 b #[.ref q.2.1, q.2.2] := htup.extBut hs1.extBut hbI
    have hk1 : (tupleKind (mixKind prog w)).is h1 q.1 q.2.1 := isTK_at hk fun o e => hs1.extBut _ _ hcI e
    have hl1 : h1.IsList l items := hl.extBut hs1.extBut hlI
    have hm1 : h1.DictOfH (tupleKind (mixKind prog w)) S acc := dictH_ext hm hs1.extBut hSI hoI (by rw [hclI]; decide)
    obtain ⟨o, ho, hc, n, hd⟩ := id ht1
    show wpAny _ A.in1 (holding [Value.ref b] _ >>= _) _ _ _
    refine wpAny_bind (wpAny_holding ?_)
    refine wpAny_bind (wpAny_tryCatch ?_)
    unfold Builtin.Dict.pairItems
    refine wpAny_bind (wpAny_typeOf (T := "tuple") ⟨o, ho, hc⟩ ?_)
    rw [if_pos (by first | decide | rfl | simp)]
    refine wpAny_bind (wpAny_seqItems ho hd (wpAny_pure ?_))
    show wpAny _ A.in1 (holding [.ref q.2.1, q.2.2] (dictSet S (.ref q.2.1) q.2.2)) _ _ _
    refine wpAny_holding (wpAny_dictSet_heap (knd := tupleKind (mixKind prog w)) (k := q.1) hu hk1 hm1 (fun h2 hm2 hs2 => ?_) (by omega))
    refine wpAny_pure ⟨plainId_quiet ud_plain _, updT_loop (items := items) hu hh hlI hSI hSl rest (i + 1) (storedH acc q.1 q.2.1 q.2.2) (ix + 1) 0 _ (show items.size = i + 1 + rest.length by omega) ?_ (fun j q' e => ?_) ?_ ?_ hm2 fun h' tk hd' k => ?_⟩
    · have z := storedH_le acc q.1 q.2.1 q.2.2
      omega
    · obtain ⟨b', hb', hbS', hbI', hcS', hcI', htup', hk'⟩ := ht (j + 1) q' (by simpa using e)
      refine ⟨b', ?_, hbS', hbI', hcS', hcI', (htup'.extBut hs1.extBut hbI').extBut hs2.extBut hbS', isTK_at hk' fun o e => hs2.extBut _ _ hcS' (hs1.extBut _ _ hcI' e)⟩
      rw [show i + 1 + j = i + (j + 1) by omega]
      exact hb'
    · exact hit1.at fun o' e => hs2.extBut I o' (Ne.symm hSI) e
    · exact hl1.extBut hs2.extBut (Ne.symm hSl)
    · exact hR h' tk hd' fun c oc h3 h4 e => k c oc h3 h4 (hs2.extBut c oc h3 (hs1.extBut c oc h4 e))
/-- dict(l) of a list of pairs, keys tuples -/
theorem call_dict_pairsT {s : Shared} {l : Addr} {ol : Obj} {items : Array Value} {n : Nat} {prs : List (List Key × Addr × Value)} {Q : Value → Shared → Prop} (hu : A.in1.in1.units < cLine) (hh : A.handled = none) (hl : s.heap.get? l = some ol) (hc : ol.cls = .type "list") (hd : ol.dict = none)
    (hdat : ol.data = .seq items n) (hsz : items.size = prs.length) (hln : prs.length ≤ sizeLine)
    (ht : ∀ (j : Nat) (q : List Key × Addr × Value), prs[j]? = some q → ∃ (b : Addr), items[j]? = some (.ref b) ∧ IsTup s.heap b #[.ref q.2.1, q.2.2] ∧ (tupleKind (mixKind prog w)).is s.heap q.1 q.2.1)
    (h : ∀ h' tk, h'.DictOfH (tupleKind (mixKind prog w)) s.heap.objs.size (mergedH [] prs) → (∀ b o, s.heap.get? b = some o → h'.get? b = some o) → Q (.ref s.heap.objs.size) { s with heap := h', toks := tk }) :
    wpAny (model prog w) A (call (.type "dict") [.ref l]) Q E s := by
  refine callType_codes (Q₁ := fun obj s₁ => obj = .ref s.heap.objs.size ∧ s₁ = { s with heap := s.heap.push { cls := .type "dict", data := .dict #[] } }) PySem.F.kt_called_dict (PySem.F.kt_typeCall_dict_1 _) PySem.F.entry_dict_init (kt_code_dict_new _ ⟨rfl, rfl⟩) ?_
  rintro obj s₁ ⟨rfl, rfl⟩
  have hnew0 : (s.heap.push { cls := .type "dict", data := .dict #[] }).DictOf (mixKind prog w) s.heap.objs.size [] := Heap.DictOf.new s.heap
  have hnew : (s.heap.push { cls := .type "dict", data := .dict #[] }).DictOfH (tupleKind (mixKind prog w)) s.heap.objs.size [] :=
    ⟨_, #[], 0, Heap.get?_push_size _ rfl, ⟨rfl, rfl, rfl⟩, rfl, rfl, (fun x hx => by simp at hx), List.nodup_nil⟩
  have k0 : ∀ b o, s.heap.get? b = some o → (s.heap.push { cls := .type "dict", data := .dict #[] }).get? b = some o := fun b o e => Heap.get?_push_of_some _ e
  refine ⟨hnew0.typeIs, PySem.F.args_dict_init_2 _ _, ?_⟩
  unfold Builtin.«dict.__init__»
  refine wpAny_bind ?_
  unfold Builtin.Dict.selfAndRest
  refine wpAny_bind (wpAny_notOrdered_dict hnew0.typeIs ?_)
  show wpAny _ _ (pure (s.heap.objs.size, [Value.ref l])) _ _ _
  refine wpAny_pure ?_
  show wpAny _ _ (Builtin.Dict.updateFrom "dict.__init__" s.heap.objs.size (.ref l) [] .none) _ _ _
  unfold Builtin.Dict.updateFrom
  refine wpAny_bind (wpAny_typeOf (T := "list") ⟨ol, k0 _ _ hl, hc⟩ ?_)
  rw [if_pos (by first | decide | rfl | simp)]
  refine wpAny_bind (miss_list (k0 _ _ hl) hc hdat hd hh fun h1 tk1 hk1 => ?_)
  rw [if_pos (show (none : Option Value).isNone = true from rfl)]
  refine wpAny_bind (wpAny_rule ?_)
  have hl1 : h1.IsList l items := ⟨ol, hk1 _ _ (k0 _ _ hl), hc, n, hdat⟩
  have hS1 : s.heap.objs.size < h1.objs.size := by
    have e : (s.heap.push { cls := .type "dict", data := .dict #[] }).get? s.heap.objs.size = some { cls := .type "dict", data := .dict #[] } := Heap.get?_push_size _ rfl
    exact Heap.lt_size (hk1 _ _ e)
  refine wpAny_bind (wpAny_pyIter_list hl1 ?_)
  have k2 : ∀ b o, h1.get? b = some o → (h1.push { cls := .type "list_iterator", data := .fields #[.ref l, .int 0 0] }).get? b = some o := fun b o e => Heap.get?_push_of_some _ e
  have hlt : l < s.heap.objs.size := Heap.lt_size hl
  have kall : ∀ b o, (s.heap.push { cls := .type "dict", data := .dict #[] }).get? b = some o → (h1.push { cls := .type "list_iterator", data := .fields #[.ref l, .int 0 0] }).get? b = some o := fun b o e => k2 _ _ (hk1 _ _ e)
  have key := updT_loop (prog := prog) (w := w) (A := A.in1) (R := wants (fun r s₂ => r = .none ∧ Q (.ref s.heap.objs.size) s₂) E) (S := s.heap.objs.size) (I := h1.objs.size) (l := l) (items := items) (res := Value.none) hu hh
    (Nat.ne_of_lt (Nat.lt_trans hlt hS1)) (Nat.ne_of_lt hS1) (Nat.ne_of_gt hlt) prs 0 [] 0 0
    { s with heap := h1.push { cls := .type "list_iterator", data := .fields #[.ref l, .int 0 0] }, toks := tk1 } (by rw [hsz, Nat.zero_add]) (by rw [List.length_nil, Nat.zero_add]; exact hln)
    (fun j q e => by
      obtain ⟨b, e1, e2, e3⟩ := ht j q e
      have hb : b < s.heap.objs.size := e2.lt
      have hcl : q.2.1 < s.heap.objs.size := by
        obtain ⟨o, _, _, h1, _⟩ := id e3
        exact Heap.lt_size h1
      exact ⟨b, by rw [Nat.zero_add]; exact e1, Nat.ne_of_lt hb, Nat.ne_of_lt (Nat.lt_trans hb hS1), Nat.ne_of_lt hcl, Nat.ne_of_lt (Nat.lt_trans hcl hS1), e2.keeps fun c o z => kall _ _ (k0 _ _ z), isTK_at e3 fun o z => kall _ _ (k0 _ _ z)⟩)
    ⟨_, Heap.get?_push_size _ rfl, rfl, rfl⟩ (hl1.at fun o e => k2 _ _ e) (by
      obtain ⟨o, es, ep, g1, g2, g3, g4, g5, g6⟩ := hnew
      exact ⟨o, es, ep, kall _ _ g1, g2, g3, g4, fun x hx => isTK_at (g5 x hx) fun o e => kall _ _ e, g6⟩)
    (fun h' tk hd' k => ⟨rfl, h h' tk hd' fun b o e => k b o (Nat.ne_of_lt (Heap.lt_size e)) (Nat.ne_of_lt (Nat.lt_trans (Heap.lt_size e) hS1)) (kall _ _ (k0 _ _ e))⟩)
  first
    | exact wpAny_pure ⟨plainId_quiet ud_plain _, key⟩
    | exact wpAny_bind (wpAny_pure (wpAny_pure ⟨plainId_quiet ud_plain _, key⟩))
end
section
variable {X : Cx} {η : Nat → Addr} {N : Nat} {H : Hp}
/-- the pairs' tuples, and what stands in them -/
theorem pairs_rel : ∀ {ds : List D} {kvs : List (D × D)} {vs : List V}, pairsOf ds = some kvs → RelDs η N H ds vs → ∃ (ps : List Addr) (kv : List (V × V)), vs = ps.map V.ref ∧ Paired (fun p q => ∃ b, TupAt H p [q.1, q.2] b) ps kv ∧ Paired (fun (d : D × D) (q : V × V) => RelD η N H d.1 q.1 ∧ RelD η N H d.2 q.2) kvs kv
  | [], kvs, vs, e, r => by
    cases e
    rw [show vs = [] from r]
    exact ⟨[], [], rfl, .nil, .nil⟩
  | .tup [k, v] :: ds, kvs, vs, e, r => by
    simp only [pairsOf, Option.map_eq_some_iff] at e
    obtain ⟨kvs', e1, rfl⟩ := e
    obtain ⟨x, vs', rfl, r1, r2⟩ := r
    obtain ⟨a, ws, rfl, h1, y, ws1, rfl, r3, z, ws2, rfl, r4, r5⟩ := r1
    rw [show ws2 = [] from r5] at h1
    obtain ⟨ps, kv, rfl, p1, p2⟩ := pairs_rel e1 r2
    exact ⟨a :: ps, (y, z) :: kv, rfl, .cons ⟨_, h1⟩ p1, .cons ⟨r3, r4⟩ p2⟩
  | .non :: _, _, _, e, _ => by simp [pairsOf] at e
  | .bl _ :: _, _, _, e, _ => by simp [pairsOf] at e
  | .int _ :: _, _, _, e, _ => by simp [pairsOf] at e
  | .str _ :: _, _, _, e, _ => by simp [pairsOf] at e
  | .ref _ :: _, _, _, e, _ => by simp [pairsOf] at e
  | .tup [] :: _, _, _, e, _ => by simp [pairsOf] at e
  | .tup [_] :: _, _, _, e, _ => by simp [pairsOf] at e
  | .tup (_ :: _ :: _ :: _) :: _, _, _, e, _ => by simp [pairsOf] at e
theorem mergeD_len (more acc : List (D × D)) : (mergeD acc more).length ≤ acc.length + more.length := by
  induction more generalizing acc with
  | nil => exact Nat.le_refl _
  | cons p more ih =>
    have := ih (putD acc p.1 p.2)
    have h2 : (putD acc p.1 p.2).length ≤ acc.length + 1 := by unfold putD; split <;> simp
    show (mergeD (putD acc p.1 p.2) more).length ≤ _
    rw [List.length_cons]
    omega
theorem relK_merge : ∀ {kvs : List (D × D)} {kv : List (V × V)} {acc : List (D × D)} {ak : List (Key × V)}, Paired (fun (d : D × D) (q : V × V) => RelD η N H d.1 q.1 ∧ RelD η N H d.2 q.2) kvs kv → kvs.all (fun p => keyAs false p.1) = true → RelK η N H acc ak →
    ∃ ks : List (Key × V), kv = ks.map (fun q => (kV q.1, q.2)) ∧ RelK η N H (mergeD acc kvs) (mergeK ak ks)
  | [], _, acc, ak, .nil, _, r => ⟨[], rfl, r⟩
  | p :: kvs, _, acc, ak, .cons h t, ha, r => by
    simp only [List.all_cons, Bool.and_eq_true] at ha
    obtain ⟨q, hq⟩ := Option.isSome_iff_exists.mp ha.1
    have e1 := dkey_rel hq h.1
    obtain ⟨ks, e, r2⟩ := relK_merge t ha.2 (relK_put hq h.1 h.2 r)
    exact ⟨(q, _) :: ks, by rw [List.map_cons, ← e, ← e1], r2⟩
theorem AnsP.dct {K : PySem.W.Frag} {mg : Str → Option Value} {ah : AH} {o : O} {u : HO} {p : Addr} {Q : VK} (h : AnsP K mg η ah.length H (some (.ref ah.length, ah ++ [o])) Q) (hh : RelH K mg η ah H) (hp : H p = Option.none)
    (ho : RelO K mg (etaN η ah.length p) (ah.length + 1) (upd H p u) p o) (hs : isScr o = false) : Q (.ref p) (upd H p u) := by
  obtain ⟨d, h', e, q⟩ := h
  cases e
  have el : (ah ++ [o]).length = ah.length + 1 := by simp
  exact q (etaN η ah.length p) (.ref p) _ (by rw [el]; exact ext_new hp) (relH_new hh hp hs ho) ⟨by rw [el]; exact Nat.lt_succ_self _, by rw [etaN_at]⟩
theorem callr_dictK (hc : X.calm = true) : CallR X (.type "dict") (rDL X.K X.mg (dictL false)) := by
  intro pins s σ H xs us Q I r ⟨η, ah, ds, hh, rd, a⟩
  unfold dictL at a
  split at a
  · rename_i n
    obtain ⟨v, r', rfl, ⟨hn, rfl⟩, rfl⟩ := rd
    split at a
    · rename_i ds e
      split at a
      · rename_i kvs ep
        obtain ⟨c, a⟩ := a.ite
        obtain ⟨vs, h1, h2⟩ := hh.obj n _ e
        obtain ⟨ps, kv, rfl, p1, p2⟩ := pairs_rel ep h2
        obtain ⟨ks, rfl, rm⟩ := relK_merge p2 c.1 (show RelK η ah.length H [] [] from rfl)
        refine call_dictP hc pins s σ H _ us Q I r ⟨η n, ps, ks, rfl, .of h1, ?_, fun p hp => ?_⟩
        · have : ∀ {ps : List Addr} {ks : List (Key × V)}, Paired (fun p q => ∃ b, TupAt H p [q.1, q.2] b) ps (ks.map fun q => (kV q.1, q.2)) → Paired (fun p kv => SqT X.K H p [kV kv.1, kv.2]) ps ks := by
            intro ps
            induction ps with
            | nil => intro ks h; cases ks with
              | nil => exact .nil
              | cons k ks => cases h
            | cons p ps ih => intro ks h; cases ks with
              | nil => cases h
              | cons k ks => cases h with
                | cons a b => obtain ⟨_, a⟩ := a; exact .cons a.sq (ih b)
          exact this p1
        · exact a.dct hh hp (ho := ⟨_, upd_same, rm.ext (ext_new hp)⟩) rfl
      · exact a.none.elim
    · exact a.none.elim
  · exact a.none.elim
/-- the pairs of a list with tuple keys, as the object holds them -/
theorem pairsT_of {pins : List (Addr × Obj)} {σ : L2.St} {s : Shared} (I : Inv X pins σ H s) : ∀ {ps : List Addr} {kv : List (V × V)} {kvs : List (D × D)} {acc : List (D × D)} {ak : List (List Key × V)} {ah : List (List Key × Addr × Value)}, Paired (fun p q => ∃ b, TupAt H p [q.1, q.2] b) ps kv → Paired (fun (d : D × D) (q : V × V) => RelD η N H d.1 q.1 ∧ RelD η N H d.2 q.2) kvs kv → kvs.all (fun p => keyAs true p.1) = true → RelT η N H acc ak → KT H ak ah →
    ∃ (prs : List (List Key × Addr × Value)) (ks : List (List Key × V)), prs.length = ps.length ∧ RelT η N H (mergeD acc kvs) ks ∧ KT H ks (mergedH ah prs) ∧
      ∀ (j : Nat) (q : List Key × Addr × Value), prs[j]? = some q → ∃ (b : Addr), ps[j]? = some b ∧ IsTup s.heap b #[.ref q.2.1, q.2.2] ∧ (tupleKind (mixKind X.prog X.w)).is s.heap q.1 q.2.1
  | _, _, _, acc, ak, ah, .nil, .nil, _, r, k => ⟨[], ak, rfl, r, k, fun j q e => by simp at e⟩
  | p :: ps, q :: kv, d :: kvs, acc, ak, ah, .cons h t, .cons h2 t2, ha, r, k => by
    simp only [List.all_cons, Bool.and_eq_true] at ha
    obtain ⟨ha1, ha2⟩ := ha
    obtain ⟨dk, dv⟩ := d
    obtain ⟨qk, qv⟩ := q
    cases dk with
    | tup ds =>
      obtain ⟨hk1, hk2⟩ := keyAs_T ha1
      obtain ⟨ks1, hks⟩ := Option.isSome_iff_exists.mp hk1
      obtain ⟨_, h⟩ := h
      obtain ⟨r1, r2⟩ := h2
      obtain ⟨a, vs, rfl, e1, e2⟩ := r1
      have hvs := dkeys_rel hks e2
      subst hvs
      have e1 := e1.2 hk2
      obtain ⟨its, rv, ht, _⟩ := I.tuple h.sq
      obtain ⟨u, y, ei, ru, ry⟩ := vals2 rv
      subst ei
      cases (show u = Value.ref a from ru)
      obtain ⟨prs, ks, l1, l2, l3, l4⟩ := pairsT_of I t t2 ha2 (relT_put hks hk2 r2 r) (KT.put k ks1 e1 ry)
      refine ⟨(ks1, a, y) :: prs, ks, by simp [l1], l2, l3, fun j q e => ?_⟩
      cases j with
      | zero =>
        cases (show (ks1, a, y) = q from Option.some.inj e)
        exact ⟨p, rfl, ht, key_of I.hok e1⟩
      | succ j => simpa using l4 j q (by simpa using e)
    | _ => simp [keyAs] at ha1
theorem callr_dictT (hc : X.calm = true) (hu : X.A.units + 64 < cLine) : CallR X (.type "dict") (rDL X.K X.mg (dictL true)) := by
  intro pins s σ H xs us Q I r ⟨η, ah, ds, hh, rd, a⟩
  unfold dictL at a
  split at a
  · rename_i n
    obtain ⟨v, r', rfl, ⟨hn, rfl⟩, rfl⟩ := rd
    split at a
    · rename_i ds e
      split at a
      · rename_i kvs ep
        obtain ⟨c, a⟩ := a.ite
        obtain ⟨vs, h1, h2⟩ := hh.obj n _ e
        obtain ⟨ps, kv, rfl, p1, p2⟩ := pairs_rel ep h2
        obtain ⟨prs, ks, l1, l2, l3, l4⟩ := pairsT_of I p1 p2 c.1 (show RelT η ah.length H [] [] from rfl) (show KT H [] [] from .nil)
        rw [Vals.ref1 r]
        obtain ⟨its, rv, pl, hz⟩ := I.list (.of h1)
        have ei := refs_at rv
        subst ei
        obtain ⟨o, nn, ho, hcl, hd, hdat⟩ := pl
        have hpl : ps.length ≤ 1000000 := by
          have h3 := h2.length
          rw [List.length_map] at h3
          omega
        refine call_dict_pairsT (prs := prs) (show X.A.units + 1 + 1 < cLine by omega) (I.ok.hd hc) ho hcl hd hdat (by simp [l1]) (by rw [l1, sizeLine_eq]; omega) (fun j q' e => ?_) fun h' tk hd' k => ?_
        · obtain ⟨b, e1, e2, e3⟩ := l4 j q' e
          exact ⟨b, by simp [e1], e2, e3⟩
        · have hm : (s.heap.objs.size == sysModules) = false := beq_eq_false_iff_ne.mpr (Nat.ne_of_gt I.big)
          have hn0 : H s.heap.objs.size = none := I.hok.fresh (Nat.le_refl _)
          have hlen : ks.length ≤ sizeLine := by
            have h3 := mergeD_len kvs []
            have h4 := l2.length
            have h5 : kvs.length ≤ 1000000 := by
              have h6 : kvs.length = kv.length := Paired.length p2
              have h7 : ps.length = kv.length := Paired.length p1
              omega
            rw [List.length_nil, Nat.zero_add] at h3
            rw [sizeLine_eq]
            omega
          obtain ⟨q, es, epp, hq, g2, g3, g4, _, g5⟩ := hd'
          refine ⟨.ref s.heap.objs.size, upd H s.heap.objs.size (.dT ks), I.laid (t' := tk) k (Nat.le_refl _) (show ObjOk X.prog X.w _ _ _ (.dT ks) from ⟨hlen, hm, _, l3.keeps fun c ys ec => ?_, q, es, epp, hq, g2, g3, g4, g5⟩), rfl, ?_⟩
          · rw [upd_ne (ne_of_none ec hn0)]; exact ec
          · exact a.dct hh hn0 (ho := ⟨_, upd_same, l2.ext (ext_new hn0)⟩) rfl
      · exact a.none.elim
    · exact a.none.elim
  · exact a.none.elim
end
end DL


set_option maxRecDepth 100000
namespace DL
open PySem PySem.Spec PyProof.Rows L2

/-! ## dict(tuple of pairs) -/
theorem tup_keys_none : typeLookup (.type "tuple") "keys" = pure none := am_miss_of_fast (by first | decide +kernel | rfl)
section
variable {prog : Program} {w : World} {A : Around} {E : Value → Shared → Prop}
theorem miss_tup {s : Shared} {a : Addr} {o : Obj} {xs : Array Value} {k : Nat} {Q : Option Value → Shared → Prop} (hx : s.heap.get? a = some o) (hc : o.cls = .type "tuple") (hdat : o.data = .seq xs k) (hd : o.dict = none) (hA : A.handled = none)
    (h : ∀ h' tk, (∀ b ob, s.heap.get? b = some ob → h'.get? b = some ob) → Q none { s with heap := h', toks := tk }) : wpAny (model prog w) A (getAttr? (.ref a) "keys") Q E s := by
  obtain ⟨c, dct, dat, sl⟩ := o
  simp only at hc hdat hd
  subst hc hdat hd
  obtain ⟨hp, g, d, tk, os⟩ := s
  have hT : ∀ tk', (⟨hp, g, d, tk', os⟩ : Shared).TypeIs (.ref a) "tuple" := fun _ => ⟨_, hx, rfl⟩
  have hmiss := tup_keys_none
  have hname : (["__module__", "__name__", "__qualname__", "__doc__", "__annotations__"] : List Str).contains "keys" = false := by decide +kernel
  have hsz : ("keys" : Str).length + 100 ≤ sizeLine := by first | size_fits | decide +kernel
  have f1 := sub_AttributeError
  have f3 := PySem.F.slot_tuple_getattribute.lookup
  have f4 := PySem.F.slot_tuple_getattribute.bind (.ref a)
  have f5 := am_tuple_getattr_none
  unfold getAttr? getAttrBy? getAttrBy
  repeat (any_goals (first | assumption | exact hT _ | ((with_reducible show wpAny _ _ (call (Value.builtin "tuple.__getattribute__") _ _) _ _ _); refine call_meets PySem.F.slot_tuple_getattribute (hT _) am_entry_tuple_getattribute (PySem.F.args_tuple_getattribute_2 _ _) (meets_getattribute_miss_tuple a xs k sl "keys" _ hmiss hname hsz) ⟨hx, hA, fun h' tk' e hx' => ?_⟩) | wp_step))
  obtain ⟨t', u', he⟩ := hx'.there
  show wpAny _ _ (getattributeRaised _ _ _ _ _ _ _) _ _ _
  unfold getattributeRaised
  repeat (any_goals (first | assumption | wp_step))
  all_goals first | exact h _ _ hx'.keeps | (dsimp only; repeat (any_goals (first | assumption | exact h _ _ hx'.keeps | wp_step)))
/-- the walk over the pairs, keys tuples -/
theorem updT_loopU {R : Result → Shared → Prop} {S I l : Addr} {items : Array Value} {res : Value} (hu : A.in1.units < cLine) (hh : A.handled = none) (hlI : l ≠ I) (hSI : S ≠ I) (hSl : S ≠ l) :
    ∀ (rest : List (List Key × Addr × Value)) (i : Nat) (acc : List (List Key × Addr × Value)) (ix : Int) (t : Tok) (s : Shared), items.size = i + rest.length → acc.length + rest.length ≤ sizeLine →
      (∀ (j : Nat) (q : List Key × Addr × Value), rest[j]? = some q → ∃ (b : Addr), items[i + j]? = some (.ref b) ∧ b ≠ S ∧ b ≠ I ∧ q.2.1 ≠ S ∧ q.2.1 ≠ I ∧ IsTup s.heap b #[.ref q.2.1, q.2.2] ∧ (tupleKind (mixKind prog w)).is s.heap q.1 q.2.1) →
      s.heap.IsTupleIter I l i → s.heap.IsTuple l items → s.heap.DictOfH (tupleKind (mixKind prog w)) S acc →
      (∀ h' tk, h'.DictOfH (tupleKind (mixKind prog w)) S (mergedH acc rest) → (∀ b o, b ≠ S → b ≠ I → s.heap.get? b = some o → h'.get? b = some o) → R (.ok (.ret res)) { s with heap := h', toks := tk }) →
      codeAny (model prog w) A (.builtin "dict.update.loop" ⟨[.ref S, .ref I, .int ix t, res], []⟩) R s
  | [], i, acc, ix, t, s, hsz, hln, ht, hit, hl, hm, hR => by
    obtain ⟨oI, hoI, hcI, _⟩ := id hit
    refine codeAny_builtin ud_entry ?_
    rw [Around.under_plainId ud_plain _]
    show wpAny _ A.in1 (pyNext (.ref I) >>= _) _ _ s
    refine wpAny_bind (wpAny_pyNext_tuple_end (A := A.in1) hh hit hl (by first | exact Array.getElem?_eq_none (Nat.le_of_eq hsz) | (simp at hsz; simp; omega)) fun h' he => ?_)
    show wpAny _ A.in1 (Builtin.Dict.addKeywords S [] >>= _) _ _ _
    refine wpAny_bind (wpAny_pure (wpAny_pure ?_))
    exact hR h' s.toks (dictH_ext hm he hSI hoI (by rw [hcI]; decide)) fun b o _ hb e => he b o hb e
  | q :: rest, i, acc, ix, t, s, hsz, hln, ht, hit, hl, hm, hR => by
    obtain ⟨b, hb, hbS, hbI, hcS, hcI, htup, hk⟩ := ht 0 q rfl
    obtain ⟨oI, hoI, hclI, _⟩ := id hit
    rw [List.length_cons] at hsz hln
    refine codeAny_builtin ud_entry ?_
    rw [Around.under_plainId ud_plain _]
    show wpAny _ A.in1 (pyNext (.ref I) >>= _) _ _ s
    refine wpAny_bind (wpAny_pyNext_tuple_item (x := .ref b) hit hl (by simpa using hb) fun h1 hit1 hs1 => ?_)
    have ht1 : IsTup h1 b #[.ref q.2.1, q.2.2] := htup.extBut hs1.extBut hbI
    have hk1 : (tupleKind (mixKind prog w)).is h1 q.1 q.2.1 := isTK_at hk fun o e => hs1.extBut _ _ hcI e
    have hl1 : h1.IsTuple l items := Heap.IsTuple.extBut hl hs1.extBut hlI
    have hm1 : h1.DictOfH (tupleKind (mixKind prog w)) S acc := dictH_ext hm hs1.extBut hSI hoI (by rw [hclI]; decide)
    obtain ⟨o, ho, hc, n, hd⟩ := id ht1
    show wpAny _ A.in1 (holding [Value.ref b] _ >>= _) _ _ _
    refine wpAny_bind (wpAny_holding ?_)
    refine wpAny_bind (wpAny_tryCatch ?_)
    unfold Builtin.Dict.pairItems
    refine wpAny_bind (wpAny_typeOf (T := "tuple") ⟨o, ho, hc⟩ ?_)
    rw [if_pos (by first | decide | rfl | simp)]
    refine wpAny_bind (wpAny_seqItems ho hd (wpAny_pure ?_))
    show wpAny _ A.in1 (holding [.ref q.2.1, q.2.2] (dictSet S (.ref q.2.1) q.2.2)) _ _ _
    refine wpAny_holding (wpAny_dictSet_heap (knd := tupleKind (mixKind prog w)) (k := q.1) hu hk1 hm1 (fun h2 hm2 hs2 => ?_) (by omega))
    refine wpAny_pure ⟨plainId_quiet ud_plain _, updT_loopU (items := items) hu hh hlI hSI hSl rest (i + 1) (storedH acc q.1 q.2.1 q.2.2) (ix + 1) 0 _ (show items.size = i + 1 + rest.length by omega) ?_ (fun j q' e => ?_) ?_ ?_ hm2 fun h' tk hd' k => ?_⟩
    · have z := storedH_le acc q.1 q.2.1 q.2.2
      omega
    · obtain ⟨b', hb', hbS', hbI', hcS', hcI', htup', hk'⟩ := ht (j + 1) q' (by simpa using e)
      refine ⟨b', ?_, hbS', hbI', hcS', hcI', (htup'.extBut hs1.extBut hbI').extBut hs2.extBut hbS', isTK_at hk' fun o e => hs2.extBut _ _ hcS' (hs1.extBut _ _ hcI' e)⟩
      rw [show i + 1 + j = i + (j + 1) by omega]
      exact hb'
    · exact Heap.IsTupleIter.extBut hit1 hs2.extBut (Ne.symm hSI)
    · exact Heap.IsTuple.extBut hl1 hs2.extBut (Ne.symm hSl)
    · exact hR h' tk hd' fun c oc h3 h4 e => k c oc h3 h4 (hs2.extBut c oc h3 (hs1.extBut c oc h4 e))
/-- dict(l) of a list of pairs, keys tuples -/
theorem call_dict_pairsTU {s : Shared} {l : Addr} {ol : Obj} {items : Array Value} {n : Nat} {prs : List (List Key × Addr × Value)} {Q : Value → Shared → Prop} (hu : A.in1.in1.units < cLine) (hh : A.handled = none) (hl : s.heap.get? l = some ol) (hc : ol.cls = .type "tuple") (hd : ol.dict = none)
    (hdat : ol.data = .seq items n) (hsz : items.size = prs.length) (hln : prs.length ≤ sizeLine)
    (ht : ∀ (j : Nat) (q : List Key × Addr × Value), prs[j]? = some q → ∃ (b : Addr), items[j]? = some (.ref b) ∧ IsTup s.heap b #[.ref q.2.1, q.2.2] ∧ (tupleKind (mixKind prog w)).is s.heap q.1 q.2.1)
    (h : ∀ h' tk, h'.DictOfH (tupleKind (mixKind prog w)) s.heap.objs.size (mergedH [] prs) → (∀ b o, s.heap.get? b = some o → h'.get? b = some o) → Q (.ref s.heap.objs.size) { s with heap := h', toks := tk }) :
    wpAny (model prog w) A (call (.type "dict") [.ref l]) Q E s := by
  refine callType_codes (Q₁ := fun obj s₁ => obj = .ref s.heap.objs.size ∧ s₁ = { s with heap := s.heap.push { cls := .type "dict", data := .dict #[] } }) PySem.F.kt_called_dict (PySem.F.kt_typeCall_dict_1 _) PySem.F.entry_dict_init (kt_code_dict_new _ ⟨rfl, rfl⟩) ?_
  rintro obj s₁ ⟨rfl, rfl⟩
  have hnew0 : (s.heap.push { cls := .type "dict", data := .dict #[] }).DictOf (mixKind prog w) s.heap.objs.size [] := Heap.DictOf.new s.heap
  have hnew : (s.heap.push { cls := .type "dict", data := .dict #[] }).DictOfH (tupleKind (mixKind prog w)) s.heap.objs.size [] :=
    ⟨_, #[], 0, Heap.get?_push_size _ rfl, ⟨rfl, rfl, rfl⟩, rfl, rfl, (fun x hx => by simp at hx), List.nodup_nil⟩
  have k0 : ∀ b o, s.heap.get? b = some o → (s.heap.push { cls := .type "dict", data := .dict #[] }).get? b = some o := fun b o e => Heap.get?_push_of_some _ e
  refine ⟨hnew0.typeIs, PySem.F.args_dict_init_2 _ _, ?_⟩
  unfold Builtin.«dict.__init__»
  refine wpAny_bind ?_
  unfold Builtin.Dict.selfAndRest
  refine wpAny_bind (wpAny_notOrdered_dict hnew0.typeIs ?_)
  show wpAny _ _ (pure (s.heap.objs.size, [Value.ref l])) _ _ _
  refine wpAny_pure ?_
  show wpAny _ _ (Builtin.Dict.updateFrom "dict.__init__" s.heap.objs.size (.ref l) [] .none) _ _ _
  unfold Builtin.Dict.updateFrom
  refine wpAny_bind (wpAny_typeOf (T := "tuple") ⟨ol, k0 _ _ hl, hc⟩ ?_)
  rw [if_pos (by first | decide | rfl | simp)]
  refine wpAny_bind (miss_tup (k0 _ _ hl) hc hdat hd hh fun h1 tk1 hk1 => ?_)
  rw [if_pos (show (none : Option Value).isNone = true from rfl)]
  refine wpAny_bind (wpAny_rule ?_)
  have hl1 : h1.IsTuple l items := ⟨ol, hk1 _ _ (k0 _ _ hl), hc, n, hdat⟩
  have hS1 : s.heap.objs.size < h1.objs.size := by
    have e : (s.heap.push { cls := .type "dict", data := .dict #[] }).get? s.heap.objs.size = some { cls := .type "dict", data := .dict #[] } := Heap.get?_push_size _ rfl
    exact Heap.lt_size (hk1 _ _ e)
  refine wpAny_bind (wpAny_pyIter_tuple hl1 ?_)
  have k2 : ∀ b o, h1.get? b = some o → (h1.push { cls := .type "tuple_iterator", data := .fields #[.ref l, .int 0 0] }).get? b = some o := fun b o e => Heap.get?_push_of_some _ e
  have hlt : l < s.heap.objs.size := Heap.lt_size hl
  have kall : ∀ b o, (s.heap.push { cls := .type "dict", data := .dict #[] }).get? b = some o → (h1.push { cls := .type "tuple_iterator", data := .fields #[.ref l, .int 0 0] }).get? b = some o := fun b o e => k2 _ _ (hk1 _ _ e)
  have key := updT_loopU (prog := prog) (w := w) (A := A.in1) (R := wants (fun r s₂ => r = .none ∧ Q (.ref s.heap.objs.size) s₂) E) (S := s.heap.objs.size) (I := h1.objs.size) (l := l) (items := items) (res := Value.none) hu hh
    (Nat.ne_of_lt (Nat.lt_trans hlt hS1)) (Nat.ne_of_lt hS1) (Nat.ne_of_gt hlt) prs 0 [] 0 0
    { s with heap := h1.push { cls := .type "tuple_iterator", data := .fields #[.ref l, .int 0 0] }, toks := tk1 } (by rw [hsz, Nat.zero_add]) (by rw [List.length_nil, Nat.zero_add]; exact hln)
    (fun j q e => by
      obtain ⟨b, e1, e2, e3⟩ := ht j q e
      have hb : b < s.heap.objs.size := e2.lt
      have hcl : q.2.1 < s.heap.objs.size := by
        obtain ⟨o, _, _, h1, _⟩ := id e3
        exact Heap.lt_size h1
      exact ⟨b, by rw [Nat.zero_add]; exact e1, Nat.ne_of_lt hb, Nat.ne_of_lt (Nat.lt_trans hb hS1), Nat.ne_of_lt hcl, Nat.ne_of_lt (Nat.lt_trans hcl hS1), e2.keeps fun c o z => kall _ _ (k0 _ _ z), isTK_at e3 fun o z => kall _ _ (k0 _ _ z)⟩)
    ⟨_, Heap.get?_push_size _ rfl, rfl, rfl⟩ (Heap.IsTuple.push hl1 _) (by
      obtain ⟨o, es, ep, g1, g2, g3, g4, g5, g6⟩ := hnew
      exact ⟨o, es, ep, kall _ _ g1, g2, g3, g4, fun x hx => isTK_at (g5 x hx) fun o e => kall _ _ e, g6⟩)
    (fun h' tk hd' k => ⟨rfl, h h' tk hd' fun b o e => k b o (Nat.ne_of_lt (Heap.lt_size e)) (Nat.ne_of_lt (Nat.lt_trans (Heap.lt_size e) hS1)) (kall _ _ (k0 _ _ e))⟩)
  first
    | exact wpAny_pure ⟨plainId_quiet ud_plain _, key⟩
    | exact wpAny_bind (wpAny_pure (wpAny_pure ⟨plainId_quiet ud_plain _, key⟩))
/-- the walk over the pairs, keys ints and texts -/
theorem updK_loopU {R : Result → Shared → Prop} {S I l : Addr} {items : Array Value} {res : Value} (hh : A.handled = none) (hlI : l ≠ I) (hSI : S ≠ I) (hSl : S ≠ l) :
    ∀ (rest : List (Key × Value)) (i : Nat) (acc : List (Key × Value)) (ix : Int) (t : Tok) (s : Shared), items.size = i + rest.length → acc.length + rest.length ≤ sizeLine →
      (∀ (j : Nat) (q : Key × Value), rest[j]? = some q → ∃ (b : Addr) (u : Value), items[i + j]? = some (.ref b) ∧ b ≠ S ∧ b ≠ I ∧ IsTup s.heap b #[u, q.2] ∧ keyIs q.1 u = true) →
      s.heap.IsTupleIter I l i → s.heap.IsTuple l items → s.heap.DictOf (mixKind prog w) S acc →
      (∀ h' tk, h'.DictOf (mixKind prog w) S (merged acc rest) → (∀ b o, b ≠ S → b ≠ I → s.heap.get? b = some o → h'.get? b = some o) → R (.ok (.ret res)) { s with heap := h', toks := tk }) →
      codeAny (model prog w) A (.builtin "dict.update.loop" ⟨[.ref S, .ref I, .int ix t, res], []⟩) R s
  | [], i, acc, ix, t, s, hsz, hln, ht, hit, hl, hm, hR => by
    obtain ⟨oI, hoI, hcI, _⟩ := id hit
    refine codeAny_builtin ud_entry ?_
    rw [Around.under_plainId ud_plain _]
    show wpAny _ A.in1 (pyNext (.ref I) >>= _) _ _ s
    refine wpAny_bind (wpAny_pyNext_tuple_end (A := A.in1) hh hit hl (by first | exact Array.getElem?_eq_none (Nat.le_of_eq hsz) | (simp at hsz; simp; omega)) fun h' he => ?_)
    show wpAny _ A.in1 (Builtin.Dict.addKeywords S [] >>= _) _ _ _
    refine wpAny_bind (wpAny_pure (wpAny_pure ?_))
    exact hR h' s.toks (hm.extBut he hSI) fun b o _ hb e => he b o hb e
  | q :: rest, i, acc, ix, t, s, hsz, hln, ht, hit, hl, hm, hR => by
    obtain ⟨b, u, hb, hbS, hbI, htup, hk⟩ := ht 0 q rfl
    obtain ⟨oI, hoI, hclI, _⟩ := id hit
    rw [List.length_cons] at hsz hln
    refine codeAny_builtin ud_entry ?_
    rw [Around.under_plainId ud_plain _]
    show wpAny _ A.in1 (pyNext (.ref I) >>= _) _ _ s
    refine wpAny_bind (wpAny_pyNext_tuple_item (x := .ref b) hit hl (by simpa using hb) fun h1 hit1 hs1 => ?_)
    have ht1 : IsTup h1 b #[u, q.2] := htup.extBut hs1.extBut hbI
    have hl1 : h1.IsTuple l items := Heap.IsTuple.extBut hl hs1.extBut hlI
    have hm1 : h1.DictOf (mixKind prog w) S acc := hm.extBut hs1.extBut hSI
    obtain ⟨o, ho, hc, n, hd⟩ := id ht1
    show wpAny _ A.in1 (holding [Value.ref b] _ >>= _) _ _ _
    refine wpAny_bind (wpAny_holding ?_)
    refine wpAny_bind (wpAny_tryCatch ?_)
    unfold Builtin.Dict.pairItems
    refine wpAny_bind (wpAny_typeOf (T := "tuple") ⟨o, ho, hc⟩ ?_)
    rw [if_pos (by first | decide | rfl | simp)]
    refine wpAny_bind (wpAny_seqItems ho hd (wpAny_pure ?_))
    show wpAny _ A.in1 (holding [u, q.2] (dictSet S u q.2)) _ _ _
    refine wpAny_holding (wpAny_dictSet_pairs (knd := mixKind prog w) (k := q.1) hk hm1 (fun h2 hm2 hs2 => ?_) (by omega))
    refine wpAny_pure ⟨plainId_quiet ud_plain _, updK_loopU (items := items) hh hlI hSI hSl rest (i + 1) (stored acc q.1 q.2) (ix + 1) 0 _ (show items.size = i + 1 + rest.length by omega) ?_ (fun j q' e => ?_) ?_ ?_ hm2 fun h' tk hd' k => ?_⟩
    · have z := stored_length_le acc q.1 q.2
      omega
    · obtain ⟨b', u', hb', hbS', hbI', htup', hk'⟩ := ht (j + 1) q' (by simpa using e)
      refine ⟨b', u', ?_, hbS', hbI', (htup'.extBut hs1.extBut hbI').extBut hs2.extBut hbS', hk'⟩
      rw [show i + 1 + j = i + (j + 1) by omega]
      exact hb'
    · exact Heap.IsTupleIter.extBut hit1 hs2.extBut (Ne.symm hSI)
    · exact Heap.IsTuple.extBut hl1 hs2.extBut (Ne.symm hSl)
    · exact hR h' tk hd' fun c oc h3 h4 e => k c oc h3 h4 (hs2.extBut c oc h3 (hs1.extBut c oc h4 e))
/-- dict(l) of a list of pairs, keys ints and texts -/
theorem call_dict_pairsKU {s : Shared} {l : Addr} {ol : Obj} {items : Array Value} {n : Nat} {prs : List (Key × Value)} {Q : Value → Shared → Prop} (hh : A.handled = none) (hl : s.heap.get? l = some ol) (hc : ol.cls = .type "tuple") (hd : ol.dict = none)
    (hdat : ol.data = .seq items n) (hsz : items.size = prs.length) (hln : prs.length ≤ sizeLine)
    (ht : ∀ (j : Nat) (q : Key × Value), prs[j]? = some q → ∃ (b : Addr) (u : Value), items[j]? = some (.ref b) ∧ IsTup s.heap b #[u, q.2] ∧ keyIs q.1 u = true)
    (h : ∀ h' tk, h'.DictOf (mixKind prog w) s.heap.objs.size (merged [] prs) → (∀ b o, s.heap.get? b = some o → h'.get? b = some o) → Q (.ref s.heap.objs.size) { s with heap := h', toks := tk }) :
    wpAny (model prog w) A (call (.type "dict") [.ref l]) Q E s := by
  refine callType_codes (Q₁ := fun obj s₁ => obj = .ref s.heap.objs.size ∧ s₁ = { s with heap := s.heap.push { cls := .type "dict", data := .dict #[] } }) PySem.F.kt_called_dict (PySem.F.kt_typeCall_dict_1 _) PySem.F.entry_dict_init (kt_code_dict_new _ ⟨rfl, rfl⟩) ?_
  rintro obj s₁ ⟨rfl, rfl⟩
  have hnew0 : (s.heap.push { cls := .type "dict", data := .dict #[] }).DictOf (mixKind prog w) s.heap.objs.size [] := Heap.DictOf.new s.heap
  have hnew := hnew0
  have k0 : ∀ b o, s.heap.get? b = some o → (s.heap.push { cls := .type "dict", data := .dict #[] }).get? b = some o := fun b o e => Heap.get?_push_of_some _ e
  refine ⟨hnew0.typeIs, PySem.F.args_dict_init_2 _ _, ?_⟩
  unfold Builtin.«dict.__init__»
  refine wpAny_bind ?_
  unfold Builtin.Dict.selfAndRest
  refine wpAny_bind (wpAny_notOrdered_dict hnew0.typeIs ?_)
  show wpAny _ _ (pure (s.heap.objs.size, [Value.ref l])) _ _ _
  refine wpAny_pure ?_
  show wpAny _ _ (Builtin.Dict.updateFrom "dict.__init__" s.heap.objs.size (.ref l) [] .none) _ _ _
  unfold Builtin.Dict.updateFrom
  refine wpAny_bind (wpAny_typeOf (T := "tuple") ⟨ol, k0 _ _ hl, hc⟩ ?_)
  rw [if_pos (by first | decide | rfl | simp)]
  refine wpAny_bind (miss_tup (k0 _ _ hl) hc hdat hd hh fun h1 tk1 hk1 => ?_)
  rw [if_pos (show (none : Option Value).isNone = true from rfl)]
  refine wpAny_bind (wpAny_rule ?_)
  have hl1 : h1.IsTuple l items := ⟨ol, hk1 _ _ (k0 _ _ hl), hc, n, hdat⟩
  have hS1 : s.heap.objs.size < h1.objs.size := by
    have e : (s.heap.push { cls := .type "dict", data := .dict #[] }).get? s.heap.objs.size = some { cls := .type "dict", data := .dict #[] } := Heap.get?_push_size _ rfl
    exact Heap.lt_size (hk1 _ _ e)
  refine wpAny_bind (wpAny_pyIter_tuple hl1 ?_)
  have k2 : ∀ b o, h1.get? b = some o → (h1.push { cls := .type "tuple_iterator", data := .fields #[.ref l, .int 0 0] }).get? b = some o := fun b o e => Heap.get?_push_of_some _ e
  have hlt : l < s.heap.objs.size := Heap.lt_size hl
  have kall : ∀ b o, (s.heap.push { cls := .type "dict", data := .dict #[] }).get? b = some o → (h1.push { cls := .type "tuple_iterator", data := .fields #[.ref l, .int 0 0] }).get? b = some o := fun b o e => k2 _ _ (hk1 _ _ e)
  have key := updK_loopU (prog := prog) (w := w) (A := A.in1) (R := wants (fun r s₂ => r = .none ∧ Q (.ref s.heap.objs.size) s₂) E) (S := s.heap.objs.size) (I := h1.objs.size) (l := l) (items := items) (res := Value.none) hh
    (Nat.ne_of_lt (Nat.lt_trans hlt hS1)) (Nat.ne_of_lt hS1) (Nat.ne_of_gt hlt) prs 0 [] 0 0
    { s with heap := h1.push { cls := .type "tuple_iterator", data := .fields #[.ref l, .int 0 0] }, toks := tk1 } (by rw [hsz, Nat.zero_add]) (by rw [List.length_nil, Nat.zero_add]; exact hln)
    (fun j q e => by
      obtain ⟨b, u, e1, e2, e3⟩ := ht j q e
      have hb : b < s.heap.objs.size := e2.lt
      exact ⟨b, u, by rw [Nat.zero_add]; exact e1, Nat.ne_of_lt hb, Nat.ne_of_lt (Nat.lt_trans hb hS1), e2.keeps fun c o z => kall _ _ (k0 _ _ z), e3⟩)
    ⟨_, Heap.get?_push_size _ rfl, rfl, rfl⟩ (Heap.IsTuple.push hl1 _) (hnew.at fun o e => kall _ _ e)
    (fun h' tk hd' k => ⟨rfl, h h' tk hd' fun b o e => k b o (Nat.ne_of_lt (Heap.lt_size e)) (Nat.ne_of_lt (Nat.lt_trans (Heap.lt_size e) hS1)) (kall _ _ (k0 _ _ e))⟩)
  first
    | exact wpAny_pure ⟨plainId_quiet ud_plain _, key⟩
    | exact wpAny_bind (wpAny_pure (wpAny_pure ⟨plainId_quiet ud_plain _, key⟩))
end
end DL


set_option maxRecDepth 100000
namespace DL
open PySem PySem.Spec PyProof.Rows L2

/-! ## dict(x) of a list or a tuple of pairs -/
open Classical in
noncomputable def dictU (t : Bool) : OpL := fun ds h => match ds with
  | [.tup ds] => match pairsOf ds with
    | some kvs => if nz ds = true ∧ kvs.all (fun p => keyAs t p.1) = true ∧ ds.length ≤ 1000000 then some (.ref h.length, h ++ [dctO t (mergeD [] kvs)]) else none
    | none => none
  | _ => none
noncomputable def dictE (t : Bool) : OpL := fun ds h => match dictL t ds h with
  | some r => some r
  | none => dictU t ds h
section
variable {X : Cx} {η : Nat → Addr} {N : Nat} {H : Hp}
theorem tup_obj {pins : List (Addr × Obj)} {σ : L2.St} {s : Shared} (I : Inv X pins σ H s) {a : Addr} {vs : List V} (h : TupAt H a vs true) : ∃ o its n, s.heap.get? a = some o ∧ o.cls = .type "tuple" ∧ o.dict = none ∧ o.data = .seq (List.toArray its) n ∧ Vals vs its := by
  obtain ⟨o, hd, e⟩ := h.1 rfl
  obtain ⟨ho, _, its, rv, o', ho', hc, n, hdat⟩ := (show ObjOk X.prog X.w H s.heap a (.frz o (.tup vs)) from I.hok a _ e)
  rw [ho] at ho'
  cases ho'
  exact ⟨o, its, n, ho, hc, hd, hdat, rv⟩
theorem callr_dictKU (hc : X.calm = true) : CallR X (.type "dict") (rDL X.K X.mg (dictU false)) := by
  intro pins s σ H xs us Q I r ⟨η, ah, ds, hh, rd, a⟩
  unfold dictU at a
  split at a
  · rename_i ds
    obtain ⟨v, r', rfl, ⟨l, vs, rfl, h1, h2⟩, rfl⟩ := rd
    split at a
    · rename_i kvs ep
      obtain ⟨c, a⟩ := a.ite
      rw [c.1] at h1
      obtain ⟨o, its, n, ho, hcl, hd, hdat, rv⟩ := tup_obj I h1
      obtain ⟨ps, kv, rfl, p1, p2⟩ := pairs_rel ep h2
      obtain ⟨ks, rfl, rm⟩ := relK_merge p2 c.2.1 (show RelK η ah.length H [] [] from rfl)
      have hpp : ∀ {ps : List Addr} {ks : List (Key × V)}, Paired (fun p q => ∃ b, TupAt H p [q.1, q.2] b) ps (ks.map fun q => (kV q.1, q.2)) → Paired (fun p kv => SqT X.K H p [kV kv.1, kv.2]) ps ks := by
        intro ps
        induction ps with
        | nil => intro ks h; cases ks with
          | nil => exact .nil
          | cons k ks => cases h
        | cons p ps ih => intro ks h; cases ks with
          | nil => cases h
          | cons k ks => cases h with
            | cons a b => obtain ⟨_, a⟩ := a; exact .cons a.sq (ih b)
      have ei := refs_at rv
      subst ei
      obtain ⟨prs, rel, hl, hpr⟩ := L2.pairs_of I (hpp p1)
      have hpl : ps.length ≤ 1000000 := by
        have h3 := h2.length
        rw [List.length_map] at h3
        omega
      rw [Vals.ref1 r]
      refine call_dict_pairsKU (prs := prs) (I.ok.hd hc) ho hcl hd hdat (by simp [hl]) (by rw [hl, sizeLine_eq]; omega) (fun j q' e => ?_) fun h' tk hd' k => ?_
      · obtain ⟨b, u, e1, e2, e3⟩ := hpr j q' e
        exact ⟨b, u, by simp [e1], e2, e3⟩
      · have hm : (s.heap.objs.size == sysModules) = false := beq_eq_false_iff_ne.mpr (Nat.ne_of_gt I.big)
        have hn0 : H s.heap.objs.size = none := I.hok.fresh (Nat.le_refl _)
        have hlen : (mergeK [] ks).length ≤ sizeLine := by
          refine Nat.le_trans (length_mergeK ks []) ?_
          rw [List.length_nil, Nat.zero_add, rel.length, hl, sizeLine_eq]
          omega
        refine ⟨.ref s.heap.objs.size, upd H s.heap.objs.size (.dK (mergeK [] ks)), I.laid (t' := tk) k (Nat.le_refl _) (show ObjOk X.prog X.w _ _ _ (.dK (mergeK [] ks)) from ⟨hlen, hm, merged [] prs, KV.merge rel .nil, hd'⟩), rfl, ?_⟩
        exact a.dct hh hn0 (ho := ⟨_, upd_same, rm.ext (ext_new hn0)⟩) rfl
    · exact a.none.elim
  · exact a.none.elim
theorem callr_dictTU (hc : X.calm = true) (hu : X.A.units + 64 < cLine) : CallR X (.type "dict") (rDL X.K X.mg (dictU true)) := by
  intro pins s σ H xs us Q I r ⟨η, ah, ds, hh, rd, a⟩
  unfold dictU at a
  split at a
  · rename_i ds
    obtain ⟨v, r', rfl, ⟨l, vs, rfl, h1, h2⟩, rfl⟩ := rd
    split at a
    · rename_i kvs ep
      obtain ⟨c, a⟩ := a.ite
      rw [c.1] at h1
      obtain ⟨o, its, n, ho, hcl, hd, hdat, rv⟩ := tup_obj I h1
      obtain ⟨ps, kv, rfl, p1, p2⟩ := pairs_rel ep h2
      obtain ⟨prs, ks, l1, l2, l3, l4⟩ := pairsT_of I p1 p2 c.2.1 (show RelT η ah.length H [] [] from rfl) (show KT H [] [] from .nil)
      have ei := refs_at rv
      subst ei
      have hpl : ps.length ≤ 1000000 := by
        have h3 := h2.length
        rw [List.length_map] at h3
        omega
      rw [Vals.ref1 r]
      refine call_dict_pairsTU (prs := prs) (show X.A.units + 1 + 1 < cLine by omega) (I.ok.hd hc) ho hcl hd hdat (by simp [l1]) (by rw [l1, sizeLine_eq]; omega) (fun j q' e => ?_) fun h' tk hd' k => ?_
      · obtain ⟨b, e1, e2, e3⟩ := l4 j q' e
        exact ⟨b, by simp [e1], e2, e3⟩
      · have hm : (s.heap.objs.size == sysModules) = false := beq_eq_false_iff_ne.mpr (Nat.ne_of_gt I.big)
        have hn0 : H s.heap.objs.size = none := I.hok.fresh (Nat.le_refl _)
        have hlen : ks.length ≤ sizeLine := by
          have h3 := mergeD_len kvs []
          have h4 := l2.length
          have h6 : kvs.length = kv.length := Paired.length p2
          have h7 : ps.length = kv.length := Paired.length p1
          rw [List.length_nil, Nat.zero_add] at h3
          rw [sizeLine_eq]
          omega
        obtain ⟨q, es, epp, hq, g2, g3, g4, _, g5⟩ := hd'
        refine ⟨.ref s.heap.objs.size, upd H s.heap.objs.size (.dT ks), I.laid (t' := tk) k (Nat.le_refl _) (show ObjOk X.prog X.w _ _ _ (.dT ks) from ⟨hlen, hm, _, l3.keeps fun c ys ec => ?_, q, es, epp, hq, g2, g3, g4, g5⟩), rfl, ?_⟩
        · rw [upd_ne (ne_of_none ec hn0)]; exact ec
        · exact a.dct hh hn0 (ho := ⟨_, upd_same, l2.ext (ext_new hn0)⟩) rfl
    · exact a.none.elim
  · exact a.none.elim
theorem callr_dictEK (hc : X.calm = true) : CallR X (.type "dict") (rDL X.K X.mg (dictE false)) := callr_or (callr_dictK hc) (callr_dictKU hc)
theorem callr_dictET (hc : X.calm = true) (hu : X.A.units + 64 < cLine) : CallR X (.type "dict") (rDL X.K X.mg (dictE true)) := callr_or (callr_dictT hc hu) (callr_dictTU hc hu)
end
/-! ## list(d), for k in d: the keys -/
def keysL : OpL := fun ds h => match ds with
  | [.ref n] => match dctOf h (.ref n) with
    | some (_, kvs) => some (.ref h.length, h ++ [.lst (kvs.map (·.1))])
    | none => none
  | _ => none
end DL


set_option maxRecDepth 100000
namespace DL
open PySem PySem.Spec PyProof.Rows L2

/-! ## not x, as a value -/
section
variable {X : Cx} {W : WX} {η η' η1 : Nat → Addr} {N N1 : Nat} {σd : Lc} {ah ah' ah1 : AH} {σ : L2.St} {H H' H1 : Hp} {Q : VK} {pos : Pos} {a : Expr} {fa : SE}
def dNotT (fa : SE) : SE := fun σ h => (fa σ h).bind fun d h1 => match truD d h1 with
  | some b => .ok (.bl (!b)) h1
  | none => .bad
theorem de_notT (ha : DE X W a fa) : DE X W (.UnaryOp .Not a pos) (dNotT fa) := PE.imp (pe_notT ha) fun σ H Q h => by
  obtain ⟨η, σd, ah, sim, h⟩ := h
  refine tE_bind sim h fun d ah1 η1 v H1 s1 e1 r1 h1 => ?_
  cases q : truD d ah1 with
  | none => rw [q] at h1; exact h1.elim
  | some b =>
    rw [q] at h1
    exact ⟨b, DL.tru_ok s1.hh r1 q, h1 η1 _ H1 Ext.refl s1.hh rfl⟩
end
/-! ## list(d) -/
def listE : OpL := fun ds h => match listL ds h with
  | some r => some r
  | none => keysL ds h
section
variable {X : Cx} {η : Nat → Addr} {N : Nat} {H : Hp}
theorem callr_keysL (hc : X.calm = true) : CallR X (.type "list") (rDL X.K X.mg keysL) := by
  intro pins s σ H xs us Q I r ⟨η, ah, ds, hh, rd, a⟩
  unfold keysL at a
  split at a
  · rename_i n
    obtain ⟨v, r', rfl, ⟨hn, rfl⟩, rfl⟩ := rd
    split at a
    · rename_i t kvs e
      obtain ⟨lo, hz, es, ep, vs, hraw, hsz, h2, hv⟩ := rawD I hh e
      rw [Vals.ref1 r]
      refine PySem.W.kdl_call (PySem.KdlSrc.rawDict lo) (I.ok.hd hc) hraw (by rw [hsz]; exact hz) fun h' tk acc c' hk hD hacc => ?_
      have hac := items_vals hacc
      have hvl : vs.length ≤ sizeLine := by rw [h2.length, List.length_map]; exact hz
      exact ⟨.ref s.heap.objs.size, upd H s.heap.objs.size (.lst vs), I.laid (t' := tk) hk (Nat.le_refl _)
        (show ObjOk X.prog X.w _ _ _ (.lst vs) from ⟨hvl, acc.toList, c', by rw [hac]; exact hv, by rw [Array.toArray_toList]; exact hD⟩), rfl, a.lst hh h2 (I.hok.fresh (Nat.le_refl _))⟩
    · exact a.none.elim
  · exact a.none.elim
theorem callr_listE (hc : X.calm = true) : CallR X (.type "list") (rDL X.K X.mg listE) := callr_or callr_list (callr_keysL hc)
end
end DL


set_option maxRecDepth 100000
namespace DL
open PySem PySem.Spec PyProof.Rows L2

/-! ## for k in d, [.. for k in d ..]: the dict is locked meanwhile -/
def lockO : O → Option O
  | .dct kvs => some (.lck kvs)
  | .dcT kvs => some (.lcT kvs)
  | _ => none
open Classical in
noncomputable def kD (d : D) (h : AH) : RI := match d with
  | .ref n => match h[n]? with
    | some (.lck kvs) => .ok (kvs.map (·.1)) (fun h' => h'[n]? = some (.lck kvs)) h
    | some (.lcT kvs) => .ok (kvs.map (·.1)) (fun h' => h'[n]? = some (.lcT kvs)) h
    | _ => .bad
  | _ => .bad
noncomputable def iKeysD (f : SE) : SI := fun σ h => (f σ h).bindI kD
section
variable {X : Cx} {W : WX} {η η' η1 : Nat → Addr} {N N1 : Nat} {σd : Lc} {ah ah' ah1 : AH} {σ : L2.St} {H H' H1 : Hp} {Q : VK} {pos : Pos} {tg a : Expr} {fa : SE}
theorem relK_get : ∀ {kvs : List (D × D)} {ks : List (Key × V)} {i : Nat} {d : D}, RelK η N H kvs ks → (kvs.map (·.1))[i]? = some d → ∃ k v, ks[i]? = some (k, v) ∧ RelD η N H d (kV k)
  | [], _, _, _, _, e => by simp at e
  | (k0, d0) :: kvs, _, 0, d, r, e => by
    obtain ⟨q, v, ks, rfl, r1, r2, r3⟩ := r
    cases e
    exact ⟨q, v, rfl, r1⟩
  | (k0, d0) :: kvs, _, i + 1, d, r, e => by
    obtain ⟨q, v, ks, rfl, r1, r2, r3⟩ := r
    exact relK_get (i := i) r3 (by simpa using e)
theorem relT_get : ∀ {kvs : List (D × D)} {ks : List (List Key × V)} {i : Nat} {d : D}, RelT η N H kvs ks → (kvs.map (·.1))[i]? = some d → ∃ k v, ks[i]? = some (k, v) ∧ d = .tup (k.map keyD) ∧ nz (k.map keyD) = false
  | [], _, _, _, _, e => by simp at e
  | (k0, d0) :: kvs, _, 0, d, r, e => by
    obtain ⟨q, v, ks, rfl, r1, r2, r3⟩ := r
    cases e
    exact ⟨q, v, rfl, r1⟩
  | (k0, d0) :: kvs, _, i + 1, d, r, e => by
    obtain ⟨q, v, ks, rfl, r1, r2, r3⟩ := r
    exact relT_get (i := i) r3 (by simpa using e)
theorem jok_keys {n : Nat} {kvs : List (D × D)} {ks : List (Key × V)} {od : Obj} (hn : n < N) (h1 : H (η n) = some (.frz od (.dK ks))) : JOk X.K X.mg η N H (Itk (η n) od ks) (kvs.map (·.1)) (fun h' => h'[n]? = some (.lck kvs)) where
  go := fun i η' ah H' e hh hg hi => by
    obtain ⟨ob, ks', g1, g2⟩ := hh.obj n _ hg
    rw [e.eta n hn, e.fz _ _ _ h1] at g1
    cases g1
    refine ⟨e.fz _ _ _ h1, ?_⟩
    have := g2.length
    rw [List.length_map] at hi
    omega
  stop := fun i η' ah H' e hh hg hi => by
    obtain ⟨ob, ks', g1, g2⟩ := hh.obj n _ hg
    rw [e.eta n hn, e.fz _ _ _ h1] at g1
    cases g1
    refine ⟨e.fz _ _ _ h1, ?_⟩
    have := g2.length
    rw [List.length_map] at hi
    omega
  yld := fun i η' ah H' x H2 d e hh hg hd y => by
    obtain ⟨rfl, k, v, hk, rfl⟩ := y
    obtain ⟨ob, ks', g1, g2⟩ := hh.obj n _ hg
    rw [e.eta n hn, e.fz _ _ _ h1] at g1
    cases g1
    obtain ⟨k', v', hk', r⟩ := relK_get g2 hd
    rw [hk] at hk'
    cases hk'
    exact ⟨hh, Ext.refl, r⟩
theorem keyD_rels (q : List Key) : RelDs η N H (q.map keyD) (q.map kV) := by
  induction q with
  | nil => rfl
  | cons c l ih =>
    refine ⟨kV c, _, rfl, ?_, ih⟩
    cases c with
    | inl i => rfl
    | inr x => show V.str x = V.str (S x.cps.toList); rw [S_toList]
theorem jok_keysT {n : Nat} {kvs : List (D × D)} {ks : List (List Key × V)} {od : Obj} (hn : n < N) (h1 : H (η n) = some (.frz od (.dT ks))) : JOk X.K X.mg η N H (Itkt (η n) od ks) (kvs.map (·.1)) (fun h' => h'[n]? = some (.lcT kvs)) where
  go := fun i η' ah H' e hh hg hi => by
    obtain ⟨ob, ks', g1, g2⟩ := hh.obj n _ hg
    rw [e.eta n hn, e.fz _ _ _ h1] at g1
    cases g1
    refine ⟨e.fz _ _ _ h1, ?_⟩
    have := g2.length
    rw [List.length_map] at hi
    omega
  stop := fun i η' ah H' e hh hg hi => by
    obtain ⟨ob, ks', g1, g2⟩ := hh.obj n _ hg
    rw [e.eta n hn, e.fz _ _ _ h1] at g1
    cases g1
    refine ⟨e.fz _ _ _ h1, ?_⟩
    have := g2.length
    rw [List.length_map] at hi
    omega
  yld := fun i η' ah H' x H2 d e hh hg hd y => by
    obtain ⟨rfl, k, v, q, hk, rfl, hq⟩ := y
    obtain ⟨ob, ks', g1, g2⟩ := hh.obj n _ hg
    rw [e.eta n hn, e.fz _ _ _ h1] at g1
    cases g1
    obtain ⟨k', v', hk', rfl, hz⟩ := relT_get g2 hd
    rw [hk] at hk'
    cases hk'
    exact ⟨hh, Ext.refl, q, _, rfl, .ofF hz hq, keyD_rels _⟩
theorem di_keys (ha : DE X W a fa) : DI X W tg a (iKeysD fa) := PI.imp (pi_keys ha) fun σ H R h => by
  obtain ⟨η, σd, ah, sim, h⟩ := h
  refine tE_bindI sim h fun d ah1 η1 v H1 z s1 e1 r1 h1 => ?_
  unfold kD at h1
  split at h1
  · rename_i n
    obtain ⟨hn, rfl⟩ := r1
    split at h1
    · rename_i kvs q
      obtain ⟨ob, ks, g1, g2⟩ := s1.hh.obj n _ q
      exact ⟨_, ob, rfl, .inl ⟨ks, g1, h1 η1 H1 Ext.refl s1.hh _ (jok_keys hn g1)⟩⟩
    · rename_i kvs q
      obtain ⟨ob, ks, g1, g2⟩ := s1.hh.obj n _ q
      exact ⟨_, ob, rfl, .inr ⟨ks, g1, h1 η1 H1 Ext.refl s1.hh _ (jok_keysT hn g1)⟩⟩
    · exact h1.elim
  · exact h1.elim
/-- locking, unlocking -/
structure LockT (K : PySem.W.Frag) (mg : Str → Option Value) (η : Nat → Addr) (ah : AH) (H : Hp) (n : Nat) (o ol : O) (u : HO) : Prop where
  at_ : H (η n) = some u
  mu : Mut (some u)
  lock : ∀ od, RelH K mg η (ah.set n ol) (upd H (η n) (.frz od u)) ∧ Ext η ah.length H η (ah.set n ol).length (upd H (η n) (.frz od u))
  unlock : ∀ od η' ah' H', Ext η (ah.set n ol).length (upd H (η n) (.frz od u)) η' ah'.length H' → RelH K mg η' ah' H' → ah'[n]? = some ol →
    H' (η n) = some (.frz od u) ∧ RelH K mg η' (ah'.set n o) (upd H' (η n) u) ∧ Ext η ah.length H η' (ah'.set n o).length (upd H' (η n) u) ∧ Ext0 η' ah'.length H' η' (ah'.set n o).length (upd H' (η n) u)
theorem lock_any {n : Nat} {o ol : O} (hh : RelH X.K X.mg η ah H) (e : ah[n]? = some o) (hl : lockO o = some ol) : ∃ u, LockT X.K X.mg η ah H n o ol u := by
  have hn : n < ah.length := (List.getElem?_eq_some_iff.mp e).1
  have core : ∀ (u : HO), H (η n) = some u → Mut (some u) → (∀ vs, u ≠ .tup vs) → (∀ w, u ≠ .lst w) → (∀ ob w, u ≠ .frz ob w) → isScr o = false → isScr ol = false → (∀ ob w, H (η n) ≠ some (.frz ob (.lst w))) →
      (∀ od, RelO X.K X.mg η ah.length (upd H (η n) (.frz od u)) (η n) ol) →
      (∀ od η' (ah' : AH) H', H' (η' n) = some (.frz od u) → RelO X.K X.mg η' ah'.length H' (η' n) ol → Ext0 η' ah'.length H' η' ah'.length (upd H' (η' n) u) → RelO X.K X.mg η' ah'.length (upd H' (η' n) u) (η' n) o) → LockT X.K X.mg η ah H n o ol u := by
    intro u hu mu nt nl nf so sl nfl mk un
    have eL : ∀ od, Ext η ah.length H η ah.length (upd H (η n) (.frz od u)) := fun od => ⟨ext_set0 hh e so, fun a ob w q => by
      have hne : a ≠ η n := fun z => by rw [z, hu] at q; cases q; exact nf _ _ rfl
      rw [upd_ne hne]; exact q⟩
    refine ⟨hu, mu, fun od => ⟨relH_set hh e so sl nfl (mk od), by rw [List.length_set]; exact eL od⟩, fun od η' ah' H' ex r g => ?_⟩
    rw [List.length_set] at ex
    have hn' : n < ah'.length := (List.getElem?_eq_some_iff.mp g).1
    have heta : η' n = η n := ex.eta n hn
    have hH' : H' (η n) = some (.frz od u) := ex.fz _ _ _ upd_same
    have h0 : Ext0 η' ah'.length H' η' ah'.length (upd H' (η n) u) := ⟨Nat.le_refl _, fun _ _ => rfl, fun a vs b t => t.keep (fun t => by
        have hne : a ≠ η n := fun z => by rw [z, hH'] at t; cases t
        rw [upd_ne hne]; exact t) fun ob t => by
        have hne : a ≠ η n := fun z => by rw [z, hH'] at t; cases t; exact nt _ rfl
        rw [upd_ne hne]; exact t⟩
    have hrel : RelH X.K X.mg η' (ah'.set n o) (upd H' (η' n) u) := relH_set r g sl so (fun ob w z => by rw [heta, hH'] at z; cases z; exact nl _ rfl) (un od η' ah' H' (by rw [heta]; exact hH') (r.obj n _ g) (by rw [heta]; exact h0))
    rw [heta] at hrel
    refine ⟨hH', hrel, ⟨⟨?_, ?_, ?_⟩, ?_⟩, by rw [List.length_set]; exact h0⟩
    · rw [List.length_set]; exact ex.n
    · exact fun m hm => ex.eta m hm
    · exact fun a vs b t => h0.st a vs b (ex.st a vs b ((eL od).st a vs b t))
    · intro a ob w q
      have hne : a ≠ η n := fun z => by rw [z, hu] at q; cases q; exact nf _ _ rfl
      rw [upd_ne hne]
      exact ex.fz a ob w ((eL od).fz a ob w q)
  cases o with
  | dct kvs =>
    cases hl
    obtain ⟨ks, h1, h2⟩ := hh.obj n _ e
    refine ⟨.dK ks, core _ h1 trivial (fun _ z => by cases z) (fun _ z => by cases z) (fun _ _ z => by cases z) rfl rfl (fun _ _ z => by rw [h1] at z; cases z) (fun od => ⟨od, ks, upd_same, RelK.ext0 (ext_set0 hh e rfl) _ _ h2⟩) fun od η' ah' H' q r x => ?_⟩
    obtain ⟨ob, ks', g1, g2⟩ := r
    rw [q] at g1
    cases g1
    exact ⟨ks, upd_same, RelK.ext0 x _ _ g2⟩
  | dcT kvs =>
    cases hl
    obtain ⟨ks, h1, h2⟩ := hh.obj n _ e
    refine ⟨.dT ks, core _ h1 trivial (fun _ z => by cases z) (fun _ z => by cases z) (fun _ _ z => by cases z) rfl rfl (fun _ _ z => by rw [h1] at z; cases z) (fun od => ⟨od, ks, upd_same, RelT.ext0 (ext_set0 hh e rfl) _ _ h2⟩) fun od η' ah' H' q r x => ?_⟩
    obtain ⟨ob, ks', g1, g2⟩ := r
    rw [q] at g1
    cases g1
    exact ⟨ks, upd_same, RelT.ext0 x _ _ g2⟩
  | _ => cases hl
open Classical in
noncomputable def unS (n : Nat) (ol o : O) (r : RS) : RS := match r with
  | .nx l h => if h[n]? = some ol then .nx l (h.set n o) else .bad
  | .bk l h => if h[n]? = some ol then .bk l (h.set n o) else .bad
  | .ct l h => if h[n]? = some ol then .ct l (h.set n o) else .bad
  | .rt d h => if h[n]? = some ol then .rt d (h.set n o) else .bad
  | .exc x l h => .exc x l h
  | .bad => .bad
open Classical in
noncomputable def unR (n : Nat) (ol o : O) (r : R) : R := match r with
  | .ok d h => if h[n]? = some ol then .ok d (h.set n o) else .bad
  | .exc x h => .exc x h
  | .bad => .bad
/-- the dict at which f points, and itself locked -/
def lockAt (f : SE) (σ : Lc) (h : AH) : Option (Nat × O × O) := match f σ h with
  | .ok (.ref n) _ => match h[n]? with
    | some o => match lockO o with
      | some ol => some (n, o, ol)
      | none => none
    | none => none
  | _ => none
theorem lockAt_inv {f : SE} {σ : Lc} {h : AH} {n : Nat} {o ol : O} (e : lockAt f σ h = some (n, o, ol)) : h[n]? = some o ∧ lockO o = some ol := by
  unfold lockAt at e
  split at e
  · split at e
    · rename_i o' q
      split at e
      · rename_i ol' q2
        cases e
        exact ⟨q, q2⟩
      · cases e
    · cases e
  · cases e
/-- for k in d: where d may be a list, too -/
noncomputable def sForD (f : SE) (g : GF) (s : SS) : SS := fun σ h => match lockAt f σ h with
  | some (n, o, ol) => unS n ol o (sFor (iKeysD f) g s σ (h.set n ol))
  | none => .bad
noncomputable def dCompD (f : SE) (g : GF) (ft : SB) (fe : SE) (vs : List Nat) : SE := fun σ h => match lockAt f σ h with
  | some (n, o, ol) => unR n ol o (dComp (iKeysD f) g ft fe vs σ (h.set n ol))
  | none => .bad
theorem ds_lock {st : Stmt} {f : SE} {g : GF} {s : SS} (hd : DS X W st (sFor (iKeysD f) g s)) : DS X W st (sForD f g s) := PS.imp (ps_lock hd) fun D σ H h => by
  obtain ⟨η, σd, ah, sim, h⟩ := h
  unfold sForD at h
  cases q : lockAt f σd ah with
  | none => rw [q] at h; exact h.elim
  | some p =>
    obtain ⟨n, o, ol⟩ := p
    rw [q] at h
    dsimp only at h
    obtain ⟨e1, e2⟩ := lockAt_inv q
    obtain ⟨u, L⟩ := lock_any sim.hh e1 e2
    refine ⟨η n, u, L.at_, L.mu, fun od => ?_⟩
    obtain ⟨l1, l2⟩ := L.lock od
    refine ⟨η, σd, ah.set n ol, sim.ext l2 l1, ?_⟩
    have simU : ∀ {η' : Nat → Addr} {l : Lc} {h' : AH} {σ' : L2.St} {H' : Hp}, Ext η (ah.set n ol).length (upd H (η n) (.frz od u)) η' h'.length H' → Sim X.K X.mg η' l h' σ' H' → h'[n]? = some ol →
        H' (η n) = some (.frz od u) ∧ Ext η ah.length H η' (h'.set n o).length (upd H' (η n) u) ∧ Sim X.K X.mg η' l (h'.set n o) σ' (upd H' (η n) u) := by
      intro η' l h' σ' H' ex sm g
      obtain ⟨a1, a2, a3, a4⟩ := L.unlock od η' h' H' ex sm.hh g
      exact ⟨a1, a3, a2, sm.len, fun i d q => let ⟨v, a, b⟩ := sm.env i d q; ⟨v, a, RelD.ext0 a4 _ _ b⟩⟩
    cases r : sFor (iKeysD f) g s σd (ah.set n ol) with
    | bad => rw [r] at h; exact h.elim
    | nx l h' =>
      rw [r] at h
      unfold unS at h
      dsimp only at h
      split at h
      · rename_i g'
        intro η' σ' H' ex sm
        obtain ⟨b1, b2, b3⟩ := simU ex sm g'
        exact ⟨b1, h η' σ' _ b2 b3⟩
      · exact h.elim
    | bk l h' =>
      rw [r] at h
      unfold unS at h
      dsimp only at h
      split at h
      · rename_i g'
        intro η' σ' H' ex sm
        obtain ⟨b1, b2, b3⟩ := simU ex sm g'
        exact ⟨b1, h η' σ' _ b2 b3⟩
      · exact h.elim
    | ct l h' =>
      rw [r] at h
      unfold unS at h
      dsimp only at h
      split at h
      · rename_i g'
        intro η' σ' H' ex sm
        obtain ⟨b1, b2, b3⟩ := simU ex sm g'
        exact ⟨b1, h η' σ' _ b2 b3⟩
      · exact h.elim
    | rt d h' =>
      rw [r] at h
      unfold unS at h
      dsimp only at h
      split at h
      · rename_i g'
        intro η' v H' ex rh rd
        obtain ⟨a1, a2, a3, a4⟩ := L.unlock od η' h' H' ex rh g'
        exact ⟨a1, h η' v _ a3 a2 (RelD.ext0 a4 _ _ rd)⟩
      · exact h.elim
    | exc x l h' =>
      rw [r] at h
      intro η' σ' H' C ex sm m
      exact h η' σ' H' C (l2.trans ex) sm m
theorem de_lock {e : Expr} {f : SE} {g : GF} {ft : SB} {fe : SE} {vs : List Nat} (hd : DE X W e (dComp (iKeysD f) g ft fe vs)) : DE X W e (dCompD f g ft fe vs) := PE.imp (pe_lock hd) fun σ H Q h => by
  obtain ⟨η, σd, ah, sim, h⟩ := h
  unfold dCompD at h
  cases q : lockAt f σd ah with
  | none => rw [q] at h; exact h.elim
  | some p =>
    obtain ⟨n, o, ol⟩ := p
    rw [q] at h
    dsimp only at h
    obtain ⟨e1, e2⟩ := lockAt_inv q
    obtain ⟨u, L⟩ := lock_any sim.hh e1 e2
    refine ⟨η n, u, L.at_, L.mu, fun od => ?_⟩
    obtain ⟨l1, l2⟩ := L.lock od
    refine ⟨η, σd, ah.set n ol, sim.ext l2 l1, ?_⟩
    cases r : dComp (iKeysD f) g ft fe vs σd (ah.set n ol) with
    | bad => rw [r] at h; exact h.elim
    | ok d h' =>
      rw [r] at h
      unfold unR at h
      dsimp only at h
      split at h
      · rename_i g'
        intro η' v H' ex rh rd
        obtain ⟨a1, a2, a3, a4⟩ := L.unlock od η' h' H' ex rh g'
        exact ⟨a1, h η' v _ a3 a2 (RelD.ext0 a4 _ _ rd)⟩
      · exact h.elim
    | exc x h' =>
      rw [r] at h
      intro η' H' C ex rh m
      exact h η' H' C (l2.trans ex) rh m
end
end DL


set_option maxRecDepth 100000
namespace DL
open PySem PySem.Spec PyProof.Rows L2

/-! ## sorted(t) of a tuple -/
def sortedTL : OpL := fun ds h => match ds with
  | [.tup ds] => if okSort ds = true then some (.ref h.length, h ++ [.lst (sortD ds)]) else none
  | _ => none
def sortedA : OpL := fun ds h => match sortedE ds h with
  | some r => some r
  | none => sortedTL ds h
section
variable {X : Cx} {η : Nat → Addr} {N : Nat} {H : Hp}
theorem callr_sortedTL (hu : X.A.units + 64 < cLine) : CallR X (.builtin "sorted") (rDL X.K X.mg sortedTL) := by
  intro pins s σ H xs us Q I r ⟨η, ah, ds, hh, rd, a⟩
  unfold sortedTL at a
  split at a
  · rename_i dks
    obtain ⟨v, r', rfl, ⟨l, vs, rfl, t1, h2⟩, rfl⟩ := rd
    obtain ⟨c, a⟩ := a.ite
    simp only [okSort, Bool.and_eq_true, Bool.or_eq_true, decide_eq_true_eq, List.all_eq_true] at c
    obtain ⟨⟨⟨⟨c1, c2⟩, c3⟩, c4⟩, c5⟩ := c
    obtain ⟨its, hv, ⟨o, ho, hcl, n, hdat⟩, hz⟩ := I.tuple t1.sq
    rw [Vals.ref1 r]
    refine Calls.call_function_entry PyProof.Rows.kind_sorted PyProof.Rows.plain_sorted PyProof.Rows.entry_sorted (PyProof.Rows.args_sorted1 _) ?_
    unfold Builtin.«sorted»
    refine wpAny_bind (m := checkCount "sorted" 1 1 _) (wpAny_pure ?_)
    refine wpAny_bind (wpAny_collect_seq (A := X.A.in1) l (.inr rfl) ho hcl hdat (fun h' hk => ?_) (by rw [List.size_toArray, ← hv.length]; exact hz))
    have I1 : Inv X pins σ H { s with heap := h', toks := s.toks } := I.kept hk
    have hal : its.toArray.toList.length = dks.length := by show its.length = _; rw [← hv.length, h2.length]
    refine wpAny_bind (wpAny_newList ?_ (by rw [hal, sizeLine_eq]; omega))
    have hoL : (h'.push (seqObj "list" its.toArray.toList.toArray 0)).get? h'.objs.size = some (seqObj "list" its.toArray.toList.toArray 0) := Heap.get?_push_size _ rfl
    have hlen : (dks.zip vs).length = dks.length := by rw [List.length_zip, h2.length]; omega
    have hb : (dks.zip vs).map (fun p => p.1.dat) = D.dats dks := by
      have hz := zip_fst h2
      rw [dats_map]
      conv => rhs; rw [← hz, List.map_map]
      rfl
    have pl : ∀ p ∈ dks.zip vs, p.1.dat.plain = true ∧ p.1.dat.depth ≤ 60 := by
      intro p hp
      have hm : p.1 ∈ dks := (List.of_mem_zip (a := p.1) (b := p.2) hp).1
      exact ⟨plain_mem c3 hm, Nat.le_trans (depth_mem hm) c4⟩
    have hrel := zip_rel h2
    have er0 : ∀ {zs : List (D × V)} {ws : List Value}, (∀ p ∈ zs, p.1.dat.plain = true ∧ RelD η ah.length H p.1 p.2) → PySem.W.EachIs (fun v p => RelV p.2 v) ws zs → PySem.W.EachIs (fun v p => ∃ as, Reads (h'.push (seqObj "list" its.toArray.toList.toArray 0)) v p.1.dat as ∧ h'.objs.size ∉ as) ws zs := by
      intro zs ws hz he
      induction he with
      | nil => exact .nil
      | cons q _ ih =>
        refine .cons ?_ (ih fun p hp => hz p (by simp [hp]))
        obtain ⟨as, ra⟩ := Dp.reads I1 _ _ _ (RelD.dp _ _ (hz _ (by simp)).2 (hz _ (by simp)).1) q
        exact ⟨as, PyProof.Rows.Reads.keeps (fun _ _ e => Heap.get?_push_of_some _ e) ra, fun hm => Nat.lt_irrefl _ (reads_lt ra _ hm)⟩
    have e0 := each_of (R := fun v p => RelV p.2 v) (fun _ _ h => h) h2 (show Vals vs its.toArray.toList from hv)
    show wpAny _ _ _ _ _ { s with heap := h'.push (seqObj "list" its.toArray.toList.toArray 0) }
    refine wpAny_bind (wpAny_holding (PySem.W.list_sort_data (s := { s with heap := h'.push (seqObj "list" its.toArray.toList.toArray 0) }) (bs := dks.zip vs) (enc := fun p => p.1.dat) (R := fun v p => RelV p.2 v) hoL e0 (er0 (fun p hp => ⟨(pl p hp).1, hrel p hp⟩) e0) (by rw [hb]; exact c1) (by
      rw [hb]
      rcases c2 with c2 | c2
      · left
        intro d hd
        have := c2 d hd
        cases d with
        | tuple l => cases l with
          | nil => simp [isTup1] at this
          | cons x r => exact ⟨x, r, rfl⟩
        | _ => simp [isTup1] at this
      · right
        intro d hd
        have := c2 d hd
        refine ⟨fun z => by subst z; simp [noTup] at this, fun xs z => by subst z; simp [noTup] at this⟩) (by rw [hlen, sizeLine_eq]; exact c5) (fun p hp => by
      have := (pl p hp).2
      show X.A.units + 1 + 1 + p.1.dat.depth < cLine
      omega) fun out ho eo => ?_))
    obtain ⟨e', he'⟩ := PyProof.Rows.sortedHeap_at (vs := its.toArray.toList) (out := List.toArray out) hoL
    generalize hps : (dks.zip vs).mergeSort (PySem.W.dataLe false fun p => p.1.dat) = ps at eo
    have hperm : ∀ p ∈ ps, p ∈ dks.zip vs := fun p hp => by rw [← hps] at hp; exact List.mem_mergeSort.mp hp
    have hD : ps.map (·.1) = sortD dks := by
      rw [← hps, List.map_mergeSort (s := leD2) (f := fun p : D × V => p.1) (fun a _ b _ => by rfl), zip_fst h2]
      rfl
    have hvl := vals_each eo
    have hlo : (ps.map (·.2)).length ≤ sizeLine := by
      have : ps.length = dks.length := by rw [← hps, List.length_mergeSort, hlen]
      rw [List.length_map, this, sizeLine_eq]
      exact c5
    refine wpAny_pure ⟨_, rfl, .ref h'.objs.size, upd H h'.objs.size (.lst (ps.map (·.2))), I1.laid (t' := s.toks) (fun b u e => ?_) (Nat.le_refl _)
      (show ObjOk X.prog X.w _ _ _ (.lst (ps.map (·.2))) from ⟨hlo, out, e', hvl, he'⟩), rfl, ?_⟩
    · have hb : b < h'.objs.size := Heap.lt_size e
      rw [PyProof.Rows.sortedHeap_old (Nat.ne_of_lt hb) (by rw [size_push']; exact Nat.lt_succ_of_lt hb)]
      exact Heap.get?_push_of_some _ e
    · have hrr := rel_unzip (η := η) (N := ah.length) (H := H) (ps := ps) fun p hp => hrel p (hperm p hp)
      rw [hD] at hrr
      exact a.lst hh hrr (I1.hok.fresh (Nat.le_refl _))
  · exact a.none.elim
theorem callr_sortedA (hc : X.calm = true) (hu : X.A.units + 64 < cLine) : CallR X (.builtin "sorted") (rDL X.K X.mg sortedA) := callr_or (callr_sortedE hc hu) (callr_sortedTL hu)
end
/-! ## min, max of a list -/
mutual
theorem dat_inj : ∀ (a b : D), a.dat.plain = true → b.dat.plain = true → a.dat = b.dat → a = b
  | .non, b, _, hb, e => by cases b <;> simp [D.dat, PyData.plain] at e hb ⊢
  | .bl x, b, _, hb, e => by cases b <;> simp [D.dat, PyData.plain] at e hb ⊢; exact e
  | .int x, b, _, hb, e => by cases b <;> simp [D.dat, PyData.plain] at e hb ⊢; exact e
  | .str x, b, _, hb, e => by
    cases b <;> simp [D.dat, PyData.plain] at e hb ⊢
    exact S_inj (by rw [S, S, e])
  | .tup xs, b, ha, hb, e => by
    cases b with
    | tup ys =>
      have e' : D.dats xs = D.dats ys := by simpa [D.dat] using e
      rw [dats_inj xs ys (by simpa [D.dat, PyData.plain] using ha) (by simpa [D.dat, PyData.plain] using hb) e']
    | _ => simp [D.dat, PyData.plain] at e hb
  | .ref n, b, ha, _, _ => by simp [D.dat, PyData.plain] at ha
theorem dats_inj : ∀ (xs ys : List D), PyData.plainAll (D.dats xs) = true → PyData.plainAll (D.dats ys) = true → D.dats xs = D.dats ys → xs = ys
  | [], [], _, _, _ => rfl
  | [], _ :: _, _, _, e => by simp [D.dats] at e
  | _ :: _, [], _, _, e => by simp [D.dats] at e
  | x :: xs, y :: ys, ha, hb, e => by
    simp only [D.dats, PyData.plainAll, Bool.and_eq_true, List.cons.injEq] at ha hb e
    rw [dat_inj x y ha.1 hb.1 e.1, dats_inj xs ys ha.2 hb.2 e.2]
end
def leastD (x : D) (xs : List D) : D := xs.foldl (fun a y => if PySem.W.dataLt y.dat a.dat then y else a) x
def mostD (x : D) (xs : List D) : D := xs.foldl (fun a y => if PySem.W.dataLt a.dat y.dat then y else a) x
def notNon : PyData → Bool
  | .none => false
  | _ => true
def okMin (ds : List D) : Bool := (D.dats ds).all notNon && (D.dats ds).all (fun d => (D.dats ds).all fun d' => PySem.W.alike d d') && PyData.plainAll (D.dats ds) && decide (PyData.depthAll (D.dats ds) ≤ 30)
def minL : OpL := fun ds h => match ds with
  | [.ref n] => match h[n]? with
    | some (.lst (d :: ds)) => if okMin (d :: ds) = true then some (leastD d ds, h) else none
    | _ => none
  | _ => none
def maxL : OpL := fun ds h => match ds with
  | [.ref n] => match h[n]? with
    | some (.lst (d :: ds)) => if okMin (d :: ds) = true then some (mostD d ds, h) else none
    | _ => none
  | _ => none
theorem least_dat (xs : List D) (x : D) : (leastD x xs).dat = PySem.W.minD x.dat (D.dats xs) := by
  unfold leastD PySem.W.minD
  rw [dats_map]
  induction xs generalizing x with
  | nil => rfl
  | cons y xs ih =>
    rw [List.foldl_cons, List.map_cons, List.foldl_cons, ih]
    congr 1
    split <;> rfl
theorem most_dat (xs : List D) (x : D) : (mostD x xs).dat = PySem.W.maxD x.dat (D.dats xs) := by
  unfold mostD PySem.W.maxD
  rw [dats_map]
  induction xs generalizing x with
  | nil => rfl
  | cons y xs ih =>
    rw [List.foldl_cons, List.map_cons, List.foldl_cons, ih]
    congr 1
    split <;> rfl
theorem least_mem (xs : List D) (x : D) : leastD x xs ∈ x :: xs := by
  unfold leastD
  induction xs generalizing x with
  | nil => simp
  | cons y xs ih =>
    rw [List.foldl_cons]
    have := ih (if PySem.W.dataLt y.dat x.dat = true then y else x)
    rcases List.mem_cons.mp this with h | h
    · rw [h]; split <;> simp
    · simp [h]
theorem most_mem (xs : List D) (x : D) : mostD x xs ∈ x :: xs := by
  unfold mostD
  induction xs generalizing x with
  | nil => simp
  | cons y xs ih =>
    rw [List.foldl_cons]
    have := ih (if PySem.W.dataLt x.dat y.dat = true then y else x)
    rcases List.mem_cons.mp this with h | h
    · rw [h]; split <;> simp
    · simp [h]
section
variable {X : Cx} {η : Nat → Addr} {N : Nat} {H : Hp}
theorem reads_all {pins : List (Addr × Obj)} {σ : L2.St} {s : Shared} (I : Inv X pins σ H s) : ∀ {ds : List D} {vs : List V} {us : List Value}, RelDs η N H ds vs → Vals vs us → PyData.plainAll (D.dats ds) = true → ∃ as, ReadsAll s.heap us (D.dats ds) as
  | [], _, _, r, v, _ => by
    rw [show _ = [] from r] at v
    cases v
    exact ⟨[], .nil⟩
  | d :: ds, _, _, r, v, hp => by
    obtain ⟨x, vs, rfl, r1, r2⟩ := r
    simp only [D.dats, PyData.plainAll, Bool.and_eq_true] at hp
    cases v with
    | cons a b =>
      obtain ⟨as, h1⟩ := Dp.reads I _ _ _ (RelD.dp _ _ r1 hp.1) a
      obtain ⟨bs, h2⟩ := reads_all I r2 b hp.2
      exact ⟨as ++ bs, .cons h1 h2⟩
theorem vals_at {vs : List V} {us : List Value} (r : Vals vs us) {i : Nat} {u : Value} (e : us[i]? = some u) : ∃ v, vs[i]? = some v ∧ RelV v u := by
  induction r generalizing i with
  | nil => simp at e
  | cons a b ih => cases i with
    | zero => cases e; exact ⟨_, rfl, a⟩
    | succ i => exact ih (by simpa using e)
theorem rel_at : ∀ {ds : List D} {vs : List V} {i : Nat} {v : V}, RelDs η N H ds vs → vs[i]? = some v → ∃ d, ds[i]? = some d ∧ RelD η N H d v
  | [], _, _, _, r, e => by rw [show _ = [] from r] at e; simp at e
  | d :: ds, _, 0, _, r, e => by
    obtain ⟨x, vs, rfl, r1, r2⟩ := r
    cases e
    exact ⟨d, rfl, r1⟩
  | d :: ds, _, i + 1, _, r, e => by
    obtain ⟨x, vs, rfl, r1, r2⟩ := r
    exact rel_at (i := i) r2 (by simpa using e)
theorem pick_any {pins : List (Addr × Obj)} {σ : L2.St} {s : Shared} {h' : Heap} {tk : Nat} (I : Inv X pins σ H s) (I1 : Inv X pins σ H { s with heap := h', toks := tk }) {ds : List D} {vs : List V} {its : List Value} {i : Nat} {v : Value} {bs : List Addr} {d0 : D} (h2 : RelDs η N H ds vs) (hv : Vals vs its) (e : its.toArray[i]? = some v) (hr : Reads h' v d0.dat bs) (hp : PyData.plainAll (D.dats ds) = true) (hm : d0 ∈ ds) : ∃ x, RelV x v ∧ RelD η N H d0 x := by
  obtain ⟨x, e1, r1⟩ := vals_at hv (by simpa using e : its[i]? = some v)
  obtain ⟨d, e2, r2⟩ := rel_at h2 e1
  have hd := plain_mem hp (List.mem_of_getElem? e2)
  obtain ⟨as, ra⟩ := Dp.reads I1 _ _ _ (RelD.dp _ _ r2 hd) r1
  have := (PySem.Reads.unique ra _ _ hr).1
  rw [dat_inj d d0 hd (plain_mem hp hm) this] at r2
  exact ⟨x, r1, r2⟩
theorem callr_min (hc : X.calm = true) (hu : X.A.units + 64 < cLine) : CallR X (.builtin "min") (rDL X.K X.mg minL) := by
  intro pins s σ H xs us Q I r ⟨η, ah, ds, hh, rd, a⟩
  unfold minL at a
  split at a
  · rename_i n
    obtain ⟨v, r', rfl, ⟨hn, rfl⟩, rfl⟩ := rd
    split at a
    · rename_i d ds e
      obtain ⟨c, a⟩ := a.ite
      simp only [okMin, Bool.and_eq_true, decide_eq_true_eq, List.all_eq_true] at c
      obtain ⟨⟨⟨c0, c1⟩, c2⟩, c3⟩ := c
      obtain ⟨vs, h1, h2⟩ := hh.obj n _ e
      obtain ⟨its, hv, pl, hz⟩ := I.list (.of h1)
      obtain ⟨as, ra⟩ := reads_all I h2 hv c2
      rw [Vals.ref1 r]
      refine PySem.W.min_list_data (I.ok.hd hc) pl.isList (by simpa [D.dats] using ra) ⟨fun a ha b hb => c1 a (by simpa [D.dats] using ha) b (by simpa [D.dats] using hb), fun a ha z => by have := c0 a (by simpa [D.dats] using ha); subst z; simp [notNon] at this⟩ (by
        have : PyData.depthAll (d.dat :: D.dats ds) ≤ 30 := by simpa [D.dats] using c3
        omega) fun i v h' tk bs e1 e2 hk => ?_
      have I1 : Inv X pins σ H { s with heap := h', toks := tk } := I.kept hk
      rw [← least_dat] at e2
      obtain ⟨x, q1, q2⟩ := pick_any I I1 h2 hv e1 e2 c2 (least_mem ds d)
      exact ⟨x, H, I1, q1, a.same hh q2⟩
    · exact a.none.elim
  · exact a.none.elim
theorem callr_max (hc : X.calm = true) (hu : X.A.units + 64 < cLine) : CallR X (.builtin "max") (rDL X.K X.mg maxL) := by
  intro pins s σ H xs us Q I r ⟨η, ah, ds, hh, rd, a⟩
  unfold maxL at a
  split at a
  · rename_i n
    obtain ⟨v, r', rfl, ⟨hn, rfl⟩, rfl⟩ := rd
    split at a
    · rename_i d ds e
      obtain ⟨c, a⟩ := a.ite
      simp only [okMin, Bool.and_eq_true, decide_eq_true_eq, List.all_eq_true] at c
      obtain ⟨⟨⟨c0, c1⟩, c2⟩, c3⟩ := c
      obtain ⟨vs, h1, h2⟩ := hh.obj n _ e
      obtain ⟨its, hv, pl, hz⟩ := I.list (.of h1)
      obtain ⟨as, ra⟩ := reads_all I h2 hv c2
      rw [Vals.ref1 r]
      refine PySem.W.max_list_data (I.ok.hd hc) pl.isList (by simpa [D.dats] using ra) ⟨fun a ha b hb => c1 a (by simpa [D.dats] using ha) b (by simpa [D.dats] using hb), fun a ha z => by have := c0 a (by simpa [D.dats] using ha); subst z; simp [notNon] at this⟩ (by
        have : PyData.depthAll (d.dat :: D.dats ds) ≤ 30 := by simpa [D.dats] using c3
        omega) fun i v h' tk bs e1 e2 hk => ?_
      have I1 : Inv X pins σ H { s with heap := h', toks := tk } := I.kept hk
      rw [← most_dat] at e2
      obtain ⟨x, q1, q2⟩ := pick_any I I1 h2 hv e1 e2 c2 (most_mem ds d)
      exact ⟨x, H, I1, q1, a.same hh q2⟩
    · exact a.none.elim
  · exact a.none.elim
end
end DL


set_option maxRecDepth 100000
set_option maxHeartbeats 4000000
namespace L2
open PySem PySem.Spec PyProof.Rows
theorem tuple_mul1W (l : Addr) (items : Array Value) (n : Nat) (sl : Array (Option Value)) (dd : Option Addr) (u : Tok) :
    Meets (Builtin.«tuple.__mul__» ⟨[.ref l, .int 1 u], []⟩) (fun _ R s => s.heap.get? l = some { cls := .type "tuple", dict := dd, data := .seq items n, slots := sl } ∧ R (.ok (.ret (.ref l))) s) :=
  .of_wp fun prog w A R s h => by
    obtain ⟨hp, g, d, tk, os⟩ := s
    obtain ⟨hl, h⟩ := h
    have f1 := AutoSeq1.idx_int
    have c0 : (decide ((1 : Int) < -(2 ^ 63)) || decide ((1 : Int) ≥ 2 ^ 63)) = false := by decide
    have c1 : (items.isEmpty || (1 : Int) == 1) = true := by simp
    wp_walk using wpAny_loadPart' hl
    repeat (first
      | (refine wpAny_ite_false (decide_eq_false (by rw [c0]; exact Bool.false_ne_true)) ?_; wp_walk using wpAny_loadPart' hl)
      | (refine wpAny_ite_true (decide_eq_true (by rw [c1])) ?_; wp_walk using wpAny_loadPart' hl))
    exact ⟨_, rfl, h⟩
theorem tuple_mul0W (l : Addr) (items : Array Value) (n : Nat) (sl : Array (Option Value)) (dd : Option Addr) (u : Tok) (hi : items.isEmpty = false) :
    Meets (Builtin.«tuple.__mul__» ⟨[.ref l, .int 0 u], []⟩) (fun _ R s => s.heap.get? l = some { cls := .type "tuple", dict := dd, data := .seq items n, slots := sl } ∧
      R (.ok (.ret (Value.ref s.heap.objs.size))) { s with heap := s.heap.push { cls := Value.type "tuple", data := Data.seq #[] }, toks := s.toks }) :=
  .of_wp fun prog w A R s h => by
    obtain ⟨hp, g, d, tk, os⟩ := s
    obtain ⟨hl, h⟩ := h
    have f1 := AutoSeq1.idx_int
    have c0 : (decide ((0 : Int) < -(2 ^ 63)) || decide ((0 : Int) ≥ 2 ^ 63)) = false := by decide
    have c1 : (items.isEmpty || (0 : Int) == 1) = false := by rw [hi]; rfl
    have c2 : (decide ((0 : Int) ≤ 0) || items.isEmpty) = true := by rw [hi]; rfl
    wp_walk using wpAny_loadPart' hl
    repeat (first
      | (refine wpAny_ite_false (decide_eq_false (by rw [c0]; exact Bool.false_ne_true)) ?_; wp_walk using wpAny_loadPart' hl)
      | (refine wpAny_ite_false (decide_eq_false (by rw [c1]; exact Bool.false_ne_true)) ?_; wp_walk using wpAny_loadPart' hl)
      | (refine wpAny_ite_true (decide_eq_true (by rw [c2])) ?_; wp_walk using wpAny_loadPart' hl))
    exact ⟨_, rfl, h⟩
end L2
namespace DL
open PySem PySem.Spec PyProof.Rows L2

/-! ## list.extend -/
def mExtend : OpM := fun x xs h => match x, xs with
  | .ref n, [.ref m] => match h[n]?, h[m]? with
    | some (.lst ds), some (.lst es) => if ds.length + es.length ≤ 16777216 then some (.non, h.set n (.lst (ds ++ es))) else none
    | _, _ => none
  | _, _ => none
section
variable {X : Cx} {η : Nat → Addr} {N : Nat} {H : Hp}
theorem mt_extendD : MtR X "list.extend" (rDM X.K X.mg mExtend) := by
  intro pins s σ H x xs v us Q I rx rv ⟨η, ah, dx, ds, hh, r1, r2, a⟩
  unfold mExtend at a
  split at a
  · rename_i n m
    obtain ⟨w, r', rfl, rw', rfl⟩ := r2
    obtain ⟨hn, rfl⟩ := r1
    obtain ⟨hm, rfl⟩ := rw'
    split at a
    · rename_i ds es e e2
      obtain ⟨c, a⟩ := a.ite
      obtain ⟨vs, h1, h2⟩ := hh.obj n _ e
      obtain ⟨ws, h3, h4⟩ := hh.obj m _ e2
      exact mt_extend pins s σ H _ _ v us Q I rx rv ⟨_, _, vs, ws, rfl, rfl, h1, h3, by rw [h2.length, h4.length]; exact c, a.set hh e (RelDs.append h2 h4)⟩
    · exact a.none.elim
  · exact a.none.elim
/-! ## tuple * 0, tuple * 1 -/
def mulT : Op2 := fun x y h => match x, y with
  | .tup a, .int 0 => if a ≠ [] then some (.tup [], h) else none
  | .tup a, .int 1 => some (.tup a, h)
  | _, _ => none
theorem opr_mulT : OpR X (binaryOp .Mult) (rD2 X.K X.mg mulT) := by
  intro pins s σ H x y v u Q I rx ry ⟨η, ah, dx, dy, hh, r1, r2, a⟩
  unfold mulT at a
  split at a
  · rename_i ds
    obtain ⟨c, a⟩ := a.ite
    obtain ⟨l, vs, rfl, h1, h2⟩ := r1
    cases rx
    rw [show y = V.int 0 from r2] at ry
    obtain ⟨t, rfl⟩ := ry
    obtain ⟨its, r, ⟨⟨cls, dd, data, sl⟩, ho, hc, n, hd⟩, hs⟩ := I.tuple h1.sq
    simp only at hc hd
    subst hc hd
    have hi : its.toArray.isEmpty = false := by
      have e1 := h2.length
      have e2 := r.length
      cases its with
      | nil =>
        rw [e1] at e2
        exact absurd (List.length_eq_zero_iff.mp e2) c
      | cons a b => rfl
    refine wpAny_binaryOp_repeat_ref (T := "tuple") (U := "int") (by decide) ⟨_, ho, rfl⟩ (fun s' => typeIs_int s' 0 t) noFill_tuple_mul F.fills_int_mul F.slot_int_rmul repeat_tuple F.slot_int_index.lookup
      (call_meets F.slot_int_rmul (typeIs_int s 0 t) F.entry_int_rmul (F.args_int_rmul_2 _ _) (int_rmul_tuple 0 t l its.toArray n dd sl)
        ⟨ho, rfl, ⟨_, ho, rfl⟩, call_meets F.slot_tuple_mul ⟨_, ho, rfl⟩ F.entry_tuple_mul (F.args_tuple_mul_2 _ _) (tuple_mul0W l its.toArray n sl dd t hi) ⟨ho, ?_⟩⟩)
    have q : NewT H [] Q := a.tup hh rfl
    exact newT_laid I (fun b ob e => Heap.get?_push_of_some _ e) (Nat.le_refl _) (Heap.get?_push_size _ rfl) rfl (IsTup.new _ _) (Nat.zero_le _) .nil q
  · rename_i ds
    obtain ⟨l, vs, rfl, h1, h2⟩ := r1
    cases rx
    rw [show y = V.int 1 from r2] at ry
    obtain ⟨t, rfl⟩ := ry
    obtain ⟨its, r, ⟨⟨cls, dd, data, sl⟩, ho, hc, n, hd⟩, hs⟩ := I.tuple h1.sq
    simp only at hc hd
    subst hc hd
    refine wpAny_binaryOp_repeat_ref (T := "tuple") (U := "int") (by decide) ⟨_, ho, rfl⟩ (fun s' => typeIs_int s' 1 t) noFill_tuple_mul F.fills_int_mul F.slot_int_rmul repeat_tuple F.slot_int_index.lookup
      (call_meets F.slot_int_rmul (typeIs_int s 1 t) F.entry_int_rmul (F.args_int_rmul_2 _ _) (int_rmul_tuple 1 t l its.toArray n dd sl)
        ⟨ho, rfl, ⟨_, ho, rfl⟩, call_meets F.slot_tuple_mul ⟨_, ho, rfl⟩ F.entry_tuple_mul (F.args_tuple_mul_2 _ _) (tuple_mul1W l its.toArray n sl dd t) ⟨ho, ?_⟩⟩)
    exact ⟨.ref l, H, I, rfl, a.same hh ⟨l, vs, rfl, h1, h2⟩⟩
  · exact a.none.elim
def mulE : Op2 := fun x y h => match mulT x y h with
  | some r => some r
  | none => mulD x y h
theorem opr_mulE : OpR X (binaryOp .Mult) (rD2 X.K X.mg mulE) := by
  intro pins s σ H x y v u Q I rx ry ⟨η, ah, dx, dy, hh, r1, r2, a⟩
  unfold mulE at a
  split at a
  · rename_i r e
    exact opr_mulT pins s σ H x y v u Q I rx ry ⟨η, ah, dx, dy, hh, r1, r2, by rw [e]; exact a⟩
  · exact opr_mul pins s σ H x y v u Q I rx ry ⟨η, ah, dx, dy, hh, r1, r2, a⟩
/-! ## a, b, c = e1, e2, e3 -/
def sPar3 (i j l : Nat) (fa fb fc : SE) : SS := fun σ h => (fa σ h).bindS σ fun x h1 => (fb σ h1).bindS σ fun y h2 => (fc σ h2).bindS σ fun z h3 => .nx (((σ.set i (some x)).set j (some y)).set l (some z)) h3
theorem ds_par3 {W : WX} (i j l : Nat) {x y z : Str} {a b c : Expr} {fa fb fc : SE} {px py pz pt pos : Pos} {kt k2 pt2} (hc : X.calm = true) (hN : X.N.Nodup) (ha : DE X W a fa) (hb : DE X W b fb) (hcc : DE X W c fc) (hi : X.N[i]? = some x := by rfl) (hj : X.N[j]? = some y := by rfl) (hl : X.N[l]? = some z := by rfl) (hij : i ≠ j := by decide) (hil : i ≠ l := by decide) (hjl : j ≠ l := by decide)
    (hx : X.env.scope.names.lookup x = some .local := by rfl) (hy : X.env.scope.names.lookup y = some .local := by rfl) (hz : X.env.scope.names.lookup z = some .local := by rfl)
    (hw : swappedStores [.Tuple [.Name x px, .Name y py, .Name z pz] kt pt] (.Tuple [a, b, c] k2 pt2) X.env = pure (some [x, y, z]) := by rfl)
    (hs : swapsWithSole [.Tuple [.Name x px, .Name y py, .Name z pz] kt pt] (.Tuple [a, b, c] k2 pt2) pos.line X.env = pure false := by rfl)
    (s1 : starEach [a, b, c] X.env = (false, eval a X.env) :: starEach [b, c] X.env := by rfl) (s2 : starEach [b, c] X.env = (false, eval b X.env) :: starEach [c] X.env := by rfl) (s3 : starEach [c] X.env = (false, eval c X.env) :: starEach [] X.env := by rfl) :
    DS X W (.Assign [.Tuple [.Name x px, .Name y py, .Name z pz] kt pt] (.Tuple [a, b, c] k2 pt2) pos) (sPar3 i j l fa fb fc) := PS.imp (ps_par3 hc hN hi hj hl hij hil hjl hx hy hz (pa_cons ha (pa_cons hb (pa_cons hcc pa_nil s3) s2) s1) hw hs) fun D σ H h => by
  obtain ⟨η, σd, ah, sim, h⟩ := h
  refine tE_bindS sim h fun dx ah1 η1 v1 H1 s1 e1 r1 h1 => tE_bindS s1 h1 fun dy ah2 η2 v2 H2 s2 e2 r2 h2 => tE_bindS s2 h2 fun dz ah3 η3 v3 H3 s3 e3 r3 h3 => ?_
  exact ⟨v1, v2, v3, rfl, h3 η3 _ H3 Ext.refl (((s3.set ((r1.ext e2).ext e3)).set (r2.ext e3)).set r3)⟩
end
end DL


set_option maxRecDepth 100000
/-! ### sets of texts, as HandS.Set does it for whole numbers -/
namespace DLS
open PySem PySem.Spec PyProof.Rows L2
def keyS (e : Int × Value) : Str := match e.2 with | .str k _ => k | _ => Str.empty
def GoodS (w : World) (e : Int × Value) : Prop := ∃ k tk, e.2 = Value.str k tk ∧ e.1 = hashStr w k
def SetS (w : World) (h : Heap) (a : Addr) (S : Str → Bool) (n : Nat) : Prop :=
  ∃ o es ep t, h.get? a = some o ∧ o.ExactSet ∧ o.data = .set es ep t ∧ (∀ e ∈ es.toList, GoodS w e) ∧ (es.toList.map keyS).Nodup ∧ (∀ k, S k = true ↔ k ∈ es.toList.map keyS) ∧
    es.size < scanBound ∧ t.fits es.size = true ∧ es.size = n ∧ Ris t.place.toList ∧ (w.params.followText "set-order" = true ∨ t.led = true)
section
variable {P : Program} {w : World} {h h' : Heap} {a : Addr} {S : Str → Bool} {n : Nat}
theorem isS {k : Str} {tk : Tok} : (PySem.strKind P w).is k (.str k tk) = true := by
  show Value.isStrOf k (.str k tk) = true
  simp [Value.isStrOf]
theorem SetS.at (R : SetS w h a S n) (k : ∀ o, h.get? a = some o → h'.get? a = some o) : SetS w h' a S n := by
  obtain ⟨o, es, ep, t, ho, r⟩ := R
  exact ⟨o, es, ep, t, k o ho, r⟩
theorem SetS.congr {S' : Str → Bool} (R : SetS w h a S n) (e : ∀ k, S' k = S k) : SetS w h a S' n := by
  have q : S' = S := funext e
  rw [q]; exact R
theorem goodS_elems {l : List (Int × Value)} (g : ∀ e ∈ l, GoodS w e) : ElemsOf (PySem.strKind P w) l := fun e he => by
  obtain ⟨k, tk, h1, h2⟩ := g e he
  exact ⟨⟨k, by rw [h1]; exact isS, h2⟩, by rw [h1] <;> rfl⟩
theorem goodS_is {e : Int × Value} (g : GoodS w e) (k : Str) : (PySem.strKind P w).is k e.2 = true ↔ keyS e = k := by
  obtain ⟨k0, tk, h1, _⟩ := g
  unfold keyS
  rw [h1]
  constructor
  · intro q
    exact (PySem.strKind P w).inj (.str k0 tk) k0 k isS q
  · intro q
    have q : k0 = k := q
    subst q
    exact isS
theorem goodS_mem {l : List (Int × Value)} (g : ∀ e ∈ l, GoodS w e) (k : Str) : k ∈ l.map keyS ↔ ∃ e ∈ l, (PySem.strKind P w).is k e.2 = true := by
  rw [List.mem_map]
  constructor
  · rintro ⟨e, he, q⟩
    exact ⟨e, he, (goodS_is (g e he) k).2 q⟩
  · rintro ⟨e, he, q⟩
    exact ⟨e, he, (goodS_is (g e he) k).1 q⟩
theorem setS_new_at {ns : List Str} (ho : h.get? a = some { cls := .type "set", dict := none, data := .set #[] 0 (.fresh 0 0 (!w.params.followText "set-order")) }) : SetS w h a (fun j => decide (j ∈ ns.take 0)) 0 :=
  ⟨_, #[], 0, _, ho, ⟨rfl, rfl, rfl⟩, rfl, (fun e he => by simp at he), (by simp), (fun k => by simp), (by decide), (by rfl), rfl, List.Pairwise.nil, by
    show _ ∨ (!w.params.followText "set-order") = true
    cases w.params.followText "set-order"
    · exact .inr rfl
    · exact .inl rfl⟩
end
section
variable {P : Program} {w : World} {A : Around} {E : Value → Shared → Prop} {s : Shared} {a : Addr} {S : Str → Bool} {n : Nat}
theorem setS_add_tail {g : Bool → Sem Unit} (hg : ∀ (b : Bool) (s₁ : Shared) (Q' : Unit → Shared → Prop), Q' () s₁ → wpAny (model P w) A (g b) Q' E s₁)
    {o : Obj} {es : Array (Int × Value)} {ep : Nat} {t : SetTable} (ho : s.heap.get? a = some o) (hex : o.ExactSet) (hd : o.data = .set es ep t)
    {es1 : Array (Int × Value)} {t2 : SetTable} {S' : Str → Bool} (g1 : ∀ e ∈ es1.toList, GoodS w e) (nd1 : (es1.toList.map keyS).Nodup) (m1 : ∀ k, S' k = true ↔ k ∈ es1.toList.map keyS)
    (hb1 : es1.size < scanBound) (hf2 : t2.fits es1.size = true) (hr : Ris t2.place.toList) (hl : w.params.followText "set-order" = true ∨ t2.led = true) {wasDummy : Bool} {R : Option Bool → Shared → Prop}
    (hR : ∀ h', Heap.SameBut a s.heap h' → SetS w h' a S' es1.size → R (some true) { s with heap := h' }) :
    wpAny (model P w) A (do
        storeSet a es1 t2
        if (!wasDummy && t2.tooFull) = true then do
            g (relayAll t2 es1 (SetTable.grown es1.size)).2.2
            storeSet a (relayAll t2 es1 (SetTable.grown es1.size)).1 (relayAll t2 es1 (SetTable.grown es1.size)).2.1
            pure (some true)
          else pure (some true)) R E s := by
  refine wpAny_bind (wpAny_storeSet_of ho hd ?_ (fits_of_scanBound hb1))
  have ho1 := store_at (es' := es1) (t' := t2) ho hd
  have sb1 := Heap.SameBut.update s.heap a (Obj.putSet es1 t2)
  split
  · have pm := relayAll_perm t2 es1 (SetTable.grown es1.size)
    have hf3 := relayAll_fits t2 es1 (SetTable.grown es1.size)
    have hr3 := relayAll_ris t2 es1 (SetTable.grown es1.size)
    have hl3 := relayAll_led t2 es1 (SetTable.grown es1.size)
    generalize relayAll t2 es1 (SetTable.grown es1.size) = Z at pm hf3 hr3 hl3 ⊢
    obtain ⟨es2, t3, gave⟩ := Z
    dsimp only at pm hf3 hr3 hl3 ⊢
    have hsz : es2.size = es1.size := by rw [← Array.length_toList, pm.length_eq, Array.length_toList]
    have hb2 : es2.size < scanBound := by rw [hsz]; exact hb1
    refine wpAny_bind (hg _ _ _ ?_)
    refine wpAny_bind (wpAny_storeSet_of ho1 rfl ?_ (fits_of_scanBound hb2))
    have ho2 := store_at (es' := es2) (t' := t3) ho1 rfl
    refine wpAny_pure (hR _ (sb1.trans (Heap.SameBut.update _ a _)) ?_)
    exact ⟨_, es2, _, t3, ho2, hex, rfl, fun e he => g1 e (pm.mem_iff.mp he), (pm.map keyS).nodup_iff.mpr nd1, fun k => (m1 k).trans (pm.map keyS).mem_iff.symm, hb2, hf3, hsz, hr3,
      hl.imp id fun z => by rw [hl3]; exact z⟩
  · exact wpAny_pure (hR _ sb1 ⟨_, es1, _, t2, ho1, hex, rfl, g1, nd1, m1, hb1, hf2, rfl, hr, hl⟩)

theorem setS_add_hashed {k : Str} {tk : Tok} {Q : Bool → Shared → Prop} (R : SetS w s.heap a S n) (room : n + 1 < scanBound)
    (hQ : ∀ h', Heap.SameBut a s.heap h' → SetS w h' a (fun j => S j || decide (j = k)) (if S k = true then n else n + 1) → Q (!S k) { s with heap := h' }) :
    wpAny (model P w) A (setAddHashed a (.str k tk) ((PySem.strKind P w).hash k)) Q E s := by
  obtain ⟨o, es, ep, t, ho, hex, hd, g, nd, hm, hb, hf, hn, hr, hl⟩ := R
  have hkey : (PySem.strKind P w).is k (.str k tk) = true := isS
  have hsc : (Value.str k tk).scannable = true := rfl
  have hel : ElemsOf (PySem.strKind P w) es.toList := goodS_elems g
  unfold setAddHashed setAddHashedIn
  refine wpAny_holding (wpAny_bind (wpAny_setState_of ho hd hf ?_))
  dsimp only
  rw [byScan_of hsc hb hel]
  simp only [↓reduceIte]
  unfold setAddByScan
  refine wpAny_bind ?_
  refine wpAny_bind (wpAny_rule ?_)
  refine wpAny_bind (wpAny_setScan_of hkey ho hd hf hel ?_)
  cases hfi : List.findIdx? (fun e => (PySem.strKind P w).is k e.2) es.toList with
  | some j =>
    dsimp only
    obtain ⟨hj, pj, _⟩ := List.findIdx?_eq_some_iff_getElem.mp hfi
    have hSk : S k = true := (hm k).2 ((goodS_mem (P := P) (w := w) g k).2 ⟨es.toList[j], List.getElem_mem hj, pj⟩)
    refine wpAny_pure (wpAny_pure ?_)
    have q := hQ s.heap (Heap.SameBut.refl a s.heap) ⟨o, es, ep, t, ho, hex, hd, g, nd, fun i => by
      rw [Bool.or_eq_true, decide_eq_true_eq, ← hm i]
      exact ⟨fun z => z.elim id (fun e => e ▸ hSk), .inl⟩, hb, hf, by rw [if_pos hSk]; exact hn, hr, hl⟩
    rw [hSk] at q
    exact q
  | none =>
    dsimp only
    have hnk : k ∉ es.toList.map keyS := fun z => by
      obtain ⟨e, he, q⟩ := (goodS_mem (P := P) (w := w) g k).1 z
      have c := List.findIdx?_eq_none_iff.mp hfi e he
      rw [q] at c
      cases c
    have hSk : S k = false := by
      cases q : S k with
      | false => rfl
      | true => exact absurd ((hm k).1 q) hnk
    have hgw : ∀ (b : Bool) {s₁ : Shared} {Q' : Unit → Shared → Prop}, Q' () s₁ → wpAny (model P w) A (match b with | true => rule "set.scan.the-table-gave-way" | false => pure ()) Q' E s₁ :=
      fun b s₁ Q' q => by cases b <;> first | exact wpAny_pure q | exact wpAny_rule q
    have pm := layNew_perm t es ((PySem.strKind P w).hash k) (.str k tk)
    have hf1 := layNew_fits t es ((PySem.strKind P w).hash k) (.str k tk)
    have hr1 := layNew_ris t es ((PySem.strKind P w).hash k) (.str k tk) hr
    have hl1 := layNew_led t es ((PySem.strKind P w).hash k) (.str k tk)
    generalize layNew t es ((PySem.strKind P w).hash k) (.str k tk) = Z at pm hf1 hr1 hl1 ⊢
    obtain ⟨es1, t1, wasDummy, gave⟩ := Z
    dsimp only at pm hf1 hr1 hl1 ⊢
    rw [Array.toList_push] at pm
    have pc : es1.toList.Perm (((PySem.strKind P w).hash k, Value.str k tk) :: es.toList) := pm.trans (List.perm_append_singleton _ _)
    have pk : (es1.toList.map keyS).Perm (k :: es.toList.map keyS) := pc.map keyS
    have g1 : ∀ e ∈ es1.toList, GoodS w e := fun e he => by
      rcases List.mem_cons.mp (pc.mem_iff.mp he) with z | z
      · rw [z]; exact ⟨k, tk, rfl, rfl⟩
      · exact g e z
    have nd1 : (es1.toList.map keyS).Nodup := pk.nodup_iff.mpr (List.nodup_cons.mpr ⟨hnk, nd⟩)
    have m1 : ∀ i, (S i || decide (i = k)) = true ↔ i ∈ es1.toList.map keyS := fun i => by
      rw [Bool.or_eq_true, decide_eq_true_eq, hm i, pk.mem_iff, List.mem_cons]
      exact Or.comm
    have hsz : es1.size = n + 1 := by rw [← Array.length_toList, pc.length_eq, List.length_cons, Array.length_toList, hn]
    have hb1 : es1.size < scanBound := by rw [hsz]; exact room
    have hled : w.params.followText "set-order" = true ∨ t1.led = true := hl.imp id fun z => by rw [hl1]; exact z
    have fin : ∀ h', Heap.SameBut a s.heap h' → SetS w h' a (fun j => S j || decide (j = k)) es1.size → Q true { s with heap := h' } := fun h' sb r => by
      have q := hQ h' sb
      rw [hSk] at q
      rw [hsz] at r
      exact q r
    refine wpAny_bind (hgw _ ?_)
    split
    · refine wpAny_bind ?_
      rw [hashByValue_scannable 8 hsc]
      refine wpAny_pure ?_
      refine setS_add_tail ?_ ho hex hd g1 nd1 m1 hb1 ?_ ?_ ?_ ?_
      · intro b s₁ Q' q; cases b <;> first | exact wpAny_pure q | exact wpAny_rule q
      · first | (split <;> first | exact hf1 | exact SetTable.fits_plain_off hf1) | exact hf1
      · first | (split <;> exact hr1) | exact hr1
      · first | (split <;> exact hled) | exact hled
      · intro h' sb r; dsimp only; exact wpAny_pure (fin h' sb r)
    · refine wpAny_bind (wpAny_pure ?_)
      simp only [↓reduceIte]
      refine setS_add_tail ?_ ho hex hd g1 nd1 m1 hb1 hf1 hr1 hled ?_
      · intro b s₁ Q' q; cases b <;> first | exact wpAny_pure q | exact wpAny_rule q
      · intro h' sb r; dsimp only; exact wpAny_pure (fin h' sb r)

end
section
variable {P : Program} {w : World} {A : Around} {E : Value → Shared → Prop} {s : Shared}
theorem set_update_strs {I : Addr} {fp wr : List Addr} {G : Array GenState → Array GenState → Prop} {n : Nat} {Pv : Nat → Value → Prop} {St : Nat → Shared → Prop} {R : Result → Shared → Prop}
    (W : WalksS P w A.in1 I fp wr G n Pv St) (S : Addr) (hSf : S ∉ fp) (ns : List Str) (hn : n = ns.length) (hb : ns.length + 1 < scanBound) (hval : ∀ i v, Pv i v → ∃ k t, ns[i]? = some k ∧ v = .str k t) :
    ∀ (k i : Nat) (s : Shared), n - i = k → i ≤ n → St i s → (∃ c, c ≤ i ∧ SetS w s.heap S (fun j => decide (j ∈ ns.take i)) c) →
      (∀ s' c, Moved (S :: wr) G s s' → c ≤ n → SetS w s'.heap S (fun j => decide (j ∈ ns)) c → R (.ok (.ret .none)) s') →
      codeAny (model P w) A (.builtin "set.update.loop" ⟨[.ref S, .ref I], []⟩) R s := by
  have hSw : S ∉ wr := fun h => hSf (W.sub _ h)
  have hsub : ∀ b ∈ wr, b ∈ S :: wr := fun b hb => List.mem_cons_of_mem _ hb
  intro k
  induction k with
  | zero =>
    intro i s hk' hi hst ⟨c, hc, hS⟩ hR
    have hin : i = n := by omega
    subst hin
    refine codeAny_builtin F.entry_set_update_loop ?_
    rw [Around.under_plainId F.plain_set_update_loop _]
    show wpAny _ A.in1 (pyNext (.ref I) >>= _) _ _ s
    refine wpAny_bind (W.done s _ _ hst fun s' hm => ?_)
    show wpAny _ A.in1 (ret Value.none) _ _ s'
    have e : ns.take i = ns := List.take_of_length_le (by omega)
    rw [e] at hS
    exact wpAny_pure (hR s' c (hm.mono hsub) hc (hS.at fun o e => hm.heap S o hSw e))
  | succ k ih =>
    intro i s hk' hi hst ⟨c, hc, hS⟩ hR
    have hlt : i < n := by omega
    refine codeAny_builtin F.entry_set_update_loop ?_
    rw [Around.under_plainId F.plain_set_update_loop _]
    show wpAny _ A.in1 (pyNext (.ref I) >>= _) _ _ s
    refine wpAny_bind (W.item i s _ _ hlt hst fun v s' hP hst' hm => ?_)
    obtain ⟨z, t, hz, rfl⟩ := hval i v hP
    have hS' : SetS w s'.heap S (fun j => decide (j ∈ ns.take i)) c := hS.at fun o e => hm.heap S o hSw e
    show wpAny _ A.in1 (holding [Value.str z t] (setAdd S (.str z t)) >>= _) _ _ s'
    refine wpAny_bind (wpAny_holding ?_)
    unfold setAdd
    refine wpAny_holding ?_
    refine wpAny_bind ((PySem.strKind P w).pyHash (k := z) (isS) ?_)
    refine setS_add_hashed (s := { s' with toks := s'.toks + 1 }) hS' (by omega) fun h' hsb hS2 => ?_
    have hS3 : SetS w h' S (fun j => decide (j ∈ ns.take (i + 1))) (if decide (z ∈ ns.take i) = true then c else c + 1) := hS2.congr fun j => by
      rw [List.take_add_one, hz]
      simp [List.mem_append]
    have hc3 : (if decide (z ∈ ns.take i) = true then c else c + 1) ≤ i + 1 := by
      split <;> omega
    refine wpAny_pure ⟨plainId_quiet F.plain_set_update_loop _, ih (i + 1) _ (by omega) hlt (W.frame _ s' _ _ hst' (Nat.le_succ _) fun b hb o e => ?_) ⟨_, hc3, hS3⟩ fun s'' c2 hm'' hc'' hS'' => ?_⟩
    · rw [hsb.2 b (fun h : b = S => hSf (by rw [← h]; exact hb))]; exact e
    · refine hR s'' c2 (Moved.trans W.gtrans ((hm.mono hsub).then_heap (Nat.le_succ _) fun b o hb e => ?_) hm'') hc'' hS''
      rw [hsb.2 b (fun h : b = S => hb (by rw [h]; exact List.mem_cons_self))]; exact e

set_option maxHeartbeats 3200000 in
theorem call_set_lstS {l : Addr} {items : Array Value} (ns : List Str) {Q : Value → Shared → Prop} (hh : A.handled = none) (hl : s.heap.IsList l items) (hit : StrsAre items.toList ns) (hb : ns.length + 1 < scanBound)
    (h : ∀ (h' : Heap) (tk c : Nat), SetS w h' s.heap.objs.size (fun j => decide (j ∈ ns)) c → c ≤ ns.length → (∀ b o, s.heap.get? b = some o → h'.get? b = some o) → Q (.ref s.heap.objs.size) { s with heap := h', toks := tk }) :
    wpAny (model P w) A (call (.type "set") [.ref l]) Q E s := by
  have hisz : items.size = ns.length := by
    have q := StrsAre.length hit
    rw [Array.length_toList] at q
    exact q
  obtain ⟨c, tl, hmro⟩ := F.called_set.mro
  have hmade := F.called_set.made
  have hsub := F.called_set.sub
  refine wpAny_call (codeAny_of_tree ?_)
  show wpAny _ _ (callAny (.type "set") _) _ _ _
  refine wpAny_pure ⟨Code.quiet_builtin _ (by decide +kernel), codeAny_builtin F.entry_type_call ?_⟩
  rw [Around.under_plain (weight_type_call_type "set" [.ref l] []) rfl]
  have h1 := F.called_set.notType
  have h2 := F.called_set.canCreate
  have hct := F.typeCall_set_1 (.ref l)
  repeat (any_goals (first | assumption | wp_step))

  refine codeAny_mono (code_set_led1 (.ref l) (E := E) (Q₁ := fun obj s₁ => obj = .ref s.heap.objs.size ∧ s₁ = { s with heap := s.heap.push { cls := .type "set", dict := none, data := .set #[] 0 (.fresh 0 0 (!w.params.followText "set-order")) } }) ⟨rfl, rfl⟩) fun r s₁ hr => ?_
  cases r with
  | error e => exact hr
  | ok fl =>
    cases fl with
    | ret obj =>
      obtain ⟨rfl, rfl⟩ := hr
      have hS : (s.heap.push { cls := .type "set", dict := none, data := .set #[] 0 (.fresh 0 0 (!w.params.followText "set-order")) }).get? s.heap.objs.size = some { cls := .type "set", dict := none, data := .set #[] 0 (.fresh 0 0 (!w.params.followText "set-order")) } := Heap.get?_push_size _ rfl
      have hT : Shared.TypeIs { s with heap := s.heap.push { cls := .type "set", dict := none, data := .set #[] 0 (.fresh 0 0 (!w.params.followText "set-order")) } } (.ref s.heap.objs.size) "set" := ⟨_, hS, rfl⟩
      have hli := F.called_set.init.lookup
      have hbi := F.called_set.init.bind (.ref s.heap.objs.size)
      repeat (any_goals (first | assumption | wp_step))

      refine codeAny_mono (codeAny_call_builtin (R := wants (fun r s₂ => r = .none ∧ ∃ h' tk c, s₂ = { s with heap := h', toks := tk } ∧ SetS w h' s.heap.objs.size (fun j => decide (j ∈ ns)) c ∧ c ≤ ns.length ∧
          (∀ b o, s.heap.get? b = some o → h'.get? b = some o)) E) F.called_set.init.plain F.entry_set_init (check_set_init_1 hT ?_)) fun r₂ s₂ hr₂ => ?_
      · obtain ⟨ol, hol, hcl, nl, hdl⟩ := hl
        obtain ⟨ocls, odict, odata, oslots⟩ := ol
        simp only at hcl hdl
        subst hcl; subst hdl
        have hol' : (s.heap.push { cls := .type "set", dict := none, data := .set #[] 0 (.fresh 0 0 (!w.params.followText "set-order")) }).get? l = some { cls := .type "list", dict := odict, data := .seq items nl, slots := oslots } := Heap.get?_push_of_some _ hol
        have hsls := F.sub_list_set
        have hslf := F.sub_list_frozenset
        have hne : (Value.type "list" == Value.type "dict") = false := by decide
        have hl1 : (s.heap.push { cls := .type "set", dict := none, data := .set #[] 0 (.fresh 0 0 (!w.params.followText "set-order")) }).IsList l items := ⟨_, hol', rfl, nl, rfl⟩
        unfold Builtin.«set.__init__» noKeywords Builtin.Frozenset.updateFrom
        generalize hPI : pyIter = PI
        wp_walk
        subst hPI

        refine wpAny_pyIter_list hl1 ?_
        refine wpAny_bind (wpAny_runValue ?_)
        have hlS : l < s.heap.objs.size := Heap.lt_size hol
        have hh3 : A.in1.in1.in1.handled = none := by simp [hh]
        have hz1 : (s.heap.push { cls := .type "set", dict := none, data := .set #[] 0 (.fresh 0 0 (!w.params.followText "set-order")) }).objs.size = s.heap.objs.size + 1 := Heap.size_push ..
        have hneI : l ≠ (s.heap.push { cls := .type "set", dict := none, data := .set #[] 0 (.fresh 0 0 (!w.params.followText "set-order")) }).objs.size := by
          rw [Heap.size_push]; exact Nat.ne_of_lt (Nat.lt_succ_of_lt hlS)
        have hSf : s.heap.objs.size ∉ [(s.heap.push { cls := .type "set", dict := none, data := .set #[] 0 (.fresh 0 0 (!w.params.followText "set-order")) }).objs.size, l] := by
          rw [Heap.size_push]; simp only [List.mem_cons, List.mem_singleton, List.not_mem_nil, or_false, not_or]
          exact ⟨Nat.ne_of_lt (Nat.lt_succ_self _), Nat.ne_of_gt hlS⟩
        have hval : ∀ (i : Nat) (v : Value), items[i]? = some v → ∃ k t, ns[i]? = some k ∧ v = .str k t := fun i v hv => by
          have hi : i < ns.length := by rw [← hisz]; exact (Array.getElem?_eq_some_iff.mp hv).1
          obtain ⟨t, e⟩ := SS.strs_at hit i v (by rw [Array.getElem?_toList]; exact hv)
          refine ⟨ns[i], t, List.getElem?_eq_getElem hi, ?_⟩
          rw [e, List.getD_eq_getElem?_getD, List.getElem?_eq_getElem hi] <;> rfl
        refine set_update_strs ((Walks.list hh3 _ l hneI items).toS) s.heap.objs.size
          hSf ns hisz hb hval (items.size - 0) 0 _ (by omega) (Nat.zero_le _)
          ⟨⟨_, Heap.get?_push_size _ rfl, rfl, rfl⟩, (hl1.push _)⟩ ?hS0 ?hR
        case hS0 =>
          have hget : ((s.heap.push { cls := .type "set", dict := none, data := .set #[] 0 (.fresh 0 0 (!w.params.followText "set-order")) }).push { cls := .type "list_iterator", data := .fields #[.ref l, .int 0 0] }).get? s.heap.objs.size
              = some { cls := .type "set", dict := none, data := .set #[] 0 (.fresh 0 0 (!w.params.followText "set-order")) } := Heap.get?_push_of_some _ hS
          exact ⟨0, Nat.le_refl 0, setS_new_at hget⟩
        case hR =>
          intro s' c' hm hc' hS'
          obtain ⟨h', g2, d', tk', os'⟩ := s'
          have eg : g2 = s.gens := hm.gens
          have ed : d' = s.drawn := hm.drawn
          have eo : os' = s.os := hm.os
          subst eg; subst ed; subst eo
          show wpAny _ _ _ _ _ _
          refine wpAny_pure ?_
          show wpAny _ _ (ret Value.none) _ _ _
          rw [hisz] at hc'
          refine wpAny_pure ⟨rfl, h', tk', c', rfl, hS', hc', fun b o e => ?_⟩
          have hb0 : b < s.heap.objs.size := Heap.lt_size e
          have hb1 : b ≠ s.heap.objs.size := Nat.ne_of_lt hb0
          have hb2 : b ≠ (s.heap.push { cls := .type "set", dict := none, data := .set #[] 0 (.fresh 0 0 (!w.params.followText "set-order")) }).objs.size := by
            rw [Heap.size_push]; exact Nat.ne_of_lt (Nat.lt_succ_of_lt hb0)
          exact hm.heap b o (by simp only [List.mem_cons, List.mem_singleton, List.not_mem_nil, or_false, not_or]; exact ⟨hb1, hb2⟩) (Heap.get?_push_of_some _ (Heap.get?_push_of_some _ e))

      · cases r₂ with
        | error e => exact hr₂
        | ok fl₂ =>
          cases fl₂ with
          | ret r =>
            obtain ⟨rfl, h', tk, c', rfl, hS', hc', hk'⟩ := hr₂
            repeat (any_goals (first | assumption | wp_step))
            exact h _ _ _ hS' hc' hk'
          | _ => exact hr₂.elim
    | _ => exact hr.elim

end
end DLS


set_option maxRecDepth 100000
namespace DL
open PySem PySem.Spec PyProof.Rows L2

/-! ## sorted(set(list of texts)), len(set(list of texts)) -/
def leW (a b : List Nat) : Bool := decide (a ≤ b)
def uniqW : List (List Nat) → List (List Nat)
  | [] => []
  | x :: xs => if x ∈ uniqW xs then uniqW xs else x :: uniqW xs
theorem uniqW_mem {x : List Nat} : ∀ {xs : List (List Nat)}, x ∈ uniqW xs ↔ x ∈ xs
  | [] => Iff.rfl
  | y :: xs => by
    unfold uniqW
    split
    · rename_i h
      rw [uniqW_mem, List.mem_cons]
      constructor
      · exact .inr
      · rintro (e | e)
        · rw [e]; exact uniqW_mem.mp h
        · exact e
    · rw [List.mem_cons, List.mem_cons, uniqW_mem]
theorem uniqW_nd : ∀ {xs : List (List Nat)}, (uniqW xs).Nodup
  | [] => .nil
  | y :: xs => by
    unfold uniqW
    split
    · exact uniqW_nd
    · rename_i h
      exact List.nodup_cons.mpr ⟨h, uniqW_nd⟩
theorem wle_tr {a b c : List Nat} (h1 : a ≤ b) (h2 : b ≤ c) : a ≤ c := Std.IsPreorder.le_trans a b c h1 h2
theorem wle_tot (a b : List Nat) : a ≤ b ∨ b ≤ a := Std.Total.total a b
theorem sortW_eq {xs ys : List (List Nat)} (hp : xs.Perm ys) : xs.mergeSort leW = ys.mergeSort leW := by
  have so : ∀ zs : List (List Nat), (zs.mergeSort leW).Pairwise fun x y => x ≤ y := by
    intro zs
    have := List.pairwise_mergeSort (le := leW) (fun a b c h1 h2 => by
      unfold leW at *
      simp only [decide_eq_true_eq] at h1 h2 ⊢
      exact wle_tr h1 h2) (fun a b => by
      unfold leW
      simp only [Bool.or_eq_true, decide_eq_true_eq]
      exact wle_tot _ _) zs
    unfold leW at this ⊢
    simpa using this
  refine List.Perm.eq_of_pairwise (le := fun x y => x ≤ y) (fun a b _ _ h1 h2 => Std.le_antisymm h1 h2) (so xs) (so ys) ?_
  exact (List.mergeSort_perm _ _).trans (hp.trans (List.mergeSort_perm _ _).symm)
theorem leD2_str0 (a b : List Nat) : leD2 (.str a) (.str b) = leW a b := by
  have e : PySem.W.dataLt (D.str b).dat (D.str a).dat = decide (b < a) := PySem.W.dataLt_str (S b) (S a)
  unfold leD2 leW
  rw [e]
  by_cases h : b < a
  · rw [decide_eq_true h, decide_eq_false (fun r => List.not_lt.mpr r h)]; rfl
  · rw [decide_eq_false h, decide_eq_true (List.not_lt.mp h)]; rfl
theorem sortD_str0 (ws : List (List Nat)) : sortD (ws.map D.str) = (ws.mergeSort leW).map D.str := by
  exact (List.map_mergeSort (r := leW) (s := leD2) (f := D.str) (fun a _ b _ => (leD2_str0 a b).symm)).symm
theorem dats_str (ws : List (List Nat)) : D.dats (ws.map D.str) = ws.map fun w => PyData.str (S w) := by
  rw [dats_map, List.map_map]
  rfl
theorem plain_str0 : ∀ ws : List (List Nat), PyData.plainAll (ws.map fun w => PyData.str (S w)) = true
  | [] => rfl
  | w :: ws => by
    rw [List.map_cons]
    show (true && PyData.plainAll _) = true
    rw [plain_str0 ws]
    rfl
theorem depth_str0 : ∀ ws : List (List Nat), PyData.depthAll (ws.map fun w => PyData.str (S w)) ≤ 1
  | [] => by simp [PyData.depthAll]
  | w :: ws => by
    rw [List.map_cons]
    have := depth_str0 ws
    simp only [PyData.depthAll, PyData.depth]
    omega
theorem okSort_str0 {ws : List (List Nat)} (hl : ws.length ≤ 100000) : okSort (ws.map D.str) = true := by
  unfold okSort
  rw [dats_str]
  simp only [Bool.and_eq_true, Bool.or_eq_true, decide_eq_true_eq, List.all_eq_true, List.mem_map, List.length_map]
  refine ⟨⟨⟨⟨?_, .inr ?_⟩, plain_str0 ws⟩, by have := depth_str0 ws; omega⟩, by omega⟩
  · rintro _ ⟨a, _, rfl⟩ _ ⟨b, _, rfl⟩
    rfl
  · rintro _ ⟨a, _, rfl⟩
    rfl
/-- the set at p, of the texts ws -/
def SetHO (w : World) (p : Addr) (ws : List Str) : HO := .ext fun h => ∃ c, DLS.SetS w h p (fun j => decide (j ∈ ws)) c ∧ c ≤ ws.length
section
variable {X : Cx} {η : Nat → Addr} {N : Nat} {H : Hp}
theorem strs_are : ∀ {ws : List Str} {us : List Value}, Vals (ws.map V.str) us → StrsAre us ws
  | [], _, r => by cases r; exact .nil
  | w :: ws, _, r => by
    rw [List.map_cons] at r
    cases r with
    | cons a b =>
      obtain ⟨t, rfl⟩ := a
      exact .cons w t (strs_are b)
def rSetLs (K : PySem.W.Frag) (w : World) : List V → Hp → VK → Prop := fun xs H Q => ∃ l ws, xs = [.ref l] ∧ SqL K H l (ws.map V.str) ∧ ws.length + 1 < scanBound ∧ ∀ p, H p = none → Q (.ref p) (upd H p (SetHO w p ws))
theorem cr_setLs (hc : X.calm = true) : CallR X (.type "set") (rSetLs X.K X.w) := by
  intro pins s σ H xs us Q I r h
  obtain ⟨l, ws, rfl, hl, hb, q⟩ := h
  obtain ⟨its, hv, pl, hz⟩ := I.list hl
  rw [Vals.ref1 r]
  refine DLS.call_set_lstS ws (I.ok.hd hc) pl.isList (by simpa using strs_are hv) hb fun h' tk c R hcn hk => ?_
  have he : ∃ o, h'.get? s.heap.objs.size = some o := by
    obtain ⟨o, _, _, _, ho, _⟩ := R
    exact ⟨o, ho⟩
  exact ⟨.ref _, upd H s.heap.objs.size (SetHO X.w s.heap.objs.size ws), I.laid (t' := tk) hk (Nat.le_refl _) ⟨⟨c, R, hcn⟩, he, fun h1 h2 ⟨c, p, hc⟩ k => ⟨c, p.at k, hc⟩⟩, rfl, q _ (I.hok.fresh (Nat.le_refl _))⟩
/-- the texts of values -/
def strV : Value → Str
  | .str k _ => k
  | _ => Str.empty
theorem strs_of : ∀ (l : List Value), (∀ v ∈ l, ∃ k tk, v = Value.str k tk) → Vals ((l.map strV).map V.str) l
  | [], _ => .nil
  | v :: l, h => by
    obtain ⟨k, tk, rfl⟩ := h v List.mem_cons_self
    exact .cons ⟨tk, rfl⟩ (strs_of l fun u hu => h u (List.mem_cons_of_mem _ hu))
theorem rel_strs : ∀ ks : List Str, RelDs η N H (ks.map fun k => D.str k.cps.toList) (ks.map V.str)
  | [] => rfl
  | k :: ks => ⟨V.str k, _, rfl, by show V.str k = V.str (S k.cps.toList); rw [S_toList], rel_strs ks⟩
theorem rel_strs_eq : ∀ {ws : List (List Nat)} {vs : List V}, RelDs η N H (ws.map D.str) vs → vs = ws.map fun x => V.str (S x)
  | [], _, r => r
  | w :: ws, _, r => by
    rw [List.map_cons] at r
    obtain ⟨x, vs, rfl, r1, r2⟩ := r
    rw [rel_strs_eq r2, List.map_cons, show x = V.str (S w) from r1]
theorem key_strV (e : Int × Value) : strV e.2 = DLS.keyS e := by
  obtain ⟨h, v⟩ := e
  cases v <;> rfl
theorem cps_inj {a b : Str} (h : a.cps.toList = b.cps.toList) : a = b := by rw [← S_toList a, ← S_toList b, h]
/-- sorted of it -/
def rSortS (w : World) : List V → Hp → VK → Prop := fun xs H Q => ∃ p ws, xs = [.ref p] ∧ H p = some (SetHO w p ws) ∧ ws.length ≤ 10000 ∧ ∀ l, H l = none → Q (.ref l) (upd H l (.lst (((uniqW (ws.map fun k => k.cps.toList)).mergeSort leW).map fun x => V.str (S x))))
theorem cr_sortS (hc : X.calm = true) (hu : X.A.units + 64 < cLine) : CallR X (.builtin "sorted") (rSortS X.w) := by
  intro pins s σ H xs us Q I r h
  obtain ⟨p, ws, rfl, hp, hwl, q⟩ := h
  rw [Vals.ref1 r]
  obtain ⟨⟨c, R, hcn⟩, _⟩ := I.hok p _ hp
  obtain ⟨o, es, ep, t, ho, hex, hd, g, nd, hm, hb, hf, hn, hr, hl⟩ := R
  refine Calls.call_function_entry PyProof.Rows.kind_sorted PyProof.Rows.plain_sorted PyProof.Rows.entry_sorted (PyProof.Rows.args_sorted1 _) ?_
  unfold Builtin.«sorted»
  refine wpAny_bind (m := checkCount "sorted" 1 1 _) (wpAny_pure ?_)
  refine wpAny_bind (collect_set (A := X.A.in1) (I.ok.hd hc) ⟨o, ho, hex.1, hd⟩ hf hb hr hl fun s1 its k1 hz g1 o1 pm => ?_)
  have e1 : s1 = { s with heap := s1.heap, gens := s1.gens, drawn := s1.drawn, toks := s1.toks } := by
    cases s1
    cases s
    cases o1
    rfl
  have I1 : Inv X pins σ H s1 := by
    rw [e1]
    exact I.call (ch := []) (Un.kept k1) (I.hok.kept k1) (by rw [g1]; exact I.bare) (fun _ z => nomatch z)
  have hvs : ∀ v ∈ its, ∃ k tk, v = Value.str k tk := fun v hv => by
    obtain ⟨e, he, q⟩ := List.mem_map.mp (pm.mem_iff.mp hv)
    obtain ⟨k, tk, h1, _⟩ := g e he
    exact ⟨k, tk, by rw [← q]; exact h1⟩
  have hv := strs_of its hvs
  have pk : (its.map strV).Perm (es.toList.map DLS.keyS) := by
    have q := pm.map strV
    rw [List.map_map] at q
    have : (strV ∘ fun e : Int × Value => e.2) = DLS.keyS := funext key_strV
    rw [this] at q
    exact q
  have hil : its.length ≤ 10000 := by rw [pm.length_eq, List.length_map, Array.length_toList]; omega
  have hlk : (its.map strV).length = its.length := List.length_map _
  have ndk : (its.map strV).Nodup := pk.nodup_iff.mpr nd
  have hmk : ∀ k, k ∈ its.map strV ↔ k ∈ ws := fun k => by
    rw [pk.mem_iff, ← hm k, decide_eq_true_iff]
  have hW : ((its.map strV).map fun k => k.cps.toList).mergeSort leW = (uniqW (ws.map fun k => k.cps.toList)).mergeSort leW := by
    refine sortW_eq ((List.perm_ext_iff_of_nodup ?_ uniqW_nd).mpr fun x => ?_)
    · exact List.Pairwise.map _ (fun a b h e => h (cps_inj e)) ndk
    · rw [uniqW_mem, List.mem_map, List.mem_map]
      constructor
      · rintro ⟨k, h1, h2⟩; exact ⟨k, (hmk k).mp h1, h2⟩
      · rintro ⟨k, h1, h2⟩; exact ⟨k, (hmk k).mpr h1, h2⟩
  generalize its.map strV = ks at hv ndk hmk hW hlk
  have h2 := rel_strs (η := fun _ => 0) (N := 0) (H := H) ks
  have hds : (ks.map fun k => D.str k.cps.toList) = (ks.map fun k => k.cps.toList).map D.str := by rw [List.map_map]; rfl
  have c := okSort_str0 (ws := ks.map fun k => k.cps.toList) (by rw [List.length_map]; omega)
  rw [hds] at h2
  have hdl : ((ks.map fun k => k.cps.toList).map D.str).length = its.length := by rw [List.length_map, List.length_map]; exact hlk
  generalize hdk : (ks.map fun k => k.cps.toList).map D.str = dks at h2 c hdl
  generalize hvv : ks.map V.str = vs at h2 hv
  simp only [okSort, Bool.and_eq_true, Bool.or_eq_true, decide_eq_true_eq, List.all_eq_true] at c
  obtain ⟨⟨⟨⟨c1, c2⟩, c3⟩, c4⟩, c5⟩ := c
  have hal : its.toArray.toList.length = dks.length := by show its.length = _; rw [hdl]
  refine wpAny_bind (wpAny_newList ?_ (by rw [sizeLine_eq]; omega))
  have hoL : (s1.heap.push (seqObj "list" its.toArray.toList.toArray 0)).get? s1.heap.objs.size = some (seqObj "list" its.toArray.toList.toArray 0) := Heap.get?_push_size _ rfl
  have hlen : (dks.zip vs).length = dks.length := by rw [List.length_zip, h2.length]; omega
  have hb : (dks.zip vs).map (fun p => p.1.dat) = D.dats dks := by
    have hz := zip_fst h2
    rw [dats_map]
    conv => rhs; rw [← hz, List.map_map]
    rfl
  have pl : ∀ p ∈ dks.zip vs, p.1.dat.plain = true ∧ p.1.dat.depth ≤ 60 := by
    intro p hp
    have hm : p.1 ∈ dks := (List.of_mem_zip (a := p.1) (b := p.2) hp).1
    exact ⟨plain_mem c3 hm, Nat.le_trans (depth_mem hm) c4⟩
  have hrel := zip_rel h2
  have er0 : ∀ {zs : List (D × V)} {ws : List Value}, (∀ p ∈ zs, p.1.dat.plain = true ∧ RelD (fun _ => 0) 0 H p.1 p.2) → PySem.W.EachIs (fun v p => RelV p.2 v) ws zs → PySem.W.EachIs (fun v p => ∃ as, Reads (s1.heap.push (seqObj "list" its.toArray.toList.toArray 0)) v p.1.dat as ∧ s1.heap.objs.size ∉ as) ws zs := by
    intro zs ws hz he
    induction he with
    | nil => exact .nil
    | cons q _ ih =>
      refine .cons ?_ (ih fun p hp => hz p (by simp [hp]))
      obtain ⟨as, ra⟩ := Dp.reads I1 _ _ _ (RelD.dp _ _ (hz _ (by simp)).2 (hz _ (by simp)).1) q
      exact ⟨as, PyProof.Rows.Reads.keeps (fun _ _ e => Heap.get?_push_of_some _ e) ra, fun hm => Nat.lt_irrefl _ (reads_lt ra _ hm)⟩
  have e0 := each_of (R := fun v p => RelV p.2 v) (fun _ _ h => h) h2 (show Vals vs its.toArray.toList from hv)
  show wpAny _ _ _ _ _ { s1 with heap := s1.heap.push (seqObj "list" its.toArray.toList.toArray 0) }
  refine wpAny_bind (wpAny_holding (PySem.W.list_sort_data (s := { s1 with heap := s1.heap.push (seqObj "list" its.toArray.toList.toArray 0) }) (bs := dks.zip vs) (enc := fun p => p.1.dat) (R := fun v p => RelV p.2 v) hoL e0 (er0 (fun p hp => ⟨(pl p hp).1, hrel p hp⟩) e0) (by rw [hb]; exact c1) (by
    rw [hb]
    rcases c2 with c2 | c2
    · left
      intro d hd
      have := c2 d hd
      cases d with
      | tuple l => cases l with
        | nil => simp [isTup1] at this
        | cons x r => exact ⟨x, r, rfl⟩
      | _ => simp [isTup1] at this
    · right
      intro d hd
      have := c2 d hd
      refine ⟨fun z => by subst z; simp [noTup] at this, fun xs z => by subst z; simp [noTup] at this⟩) (by rw [hlen, sizeLine_eq]; exact c5) (fun p hp => by
    have := (pl p hp).2
    show X.A.units + 1 + 1 + p.1.dat.depth < cLine
    omega) fun out ho eo => ?_))
  obtain ⟨e', he'⟩ := PyProof.Rows.sortedHeap_at (vs := its.toArray.toList) (out := List.toArray out) hoL
  generalize hps : (dks.zip vs).mergeSort (PySem.W.dataLe false fun p => p.1.dat) = ps at eo
  have hperm : ∀ p ∈ ps, p ∈ dks.zip vs := fun p hp => by rw [← hps] at hp; exact List.mem_mergeSort.mp hp
  have hD : ps.map (·.1) = sortD dks := by
    rw [← hps, List.map_mergeSort (s := leD2) (f := fun p : D × V => p.1) (fun a _ b _ => by rfl), zip_fst h2]
    rfl
  have hvl := vals_each eo
  have hlo : (ps.map (·.2)).length ≤ sizeLine := by
    have : ps.length = dks.length := by rw [← hps, List.length_mergeSort, hlen]
    rw [List.length_map, this, sizeLine_eq]
    exact c5
  have hrr := rel_unzip (η := fun _ => 0) (N := 0) (H := H) (ps := ps) fun p hp => hrel p (hperm p hp)
  rw [hD, ← hdk, sortD_str0] at hrr
  have hout := rel_strs_eq hrr
  rw [hW] at hout
  have q' := q s1.heap.objs.size (I1.hok.fresh (Nat.le_refl _))
  rw [← hout] at q'
  refine wpAny_pure ⟨_, rfl, .ref s1.heap.objs.size, upd H s1.heap.objs.size (.lst (ps.map (·.2))), I1.laid (t' := s1.toks) (fun b u e => ?_) (Nat.le_refl _)
    (show ObjOk X.prog X.w _ _ _ (.lst (ps.map (·.2))) from ⟨hlo, out, e', hvl, he'⟩), rfl, q'⟩
  have hb : b < s1.heap.objs.size := Heap.lt_size e
  rw [PyProof.Rows.sortedHeap_old (Nat.ne_of_lt hb) (by rw [size_push']; exact Nat.lt_succ_of_lt hb)]
  exact Heap.get?_push_of_some _ e
/-! ### the expression sorted(set(e)) -/
def sortedSetL : OpL := fun ds h => match ds with
  | [.ref n] => match h[n]? with
    | some (.lst ds) => match strsOf ds with
      | some ws => if ws.length ≤ 4000 then some (.ref h.length, h ++ [.lst (((uniqW (ws.map fun k => k.cps.toList)).mergeSort leW).map D.str)]) else none
      | none => none
    | _ => none
  | _ => none
theorem rel_strs2 : ∀ ws : List (List Nat), RelDs η N H (ws.map D.str) (ws.map fun x => V.str (S x))
  | [] => rfl
  | w :: ws => ⟨V.str (S w), _, rfl, rfl, rel_strs2 ws⟩
theorem de_sortSet {W : WX} {a : Expr} {fs : SA} {p1 p2 pos1 pos2 : Pos} (hc : X.calm = true) (hu : X.A.units + 64 < cLine) (hg1 : Gl X "sorted") (hm1 : X.mg "sorted" = none) (hg2 : Gl X "set") (hm2 : X.mg "set" = none) (ha : DA X W [a] fs)
    (hv1 : bootBuiltins "sorted" = some (.builtin "sorted")) (hv2 : bootBuiltins "set" = some (.type "set"))
    (he2 : starEach [a] X.env = (false, eval a X.env) :: starEach [] X.env := by rfl) (hpl2 : (backTo pos2 (starEach [] X.env)).any (·.1) = false := by rfl)
    (he1 : starEach [.Call (.Name "set" p2) [a] [] pos2] X.env = (false, eval (.Call (.Name "set" p2) [a] [] pos2) X.env) :: starEach [] X.env := by rfl) (hpl1 : (backTo pos1 (starEach [] X.env)).any (·.1) = false := by rfl) :
    DE X W (.Call (.Name "sorted" p1) [.Call (.Name "set" p2) [a] [] pos2] [] pos1) (dCallB sortedSetL fs) := PE.imp (pe_callB (cr_sortS hc hu) hg1 hm1 hv1 (pa_cons (pe_callTy (cr_setLs hc) hg2 hm2 hv2 ha (by decide) (by decide) he2 hpl2) pa_nil he1) (by decide) (by decide) he1 hpl1) fun σ H Q h => by
  obtain ⟨η, σd, ah, sim, h⟩ := h
  refine tA_bind sim h fun ds ah1 η1 xs H1 s1 e1 r1 h1 => ?_
  have a := AnsP.of h1
  unfold sortedSetL at a
  split at a
  · rename_i n
    obtain ⟨v, r', rfl, ⟨hn, rfl⟩, rfl⟩ := r1
    split at a
    · rename_i ds e
      split at a
      · rename_i ws e2
        obtain ⟨c, a⟩ := a.ite
        obtain ⟨vs, g1, g2⟩ := s1.hh.obj n _ e
        have hvs := strsOf_rel g2 e2
        rw [hvs] at g1
        refine ⟨η1 n, ws, rfl, .of g1, by unfold scanBound; omega, fun p hp => ?_⟩
        refine ⟨p, ws, rfl, upd_same, by omega, fun l hl => ?_⟩
        obtain ⟨d, h', e3, q⟩ := a
        cases e3
        exact AnsP.lst (Q := Q) ⟨_, _, rfl, fun η' v H' x r d => q η' v H' ((ext_tup hp).trans x) r d⟩ (relH_tup s1.hh hp) (rel_strs2 _) hl
      · exact a.none.elim
    · exact a.none.elim
  · exact a.none.elim
end
end DL


set_option maxRecDepth 100000
set_option maxHeartbeats 4000000
namespace DL
open PySem PySem.Spec PyProof.Rows L2
/-! ## list.pop(i) -/
theorem rel_erase : ∀ {ds : List D} {vs : List V} (k : Nat), RelDs η N H ds vs → RelDs η N H (ds.eraseIdx k) (vs.eraseIdx k) := by
  intro ds vs k r
  have e1 : ds.eraseIdx k = ds.take k ++ ds.drop (k + 1) := List.eraseIdx_eq_take_drop_succ ds k
  have e2 : vs.eraseIdx k = vs.take k ++ vs.drop (k + 1) := List.eraseIdx_eq_take_drop_succ vs k
  rw [e1, e2]
  exact (r.take k).append (r.drop (k + 1))
def mPopAt : OpM := fun x xs h => match x, xs with
  | .ref n, [.int i] => match h[n]? with
    | some (.lst ds) => if -(2 ^ 63) ≤ i ∧ i < 2 ^ 63 then (seqIndex? i ds.length).bind fun k => (ds[k]?).map fun d => (d, h.set n (.lst (ds.eraseIdx k))) else none
    | _ => none
  | _, _ => none
section
variable {X : Cx} {η : Nat → Addr} {N : Nat} {H : Hp}
theorem AnsP.setR {K : PySem.W.Frag} {mg : Str → Option Value} {n : Nat} {x : D} {w : V} {ds ds' : List D} {vs : List V} (h : AnsP K mg η ah.length H (some (x, ah.set n (.lst ds'))) Q) (hh : RelH K mg η ah H) (e : ah[n]? = some (.lst ds)) (r : RelDs η ah.length H ds' vs) (rx : RelD η ah.length H x w) : Q w (upd H (η n) (.lst vs)) := by
  obtain ⟨d, h', e', q⟩ := h
  cases e'
  obtain ⟨k1, k2⟩ := relH_lst hh e r
  exact q η w _ k2 k1 (RelD.ext k2 _ _ rx)
theorem mt_popAtD : MtR X "list.pop" (rDM X.K X.mg mPopAt) := by
  intro pins s σ H x xs v us Q I rx rv ⟨η, ah, dx, ds, hh, r1, r2, a⟩
  unfold mPopAt at a
  split at a
  · rename_i n i
    obtain ⟨w, r', rfl, rw', rfl⟩ := r2
    obtain ⟨hn, rfl⟩ := r1
    rw [show w = V.int i from rw'] at rv
    split at a
    · rename_i ds e
      obtain ⟨c, a⟩ := a.ite
      obtain ⟨vs, h1, h2⟩ := hh.obj n _ e
      cases hk : seqIndex? i ds.length with
      | none => rw [hk] at a; exact a.none.elim
      | some k =>
        rw [hk] at a
        cases hd : ds[k]? with
        | none => rw [show ((some k : Option Nat).bind fun k => (ds[k]?).map fun d => (d, ah.set n (.lst (ds.eraseIdx k)))) = (ds[k]?).map (fun d => (d, ah.set n (.lst (ds.eraseIdx k)))) from rfl, hd] at a; exact a.none.elim
        | some d =>
          rw [show ((some k : Option Nat).bind fun k => (ds[k]?).map fun d => (d, ah.set n (.lst (ds.eraseIdx k)))) = (ds[k]?).map (fun d => (d, ah.set n (.lst (ds.eraseIdx k)))) from rfl, hd] at a
          obtain ⟨y, hy, ry⟩ := h2.get hd
          exact mt_popAt pins s σ H _ _ v us Q I rx rv ⟨_, vs, i, k, y, rfl, rfl, h1, c.1, c.2, by rw [h2.length]; exact hk, hy, a.setR hh e (rel_erase k h2) ry⟩
    · exact a.none.elim
  · exact a.none.elim
end
end DL


set_option maxRecDepth 100000
set_option maxHeartbeats 4000000
namespace PySem
open Sem (wp)
open AutoSeq1 (wpAny_loadPart')
theorem meets_enumerate_newT (l : Addr) (items : Array Value) (n : Nat) (dct : Option Addr) (sl : Array (Option Value)) :
    Meets (Builtin.«enumerate.__new__» ⟨[.type "enumerate", .ref l], []⟩) (fun _ R s => s.heap.get? l = some { cls := .type "tuple", dict := dct, data := .seq items n, slots := sl } ∧
      R (.ok (.ret (.ref (s.heap.push { cls := .type "tuple_iterator", data := .fields #[.ref l, .int 0 0] }).objs.size)))
        { s with heap := (s.heap.push { cls := .type "tuple_iterator", data := .fields #[.ref l, .int 0 0] }).push { cls := .type "enumerate", data := .fields #[.none, .bool false, .ref s.heap.objs.size, rawInt 0, .none, .none] } }) :=
  .of_wp fun prog w A R s h => by
    obtain ⟨hp, g, d, tk, os⟩ := s; obtain ⟨hl, h⟩ := h
    have hsub := sub_enumerate
    have hL : Heap.IsTuple (Shared.heap ⟨hp, g, d, tk, os⟩) l items := ⟨_, hl, rfl, n, rfl⟩
    wp_walk using wpAny_loadPart' hl
    refine wpAny_stack_any fun st => wpAny_pure ?_
    split
    · rename_i c _ _ _ _ _
      cases (c == Value.type "enumerate")
      · wp_walk using wpAny_loadPart' hl, wpAny_pyIter_tuple hL
        exact ⟨_, rfl, h⟩
      · wp_walk using wpAny_loadPart' hl, wpAny_pyIter_tuple hL
        exact ⟨_, rfl, h⟩
    · wp_walk using wpAny_loadPart' hl, wpAny_pyIter_tuple hL
      exact ⟨_, rfl, h⟩
theorem call_enumerate_tuple {prog : Program} {w : World} {A : Around} {E : Value → Shared → Prop} {s : Shared} {l : Addr} {items : Array Value} {Q : Value → Shared → Prop} (hL : s.heap.IsTuple l items)
    (h : ∀ h', IsEnum h' (s.heap.objs.size + 1) s.heap.objs.size 0 .none → h'.IsTupleIter s.heap.objs.size l 0 → h'.objs.size = s.heap.objs.size + 2 →
      (∀ b o, s.heap.get? b = some o → h'.get? b = some o) → Q (.ref (s.heap.objs.size + 1)) { s with heap := h' }) :
    wpAny (model prog w) A (call (.type "enumerate") [.ref l]) Q E s := by
  obtain ⟨⟨c, dct, dt, sl⟩, hl, hc, n, hd⟩ := hL
  replace hc : c = .type "tuple" := hc
  replace hd : dt = .seq items n := hd
  subst hc hd
  refine callType_new F.called_enumerate (by decide) (F.typeCall_enumerate_1 _) (F.newCall_enumerate_1 _) (fun obj => F.args_object_init_2 obj _) F.entry_enumerate_new
    (meets_enumerate_newT l items n dct sl) ⟨hl, ?_⟩
  have hz : (s.heap.push { cls := .type "tuple_iterator", data := .fields #[.ref l, .int 0 0] }).objs.size = s.heap.objs.size + 1 := Heap.size_push ..
  show _ ∧ _
  rw [hz]
  have he : IsEnum ((s.heap.push { cls := .type "tuple_iterator", data := .fields #[.ref l, .int 0 0] }).push
      { cls := .type "enumerate", data := .fields #[.none, .bool false, .ref s.heap.objs.size, rawInt 0, .none, .none] }) (s.heap.objs.size + 1) s.heap.objs.size 0 .none := by
    have := Heap.get?_push_size (s.heap.push { cls := .type "tuple_iterator", data := .fields #[.ref l, .int 0 0] })
      (o := { cls := .type "enumerate", data := .fields #[.none, .bool false, .ref s.heap.objs.size, rawInt 0, .none, .none] }) rfl
    rw [hz] at this; exact this
  refine ⟨⟨_, he, rfl⟩, h _ he ⟨_, Heap.get?_push_of_some _ (Heap.get?_push_size _ rfl), rfl, rfl⟩ (by rw [Heap.size_push, hz]) fun b o x => Heap.get?_push_of_some _ (Heap.get?_push_of_some _ x)⟩
end PySem
namespace L2
open PySem PySem.Spec PyProof.Rows
/-- the tuple at a, each item in a new pair with its place -/
def IteT (K : PySem.W.Frag) (a : Addr) : It :=
  ⟨fun i H => ∃ (xs : List V) (x : V), SqT K H a xs ∧ xs[i]? = some x, fun i H v H' => ∃ T x, v = .ref T ∧ H T = none ∧ H' = upd H T (.tup [.int (i : Nat), x]) ∧ ∀ xs, SqT K H a xs → xs[i]? = some x, fun i H => ∃ xs : List V, SqT K H a xs ∧ xs.length ≤ i⟩
theorem turn_enumT {P : Program} {w : World} {K : PySem.W.Frag} {elts : List Expr} {kk : Nat} {tpos : Pos} (a e it : Addr) :
    Turn P w K (.Tuple elts kk tpos) (IteT K a) [e, it] e (fun i h => (∃ old, IsEnum h e it ((i : Nat) : Int) old) ∧ h.IsTupleIter it a i ∧ e ≠ it) where
  mem := by simp
  obj := fun i h st b hb => by
    obtain ⟨⟨old, he⟩, ⟨o, ho, hc, hd⟩, _⟩ := st
    have e' : b = e ∨ b = it := by simpa using hb
    rcases e' with z | z
    · rw [z]; exact ⟨_, he, fun v q => nomatch q⟩
    · rw [z]; exact ⟨o, ho, fun v q => by rw [hd] at q; cases q⟩
  keep := fun i h h' st k => let ⟨⟨old, he⟩, hi, hne⟩ := st; ⟨⟨old, k e (by simp) _ he⟩, hi.at fun o q => k it (by simp) o q, hne⟩
  item := by
    intro X hP hw hK hc i pins s σ H E I hf st hg
    subst hP hw hK
    obtain ⟨⟨old, he⟩, hit, hne⟩ := st
    obtain ⟨xs, x, hq, hx⟩ := hg
    obtain ⟨its, rv, p, hz⟩ := I.tuple hq
    obtain ⟨u, hu, ru⟩ := rv.get hx
    have hel : e < s.heap.objs.size := Heap.lt_size he
    have hil : it < s.heap.objs.size := by obtain ⟨_, q, _⟩ := hit; exact Heap.lt_size q
    have hti : a ≠ it := fun z => by
      obtain ⟨o1, q1, c1, _⟩ := hit
      obtain ⟨o2, q2, c2, _⟩ := id p
      rw [z] at q2
      have := q1.symm.trans q2
      cases this
      rw [c1] at c2
      exact absurd c2 (by decide)
    have hae : e ≠ a := fun z => by
      obtain ⟨o2, q2, c2, _⟩ := id p
      rw [← z] at q2
      have := he.symm.trans q2
      cases this
      exact absurd (show Value.type "enumerate" = Value.type "tuple" from c2) (by decide)
    have hlt : i < its.toArray.size := by
      rcases Nat.lt_or_ge i its.length with h1 | h1
      · simpa using h1
      · rw [List.getElem?_eq_none h1] at hu; cases hu
    refine wpAny_pyNext_enum_itemD (Draws.tuple (prog := X.prog) (w := X.w) (A := X.A.in1) (I.ok.hd hc) it a hti its.toArray) he (show s.heap.IsTupleIter it a i ∧ s.heap.IsTuple a its.toArray from ⟨hit, p⟩) hlt hne (by simp [hne, hae]) fun y h' tk hy ho hst' hT hsz hk => ?_
    have hyu : y = u := by
      have : its.toArray[i]? = some y := hy
      rw [List.getElem?_toArray, hu] at this
      cases this; rfl
    subst hyu
    have hit' := hst'.1
    refine ⟨_, rfl, wpAny_letOwnedTupleGo_enum (s := { s with heap := h', toks := tk + 1 }) ho fun h'' he' sb => ?_⟩
    have hT2 : h''.get? s.heap.objs.size = some { cls := .type "tuple", data := .seq #[.int i tk, y] } := (sb.2 _ (Nat.ne_of_gt hel)).trans hT
    have new : ObjOk X.prog X.w (upd H s.heap.objs.size (.tup [.int (i : Nat), x])) h'' s.heap.objs.size (.tup [.int (i : Nat), x]) :=
      ⟨by show 2 ≤ sizeLine; decide, [.int i tk, y], .cons ⟨_, rfl⟩ (.cons ru .nil), ⟨_, hT2, rfl, _, rfl⟩⟩
    have I1 : Inv X pins σ (upd H s.heap.objs.size (.tup [.int (i : Nat), x])) { s with heap := h'', toks := tk + 1 } :=
      I.turnedNew (ch := [e, it]) (fun b ob hb q => (sb.2 b (fun z => hb (by simp [z]))).trans (hk b ob (fun z => hb (by simp [z])) (fun z => hb (by simp [z])) q)) hf (Nat.le_refl _) new
    refine ⟨.ref s.heap.objs.size, _, I1, rfl, ⟨_, x, rfl, I.hok.fresh (Nat.le_refl _), rfl, fun ys hy => by rw [I.tuple_inj hy hq]; exact hx⟩, ⟨⟨y, ?_⟩, hit'.at fun o q => (sb.2 it (Ne.symm hne)).trans q, hne⟩, fun b hb => ?_⟩
    · have e1 : ((i + 1 : Nat) : Int) = (i : Int) + 1 := by omega
      rw [e1]; exact he'
    · have hb' : b < s.heap.objs.size := by
        have e' : b = e ∨ b = it := by simpa using hb
        rcases e' with z | z
        · rw [z]; exact hel
        · rw [z]; exact hil
      rw [upd_ne (Nat.ne_of_lt hb')]
      exact (hf b hb).1
  done := by
    intro X hP hw hK hc i pins s σ H E I hf st hg
    subst hP hw hK
    obtain ⟨⟨old, he⟩, hit, hne⟩ := st
    obtain ⟨xs, hq, hx⟩ := hg
    obtain ⟨its, rv, p, hz⟩ := I.tuple hq
    obtain ⟨f0, f1, f2, f3, f4, f5⟩ := hf it (by simp)
    have hl := rv.length
    have hh := I.ok.hd hc
    have hT : s.TypeIs (.ref e) "enumerate" := ⟨_, he, rfl⟩
    unfold pyNext
    refine wpAny_bind (wpAny_attempt (wpAny_callSpecial?_slot (name := Str.ofString "__next__") hT F.slot_enumerate_next
      (wpAny_call_entry F.slot_enumerate_next hT F.entry_enumerate_next ?_ (F.args_enumerate_next_1 _))))
    show wpAny _ _ (field (.ref e) 2 >>= _) _ _ _
    refine wpAny_bind (wpAny_field he rfl (x := .ref it) rfl ?_)
    refine wpAny_bind (wpAny_nextOf_tuple_end hh hit p (by simp; omega) fun h' x eb hx' => ?_)
    obtain ⟨o, ho, hc⟩ := hx'
    refine wpAny_bind (wpAny_isInstance (T := "StopIteration") (b := true) ⟨o, ho, hc⟩ isSubtype_stop ?_)
    exact wpAny_pure ⟨rfl, I.turned (t' := s.toks) (fun b o hb q => eb b o hb q) f0 f1 f3 f4 f5⟩
  self := fun A i s Q E st h => let ⟨⟨_, he⟩, _⟩ := st; wpAny_pyIter_enum he h
def iEnumA (K : PySem.W.Frag) (ta : TA) : TI := fun σ H R => ta σ H fun vs H1 => ∃ a xs, vs = [.ref a] ∧ ((SqL K H1 a xs ∧ R (Ite K a) H1) ∨ (SqT K H1 a xs ∧ R (IteT K a) H1))
theorem pi_enumA {X : Cx} {e : Expr} {ta : TA} {p pos tpos : Pos} {elts : List Expr} {kk : Nat} (hg : Gl X "enumerate") (hm : X.mg "enumerate" = none) (ha : PA X [e] ta) (hs : starEach [e] X.env = [(false, eval e X.env)] := by rfl) :
    PI X (.Tuple elts kk tpos) (.Call (.Name "enumerate" p) [e] [] pos) (iEnumA X.K ta) := by
  refine ⟨fun pins s σ H R I h => ?_⟩
  refine Call_ (ld_blt I hg hm boot_enumerate (PyProof.Rows.callWith_type1 (thn (ha.run pos pins s σ H _ I h) fun us s1 ⟨vs, H1, I1, r1, q1⟩ => ?_) hs rfl))
  obtain ⟨a, xs, ex, q1⟩ := q1
  subst ex
  cases r1 with
  | cons r rr =>
    cases rr
    cases r
    have fresh : ∀ b, b ∈ [s1.heap.objs.size + 1, s1.heap.objs.size] → FpOk X pins H1 b := fun b hb => by
      have e' : b = s1.heap.objs.size + 1 ∨ b = s1.heap.objs.size := by simpa using hb
      have hle : s1.heap.objs.size ≤ b := by
        rcases e' with z | z
        · rw [z]; exact Nat.le_add_right _ _
        · rw [z]; exact Nat.le_refl _
      exact I1.fpOk hle (I1.hok.fresh hle)
    rcases q1 with ⟨hq, q⟩ | ⟨hq, q⟩
    · obtain ⟨its, rv, p', hz⟩ := I1.list hq
      refine call_enumerate_list p'.isList fun h' he hit hsz hk => wpAny_pyIter_enum he ?_
      have I2 : Inv X pins σ H1 { s1 with heap := h' } := I1.kept (t' := s1.toks) hk
      exact ⟨s1.heap.objs.size + 1, [s1.heap.objs.size + 1, s1.heap.objs.size], _, _, H1, rfl, I2, turn_enum a (s1.heap.objs.size + 1) s1.heap.objs.size, ⟨⟨.none, he⟩, hit, Nat.succ_ne_self _⟩, fresh, q⟩
    · obtain ⟨its, rv, p', hz⟩ := I1.tuple hq
      refine call_enumerate_tuple (show s1.heap.IsTuple a its.toArray from p') fun h' he hit hsz hk => wpAny_pyIter_enum he ?_
      have I2 : Inv X pins σ H1 { s1 with heap := h' } := I1.kept (t' := s1.toks) hk
      exact ⟨s1.heap.objs.size + 1, [s1.heap.objs.size + 1, s1.heap.objs.size], _, _, H1, rfl, I2, turn_enumT a (s1.heap.objs.size + 1) s1.heap.objs.size, ⟨⟨.none, he⟩, hit, Nat.succ_ne_self _⟩, fresh, q⟩
end L2
namespace DL
open PySem PySem.Spec PyProof.Rows L2
/-! ## enumerate of a list or a tuple -/
section
variable {X : Cx} {W : WX} {η : Nat → Addr} {N : Nat} {H : Hp}
open Classical in
noncomputable def iEaK (ds : List D) (h : AH) : RI := match ds with
  | [.tup xs] => .ok (pairs (iota 0 xs.length) xs) (fun _ => True) h
  | ds => iEnK ds h
noncomputable def iEa (fs : SA) : SI := fun σ h => (fs σ h).bindI iEaK
theorem jok_enumT {a : Addr} {xs : List D} {vs : List V} {b : Bool} (ha : TupAt H a vs b) (r : RelDs η N H xs vs) : JOk X.K X.mg η N H (IteT X.K a) (pairs (iota 0 xs.length) xs) (fun _ => True) where
  go := fun i η' ah H' e hh hg hi => by
    rw [pairs_length, iota_length] at hi
    obtain ⟨v, hv, _⟩ := r.get (List.getElem?_eq_getElem (show i < xs.length by omega))
    exact ⟨vs, v, (e.st _ _ _ ha).sq, hv⟩
  stop := fun i η' ah H' e hh hg hi => by
    rw [pairs_length, iota_length] at hi
    exact ⟨vs, (e.st _ _ _ ha).sq, by rw [r.length]; omega⟩
  yld := fun i η' ah H' x H2 d e hh hg hd y => by
    obtain ⟨T, x1, rfl, hT, rfl, f1⟩ := y
    obtain ⟨d1, d2, g1, g2, rfl⟩ := pairs_get hd
    obtain ⟨rfl, _⟩ := iota_get g1
    obtain ⟨v, hv, rv⟩ := r.get g2
    have e1 := (f1 vs ((e.st _ _ _ ha).sq)).symm.trans hv
    cases e1
    refine rel_pair hh hT ?_ (rv.ext e) (nz_cons_not rfl)
    show V.int _ = .int _
    simp
theorem di_enumA {p pos tpos : Pos} {elts : List Expr} {kk : Nat} (hg : Gl X "enumerate") (hm : X.mg "enumerate" = none) (ha : DA X W [a] fs) (hs : starEach [a] X.env = [(false, eval a X.env)] := by rfl) :
    DI X W (.Tuple elts kk tpos) (.Call (.Name "enumerate" p) [a] [] pos) (iEa fs) := PI.imp (pi_enumA hg hm ha hs) fun σ H R h => by
  obtain ⟨η, σd, ah, sim, h⟩ := h
  refine tA_bindI sim h fun ds ah1 η1 vs H1 z s1 e1 r1 h1 => ?_
  unfold iEaK at h1
  split at h1
  · rename_i xs
    obtain ⟨v, r, rfl, ⟨p, vs, rfl, hp, q1⟩, rfl⟩ := r1
    exact ⟨p, vs, rfl, .inr ⟨hp.sq, h1 η1 H1 Ext.refl s1.hh _ (jok_enumT hp q1)⟩⟩
  · unfold iEnK at h1
    split at h1
    · rename_i m _
      obtain ⟨v, r, rfl, ⟨hm1, rfl⟩, rfl⟩ := r1
      split at h1
      · rename_i xs g1
        obtain ⟨vs, h3, h4⟩ := s1.hh.obj m _ g1
        exact ⟨_, vs, rfl, .inl ⟨.of h3, h1 η1 H1 Ext.refl s1.hh _ (jok_enum hm1)⟩⟩
      · exact h1.elim
    · exact h1.elim
end
end DL


set_option maxRecDepth 100000
set_option maxHeartbeats 4000000
/-! ## tuple(d.items()) -/
namespace TIt
open PySem PySem.Spec PyProof.Rows L2
section
variable {prog : Program} {w : World} {A : Around} {E : Value → Shared → Prop} {s : Shared} {r d : Addr} {es : Array DictEntry} {ep : Nat}
theorem code_tuple_new_items {Q₁ : Value → Shared → Prop} (hh : A.handled = none) (hv : s.heap.IsItemsView r d) (hm : DT.Raw s.heap d es ep) (hn : es.size ≤ sizeLine)
    (h : ∀ (h' : Heap) (tk : Nat) (as : List Addr), (∀ b o, s.heap.get? b = some o → h'.get? b = some o) → s.heap.objs.size < h'.objs.size → as.length = es.size → DT.Made es s.heap.objs.size h' as →
      Q₁ (.ref h'.objs.size) { s with heap := h'.push { cls := .type "tuple", data := .seq (as.map Value.ref).toArray }, toks := tk }) :
    codeAny (model prog w) A (.call (.builtin "tuple.__new__") ⟨[.type "tuple", .ref r], []⟩) (wants Q₁ E) s := by
  refine codeAny_of_tree ?_
  show wpAny _ A.in1 (do checkBuiltinCall "tuple.__new__" ⟨[.type "tuple", .ref r], []⟩; again (.builtin "tuple.__new__" ⟨[.type "tuple", .ref r], []⟩)) _ _ s
  refine wpAny_bind (wpAny_of_eq (F.newCall_tuple_1 _) (wpAny_pure ⟨plainId_quiet F.plain_tuple_new _, codeAny_builtin F.entry_tuple_new ?_⟩))
  rw [Around.under_plainId F.plain_tuple_new _]
  have hsub := sub_tuple_self
  have hinit := init_tuple_lookup
  have hmh := madeHere_tuple
  have hTI : s.TypeIs (.ref r) "dict_items" := hv.typeIs
  have hh1 : A.in1.handled = none := hh
  wp_walk using wpAny_typeOf hTI, DT.collectI (A := A.in1) hh1 hv hm hn
  intro h' tk as hk hlt hl hG
  show wpAny _ _ (Builtin.Tuple.tupleExact (as.map Value.ref).toArray >>= fun v => ret v) _ _ _
  unfold Builtin.Tuple.tupleExact
  refine wpAny_bind (wpAny_newObj_type ?_ (by show (as.map Value.ref).toArray.size ≤ sizeLine; rw [List.size_toArray, List.length_map, hl]; exact hn))
  exact wpAny_pure (h h' tk as hk hlt hl hG)
theorem call_tuple_items {Q : Value → Shared → Prop} (hh : A.handled = none) (hv : s.heap.IsItemsView r d) (hm : DT.Raw s.heap d es ep) (hn : es.size ≤ sizeLine)
    (hQ : ∀ (h' : Heap) (tk : Nat) (as : List Addr), (∀ b o, s.heap.get? b = some o → h'.get? b = some o) → s.heap.objs.size < h'.objs.size → as.length = es.size → DT.Made es s.heap.objs.size h' as →
      Q (.ref h'.objs.size) { s with heap := h'.push { cls := .type "tuple", data := .seq (as.map Value.ref).toArray }, toks := tk }) :
    wpAny (model prog w) A (call (.type "tuple") [.ref r]) Q E s := by
  refine callType_codes (Q₁ := fun obj s₁ => s₁.TypeIs obj "tuple" ∧ Q obj s₁) F.called_tuple (F.typeCall_tuple_1 _) F.entry_object_init
    (code_tuple_new_items (A := A.in1) hh hv hm hn fun h' tk as hk hlt hl hG => ⟨⟨_, Heap.get?_push_size _ rfl, rfl⟩, hQ h' tk as hk hlt hl hG⟩) fun obj s₁ h₁ => ?_
  exact ⟨h₁.1, F.args_object_init_2 obj _, object_init_meets F.called_tuple.init.lookup F.called_tuple.made (by decide) prog w A.in1 _ s₁ ⟨h₁.1, rfl, h₁.2⟩⟩
end
end TIt
namespace DL
open PySem PySem.Spec PyProof.Rows L2 L2.DX
section
variable {X : Cx} {η : Nat → Addr} {N : Nat} {H : Hp} {ah : AH}
theorem relK_vals : ∀ {kvs : List (D × D)} {ks : List (Key × V)}, RelK η N H kvs ks → RelDs η N H (kvs.map (·.2)) (ks.map (·.2))
  | [], _, r => by rw [show _ = [] from r]; rfl
  | (k, d) :: kvs, _, r => by
    obtain ⟨q, v, ks, rfl, r1, r2, r3⟩ := r
    exact ⟨v, _, rfl, r2, relK_vals r3⟩
theorem relT_vals : ∀ {kvs : List (D × D)} {ks : List (List Key × V)}, RelT η N H kvs ks → RelDs η N H (kvs.map (·.2)) (ks.map (·.2))
  | [], _, r => by rw [show _ = [] from r]; rfl
  | (k, d) :: kvs, _, r => by
    obtain ⟨q, v, ks, rfl, r1, r2, r3⟩ := r
    exact ⟨v, _, rfl, r2, relT_vals r3⟩
theorem rawKV {pins : List (Addr × Obj)} {σ : L2.St} {s : Shared} (I : Inv X pins σ H s) {a : Addr} {kvs : List (D × D)} {ks : List (Key × V)} (e : Rd H a (.dK ks)) (r : RelK η N H kvs ks) :
    (a == sysModules) = false ∧ kvs.length ≤ sizeLine ∧ ∃ es ep vs ws, s.heap.DictRaw a es ep ∧ es.size = kvs.length ∧ RelDs η N H (kvs.map (·.1)) vs ∧ Vals vs (es.toList.map (·.key)) ∧ RelDs η N H (kvs.map (·.2)) ws ∧ Vals ws (es.toList.map (·.val)) := by
  obtain ⟨z, lo, vs, rel, dd⟩ := dk_rd I.hok e
  obtain ⟨ep, hat⟩ := dd.dictAt
  obtain ⟨es, hr, hsz, hk⟩ := hat.raw
  have hlen : ks.length = vs.length := rel.length
  have hrk : kvs.length = ks.length := by
    have := (relK_keys r).length
    simpa using this.symm
  have hent : ∀ (i : Nat) (en : DictEntry), es.toList[i]? = some en → ∃ (p : Key × V) (q : Key × Value), ks[i]? = some p ∧ vs[i]? = some q ∧ keyIs q.1 en.key = true ∧ en.val = q.2 ∧ p.1 = q.1 ∧ RelV p.2 q.2 := by
    intro i en he
    have hi : i < es.size := by
      have := (List.getElem?_eq_some_iff.mp he).1
      simpa using this
    have hen : es[i] = en := by
      have := (List.getElem?_eq_some_iff.mp he).2
      simpa using this
    obtain ⟨q, hq⟩ : ∃ q, vs[i]? = some q := ⟨vs[i]'(by omega), List.getElem?_eq_getElem (by omega)⟩
    obtain ⟨p, hp⟩ : ∃ p, ks[i]? = some p := ⟨ks[i]'(by omega), List.getElem?_eq_getElem (by omega)⟩
    obtain ⟨h1, h2⟩ := hk i hi q.1 q.2 hq
    obtain ⟨q', hq', e1, e2⟩ := LiI.paired_get rel hp
    rw [hq] at hq'
    cases hq'
    exact ⟨p, q, hp, hq, by rw [← hen]; exact h1, by rw [← hen]; exact h2, e1, e2⟩
  refine ⟨lo, by omega, es, ep, ks.map fun q => kV q.1, ks.map (·.2), hr, by omega, relK_keys r, ?_, relK_vals r, ?_⟩
  · refine vals_get (by simp; omega) fun i u e => ?_
    rw [List.getElem?_map] at e
    cases he : es.toList[i]? with
    | none => rw [he] at e; cases e
    | some en =>
      rw [he] at e
      cases e
      obtain ⟨p, q, hp, hq, h1, h2, h3, h4⟩ := hent i en he
      exact ⟨kV p.1, by rw [List.getElem?_map, hp]; rfl, by rw [h3]; exact keyIs_rel h1⟩
  · refine vals_get (by simp; omega) fun i u e => ?_
    rw [List.getElem?_map] at e
    cases he : es.toList[i]? with
    | none => rw [he] at e; cases e
    | some en =>
      rw [he] at e
      cases e
      obtain ⟨p, q, hp, hq, h1, h2, h3, h4⟩ := hent i en he
      exact ⟨p.2, by rw [List.getElem?_map, hp]; rfl, by show RelV p.2 en.val; rw [h2]; exact h4⟩
theorem rawTV {pins : List (Addr × Obj)} {σ : L2.St} {s : Shared} (I : Inv X pins σ H s) {a : Addr} {kvs : List (D × D)} {ks : List (List Key × V)} (e : Rd H a (.dT ks)) (r : RelT η N H kvs ks) :
    (a == sysModules) = false ∧ kvs.length ≤ sizeLine ∧ ∃ es ep vs ws, s.heap.DictRaw a es ep ∧ es.size = kvs.length ∧ RelDs η N H (kvs.map (·.1)) vs ∧ Vals vs (es.toList.map (·.key)) ∧ RelDs η N H (kvs.map (·.2)) ws ∧ Vals ws (es.toList.map (·.val)) := by
  obtain ⟨z, lo, xs, rel, o, es, ep, ho, hx, hdat, hes, his, hn⟩ := dt_rd I.hok e
  have key : ∀ {kvs : List (D × D)} {ks : List (List Key × V)} {xs : List (List Key × Addr × Value)}, RelT η N H kvs ks → KT H ks xs → kvs.length = ks.length ∧ RelDs η N H (kvs.map (·.1)) (xs.map fun x => V.ref x.2.1) ∧ Vals (ks.map (·.2)) (xs.map fun x => x.2.2) := by
    intro kvs
    induction kvs with
    | nil =>
      intro ks xs r k
      rw [show ks = [] from r] at k ⊢
      cases k
      exact ⟨rfl, rfl, .nil⟩
    | cons p kvs ih =>
      intro ks xs r k
      obtain ⟨k0, d0⟩ := p
      obtain ⟨q, v, ks, rfl, ⟨rfl, hz⟩, r2, r3⟩ := r
      cases k with
      | cons h t =>
        obtain ⟨h1, h2, h3⟩ := ih r3 t
        obtain ⟨g1, g2, g3⟩ := h
        refine ⟨by simp [h1], ⟨V.ref _, _, rfl, ⟨_, _, rfl, .ofF hz g2, ?_⟩, h2⟩, .cons g3 h3⟩
        have : ∀ l : List Key, RelDs η N H (l.map keyD) (l.map kV) := by
          intro l
          induction l with
          | nil => rfl
          | cons c l ih =>
            refine ⟨kV c, _, rfl, ?_, ih⟩
            cases c with
            | inl i => rfl
            | inr x => show V.str x = V.str (S x.cps.toList); rw [S_toList]
        exact this q
  obtain ⟨h1, h2, h3⟩ := key r rel
  have l1 : ks.length = xs.length := Paired.length rel
  have l2 : es.size = xs.length := size_of_entries hes
  refine ⟨lo, by omega, es, ep, xs.map fun x => V.ref x.2.1, ks.map (·.2), ⟨o, ho, hx, hdat⟩, by omega, h2, ?_, relT_vals r, ?_⟩
  · have e3 : es.toList.map (·.key) = xs.map fun x => Value.ref x.2.1 := by
      rw [hes, List.map_map]
      rfl
    rw [e3]
    exact vals_maps (fun x : List Key × Addr × Value => V.ref x.2.1) (fun x => Value.ref x.2.1) xs fun _ _ => rfl
  · have e3 : es.toList.map (·.val) = xs.map fun x => x.2.2 := by
      rw [hes, List.map_map]
      rfl
    rw [e3]
    exact h3
theorem rawDV {pins : List (Addr × Obj)} {σ : L2.St} {s : Shared} (I : Inv X pins σ H s) (hh : RelH X.K X.mg η ah H) {n : Nat} {t : Bool} {kvs : List (D × D)} (e : dctOf ah (.ref n) = some (t, kvs)) :
    (η n == sysModules) = false ∧ kvs.length ≤ sizeLine ∧ ∃ es ep vs ws, s.heap.DictRaw (η n) es ep ∧ es.size = kvs.length ∧ RelDs η ah.length H (kvs.map (·.1)) vs ∧ Vals vs (es.toList.map (·.key)) ∧ RelDs η ah.length H (kvs.map (·.2)) ws ∧ Vals ws (es.toList.map (·.val)) := by
  simp only [dctOf] at e
  split at e
  · rename_i kv q; cases e; obtain ⟨ks, h1, h2⟩ := hh.obj n _ q; exact rawKV I (.of h1) h2
  · rename_i kv q; cases e; obtain ⟨ks, h1, h2⟩ := hh.obj n _ q; exact rawTV I (.of h1) h2
  · rename_i kv q; cases e; obtain ⟨ob, ks, h1, h2⟩ := hh.obj n _ q; exact rawKV I (.inr ⟨ob, h1⟩) h2
  · rename_i kv q; cases e; obtain ⟨ob, ks, h1, h2⟩ := hh.obj n _ q; exact rawTV I (.inr ⟨ob, h1⟩) h2
  · cases e
/-! ### the view -/
def rItemsD (X : Cx) : V → List V → Hp → VK → Prop := fun x xs H Q => ∃ η ah n t kvs, RelH X.K X.mg η ah H ∧ dctOf ah (.ref n) = some (t, kvs) ∧ x = .ref (η n) ∧ xs = [] ∧ ∀ p, H p = none → Q (.ref p) (upd H p (itemsO p (η n)))
theorem mt_itemsD : MtR X "dict.items" (rItemsD X) := by
  intro pins s σ H x xs v us Q I rx rxs h
  obtain ⟨η, ah, n, t, kvs, hh, e, rfl, rfl, q⟩ := h
  cases rx
  cases rxs
  obtain ⟨lo, hz, es, ep, vs, ws, hraw, _⟩ := rawDV I hh e
  refine DT.callItems (es := es) (ep := ep) lo hraw ?_
  have hf : H s.heap.objs.size = none := I.hok.fresh (Nat.le_refl _)
  exact ⟨.ref s.heap.objs.size, upd H s.heap.objs.size (itemsO s.heap.objs.size (η n)), I.laid (t' := s.toks) (fun b u e => Heap.get?_push_of_some _ e) (Nat.le_refl _) (itemsO_ok (Heap.get?_push_size _ rfl)), rfl, q _ hf⟩
/-! ### objects already laid are tracked -/
theorem takeG {pins : List (Addr × Obj)} {σ : L2.St} {H0 : Hp} {s : Shared} {h' : Heap} {tk : Nat} {P : Addr → HO → Prop} (I0 : Inv X pins σ H0 s) : ∀ (L : List Addr) (H1 : Hp), Inv X pins σ H1 { s with heap := h', toks := tk } → RelH X.K X.mg η ah H1 → L.Nodup →
    (∀ a ∈ L, s.heap.objs.size ≤ a ∧ H1 a = none ∧ ∃ u, P a u ∧ ∀ H2, ObjOk X.prog X.w H2 h' a u) →
    ∃ H2, Inv X pins σ H2 { s with heap := h', toks := tk } ∧ RelH X.K X.mg η ah H2 ∧ Ext η ah.length H1 η ah.length H2 ∧ (∀ b o, H1 b = some o → H2 b = some o) ∧ ∀ a ∈ L, ∃ u, P a u ∧ H2 a = some u
  | [], H1, I1, hh, _, _ => ⟨H1, I1, hh, Ext.refl, fun _ _ e => e, fun _ h => nomatch h⟩
  | a :: L, H1, I1, hh, hn, h => by
    obtain ⟨hb, hnone, u, hP, ok⟩ := h a (List.mem_cons_self ..)
    have I2 : Inv X pins σ (upd H1 a u) { s with heap := h', toks := tk } := I1.take (h' := h') (t' := tk) (fun b ob _ e => e) (I0.fpOk hb hnone) (ok _)
    rw [List.nodup_cons] at hn
    obtain ⟨H2, I3, hh3, ex, g, q⟩ := takeG I0 L (upd H1 a u) I2 (relH_tup hh hnone) hn.2 fun c hc => by
      obtain ⟨c1, c2, c3⟩ := h c (List.mem_cons_of_mem _ hc)
      exact ⟨c1, by rw [upd_ne (fun z => hn.1 (by rw [← z]; exact hc))]; exact c2, c3⟩
    refine ⟨H2, I3, hh3, (ext_tup hnone).trans ex, fun b o e => g b o (by rw [upd_ne (ne_of_none e hnone)]; exact e), fun c hc => ?_⟩
    rcases List.mem_cons.mp hc with rfl | hc
    · exact ⟨u, hP, g _ _ upd_same⟩
    · exact q c hc
def tupHO (b : Bool) (o : Obj) (vs : List V) : HO := if b = true then .frz o (.tup vs) else .tup vs
theorem tupHO_at {H : Hp} {a : Addr} {b : Bool} {o : Obj} {vs : List V} (e : H a = some (tupHO b o vs)) (d : o.dict = none) : TupAt H a vs b := by
  cases b with
  | true => exact .ofT rfl d e
  | false => exact .ofF rfl e
theorem tupHO_ok {P : Program} {w : World} {H : Hp} {h : Heap} {a : Addr} {b : Bool} {o : Obj} {vs : List V} {us : List Value} (ho : h.get? a = some o) (hz : vs.length ≤ sizeLine) (r : Vals vs us) (ht : IsTup h a us.toArray) : ObjOk P w H h a (tupHO b o vs) := by
  cases b with
  | true => exact ⟨ho, hz, us, r, ht⟩
  | false => exact ⟨hz, us, r, ht⟩
def pairD (p : D × D) : D := .tup [p.1, p.2]
def rTupIt (X : Cx) : List V → Hp → VK → Prop := fun vs H Q => ∃ p η ah n t kvs, vs = [.ref p] ∧ H p = some (itemsO p (η n)) ∧ RelH X.K X.mg η ah H ∧ dctOf ah (.ref n) = some (t, kvs) ∧
  ∀ v H', Ext η ah.length H η ah.length H' → RelH X.K X.mg η ah H' → RelD η ah.length H' (.tup (kvs.map pairD)) v → Q v H'
theorem cr_tupIt (hc : X.calm = true) : CallR X (.type "tuple") (rTupIt X) := by
  intro pins s σ H xs us Q I r h
  obtain ⟨p, η, ah, n, t, kvs, rfl, hp, hh, e, q⟩ := h
  obtain rfl := Vals.ref1 r
  have view : s.heap.IsItemsView p (η n) := (show ObjOk X.prog X.w H s.heap p (itemsO p (η n)) from I.hok p _ hp).1
  obtain ⟨lo, hz, es, ep, vs, ws, hraw, hsz, rk, vk, rv, vv⟩ := rawDV I hh e
  refine TIt.call_tuple_items (I.ok.hd hc) view hraw (by omega) fun h' tk as hk hlt hl hG => ?_
  have hlk := rk.length
  have hlv := rv.length
  rw [List.length_map] at hlk hlv
  have nd : as.Nodup := List.Pairwise.imp (fun h => Nat.ne_of_lt h) hG.rise
  generalize hT : h'.push { cls := .type "tuple", data := .seq (as.map Value.ref).toArray } = h2
  have hoT : h2.get? h'.objs.size = some { cls := .type "tuple", data := .seq (as.map Value.ref).toArray } := by rw [← hT]; exact Heap.get?_push_size _ rfl
  have k2 : ∀ b o, h'.get? b = some o → h2.get? b = some o := fun b o e => by rw [← hT]; exact Heap.get?_push_of_some _ e
  have ks : ∀ b o, s.heap.get? b = some o → h2.get? b = some o := fun b o e => k2 b o (hk b o e)
  have I1 : Inv X pins σ H { s with heap := h2, toks := tk } := I.kept (t' := tk) ks
  have hTn : H h'.objs.size = none := I.hok.fresh (Nat.le_of_lt hlt)
  have I2 : Inv X pins σ (upd H h'.objs.size (tupHO (nz (kvs.map pairD)) { cls := .type "tuple", data := .seq (as.map Value.ref).toArray } (as.map V.ref))) { s with heap := h2, toks := tk } :=
    I1.take (h' := h2) (t' := tk) (fun b ob _ e => e) (I.fpOk (Nat.le_of_lt hlt) hTn) (tupHO_ok hoT (by rw [List.length_map]; omega) (LiI.vals_refs as) ⟨_, hoT, rfl, _, rfl⟩)
  have hh2 := relH_tup (u := tupHO (nz (kvs.map pairD)) { cls := .type "tuple", data := .seq (as.map Value.ref).toArray } (as.map V.ref)) hh hTn
  obtain ⟨H2, I3, hh3, ex, g, qt⟩ := takeG (P := fun a u => ∃ (j : Nat) (x y : V) (o : Obj) (kd vd : D), as[j]? = some a ∧ kvs[j]? = some (kd, vd) ∧ vs[j]? = some x ∧ ws[j]? = some y ∧ o.dict = none ∧ u = tupHO (nz [kd, vd]) o [x, y]) I as _ I2 hh2 nd fun a ha => by
    obtain ⟨j, hj⟩ := List.mem_iff_getElem?.mp ha
    obtain ⟨en, he, hg⟩ := hG.pairs j a hj
    have hjl : j < as.length := (List.getElem?_eq_some_iff.mp hj).1
    have he' : es.toList[j]? = some en := by simpa using he
    have hj2 : j < kvs.length := by omega
    obtain ⟨x, hx⟩ : ∃ x, vs[j]? = some x := ⟨vs[j]'(by omega), List.getElem?_eq_getElem (by omega)⟩
    obtain ⟨y, hy⟩ : ∃ x, ws[j]? = some x := ⟨ws[j]'(by omega), List.getElem?_eq_getElem (by omega)⟩
    obtain ⟨u1, hu1, r1⟩ := vk.get hx
    obtain ⟨u2, hu2, r2⟩ := vv.get hy
    rw [List.getElem?_map, he'] at hu1 hu2
    cases hu1; cases hu2
    refine ⟨Nat.le_of_lt (hG.above a ha), ?_, tupHO (nz [kvs[j].1, kvs[j].2]) { cls := .type "tuple", data := .seq #[en.key, en.val] } [x, y], ⟨j, x, y, _, kvs[j].1, kvs[j].2, hj, by rw [List.getElem?_eq_getElem hj2], hx, hy, rfl, rfl⟩, fun H2 => tupHO_ok (k2 _ _ hg) (by show 2 ≤ sizeLine; decide) (.cons r1 (.cons r2 .nil)) ⟨_, k2 _ _ hg, rfl, _, rfl⟩⟩
    have hlt2 : a < h'.objs.size := hG.there ha
    rw [upd_ne (Nat.ne_of_lt hlt2)]
    exact I.hok.fresh (Nat.le_of_lt (hG.above a ha))
  refine ⟨.ref h'.objs.size, H2, I3, rfl, q _ _ ((ext_tup hTn).trans ex) hh3 ⟨h'.objs.size, as.map V.ref, rfl, tupHO_at (g _ _ upd_same) rfl, ?_⟩⟩
  refine RelDs.of_get (by rw [List.length_map, List.length_map]; omega) fun i d v hd hv => ?_
  rw [List.getElem?_map, Option.map_eq_some_iff] at hd hv
  obtain ⟨⟨kd, vd⟩, hkv, rfl⟩ := hd
  obtain ⟨a, ha, rfl⟩ := hv
  obtain ⟨u, ⟨j, x, y, o, kd', vd', hj, hkv', hx, hy, hod, rfl⟩, hu⟩ := qt a (List.mem_of_getElem? ha)
  have hij : i = j := (List.getElem?_inj (List.getElem?_eq_some_iff.mp ha).1 nd).mp (ha.trans hj.symm)
  subst hij
  rw [hkv] at hkv'
  cases hkv'
  have ex2 := (ext_tup (u := tupHO (nz (kvs.map pairD)) { cls := .type "tuple", data := .seq (as.map Value.ref).toArray } (as.map V.ref)) (η := η) (N := ah.length) hTn).trans ex
  obtain ⟨x', hx', rx⟩ := rk.get (i := i) (d := kd) (by rw [List.getElem?_map, hkv]; rfl)
  obtain ⟨y', hy', ry⟩ := rv.get (i := i) (d := vd) (by rw [List.getElem?_map, hkv]; rfl)
  rw [hx] at hx'
  rw [hy] at hy'
  cases hx'; cases hy'
  exact ⟨a, [x, y], rfl, tupHO_at hu hod, x, [y], rfl, rx.ext ex2, y, [], rfl, ry.ext ex2, rfl⟩
/-! ### the expression tuple(e.items()) -/
def dTupIt (fd : SE) : SE := fun σ h => (fd σ h).bind fun d h1 => match d with
  | .ref n => match h1[n]? with
    | some (.dct kvs) => .ok (.tup (kvs.map pairD)) h1
    | some (.dcT kvs) => .ok (.tup (kvs.map pairD)) h1
    | _ => .bad
  | _ => .bad
theorem de_tupIt {W : WX} {e : Expr} {fd : SE} {p pos apos cpos : Pos} (hc : X.calm = true) (hg : Gl X "tuple") (hm : X.mg "tuple" = none) (he : DE X W e fd)
    (hv : bootBuiltins "tuple" = some (.type "tuple"))
    (hbase : attributeBase e "items" X.env (eval e X.env) = eval e X.env := by rfl) (hline : (apos.endLine == cpos.line) = true := by rfl)
    (hs : starEach [.Call (.Attribute e "items" apos) [] [] cpos] X.env = (false, eval (.Call (.Attribute e "items" apos) [] [] cpos) X.env) :: starEach [] X.env := by rfl) (hpl : (backTo pos (starEach [] X.env)).any (·.1) = false := by rfl) :
    DE X W (.Call (.Name "tuple" p) [.Call (.Attribute e "items" apos) [] [] cpos] [] pos) (dTupIt fd) := PE.imp (pe_callTy (cr_tupIt hc) hg hm hv (pa_cons (pe_bm0 PySem.F.plainAttrs_dict PySem.F.slot_dict_items PySem.F.type_dict_items mt_itemsD he hbase hline) pa_nil hs) (by decide) (by decide) hs hpl) fun σ H Q h => by
  obtain ⟨η, σd, ah, sim, h⟩ := h
  refine tE_bind sim h fun dx ah1 η1 x H1 s1 e1 r1 h1 => ?_
  have fin : ∀ (n : Nat) (t : Bool) (kvs : List (D × D)), dx = .ref n → dctOf ah1 (.ref n) = some (t, kvs) → ((∃ kvs, H1 (η1 n) = some (.dK kvs)) ∨ ∃ kvs, H1 (η1 n) = some (.dT kvs)) → RP X.K X.mg W η1 ah1.length σ H1 (.ok (.tup (kvs.map pairD)) ah1) Q → tyV X.K "dict" x H1 ∧ rItemsD X x [] H1 (fun x2 H2 => rTupIt X [x2] H2 Q) := by
    intro n t kvs ex ed hty hq
    subst ex
    obtain ⟨hn, rfl⟩ := r1
    refine ⟨.inr (.inr (.inl ⟨rfl, hty⟩)), η1, ah1, n, t, kvs, s1.hh, ed, rfl, rfl, fun p hp => ?_⟩
    refine ⟨p, η1, ah1, n, t, kvs, rfl, upd_same, relH_tup s1.hh hp, ed, fun v H' ex hh' rd => ?_⟩
    exact hq η1 v H' ((ext_tup hp).trans ex) hh' rd
  split at h1
  · rename_i n
    split at h1
    · rename_i kvs g
      obtain ⟨ks, k1, _⟩ := s1.hh.obj n _ g
      exact fin n false kvs rfl (by simp [dctOf, g]) (.inl ⟨ks, k1⟩) h1
    · rename_i kvs g
      obtain ⟨ks, k1, _⟩ := s1.hh.obj n _ g
      exact fin n true kvs rfl (by simp [dctOf, g]) (.inr ⟨ks, k1⟩) h1
    · exact h1.elim
  · exact h1.elim
end
end DL


set_option maxRecDepth 100000
set_option maxHeartbeats 4000000
/-! ## str.replace of written texts: a token must be out -/
namespace L2
open PySem PySem.Spec PyProof.Rows CwR
/-- arguments behind which a token is out -/
def PAG (X : Cx) (es : List Expr) (t : TA) : Prop :=
  ∀ (pos : Pos) (pins : List (Addr × Obj)) (s : Shared) (σ : St) (H : Hp) (Q : List V → Hp → Prop), Inv X pins σ H s → t σ H Q → wpAny (model X.prog X.w) X.A (spliced (backTo pos (starEach es X.env))) (fun us s' => 1 ≤ s'.toks ∧ AP X pins σ Q us s') X.xe s
/-- an iterable behind which a token is out -/
def PIG (X : Cx) (tg iter : Expr) (wi : TI) : Prop :=
  ∀ (pins : List (Addr × Obj)) (s : Shared) (σ : St) (H : Hp) (R : It → Hp → Prop), Inv X pins σ H s → wi σ H R →
    wpAny (model X.prog X.w) X.A (eval iter X.env) (fun v s1 => 1 ≤ s1.toks ∧ wpAny (model X.prog X.w) X.A (pyIter v) (PIE X pins σ tg R) X.xe s1) X.xe s
section
variable {X : Cx} {tg iter : Expr} {body : List Stmt} {wi : TI} {g : TG} {tb : TS} {pos : Pos}
theorem PIG.imp {wi' : TI} (h : PIG X tg iter wi) (k : ∀ σ H R, wi' σ H R → wi σ H R) : PIG X tg iter wi' := fun pins s σ H R I q => h pins s σ H R I (k _ _ _ q)
theorem pig_range1 {a : Expr} {ta : TA} {p pos : Pos} (hg : Gl X "range") (hm : X.mg "range" = none) (ha : PAG X [a] ta) (hs : starEach [a] X.env = [(false, eval a X.env)] := by rfl) : PIG X tg (.Call (.Name "range" p) [a] [] pos) (iRng1 ta) := by
  intro pins s σ H R I h
  refine Call_ (ld_blt I hg hm boot_range (PyProof.Rows.callWith_type1 (thn (ha pos pins s σ H _ I h) fun us s1 ⟨hk, vs, H1, I1, r1, q1⟩ => ?_) hs rfl))
  obtain ⟨j, e, q1, q2, q⟩ := q1
  subst e
  cases r1 with
  | cons r rr =>
    cases rr
    obtain ⟨t, rfl⟩ := r
    refine wpAny_mono (PySem.wpAny_toks (call_range_1 (range_it (tg := tg) (R := R) I1 (by omega) (by omega) q1 q2 (by simpa using q)))) (fun v s2 x => ⟨Nat.le_trans hk x.1, x.2⟩) fun _ _ x => x.2
theorem ps_forG (hp : PassesOwn (model X.prog X.w) X.A X.env X.xe) (hc : X.calm = true) (hi : PIG X tg iter wi) (hg : PG X tg g) (hb : PSsT X body tb)
    (hs : ∀ x, foldedSetIterable iter X.env x = pure x := by intro _; rfl) : PS X (.For tg iter body [] pos) (tFor wi g tb) := by
  refine ⟨fun pins s σ H D I h => ?_⟩
  refine wpAny_For (thn (hi pins s σ H _ I h) fun v s1 ⟨k1, h1⟩ => wpAny_mono (PySem.wpAny_toks h1) (fun itv s2 h2 => ?_) fun _ _ z => z.2) hs
  obtain ⟨k2, it, fp, tn, J, H2, e, I2, T, st2, f2, W, ⟨m0, w0⟩, turn⟩ := h2
  subst e
  have stat : ∀ {H' : Hp}, (∀ b ∈ fp, H' b = none) → ∀ b ∈ fp, FpOk X pins H' b := fun hn b hb => ⟨hn b hb, (f2 b hb).2⟩
  refine codeAny_forLoop_any (fun n s' => 1 ≤ s'.toks ∧ ∃ i σ' H', Inv X pins σ' H' s' ∧ tn i s'.heap ∧ (∀ b ∈ fp, H' b = none) ∧ W i n σ' H') ?_ m0 ⟨Nat.le_trans k1 k2, 0, σ, H2, I2, st2, fun b hb => (f2 b hb).1, w0⟩
  rintro n s3 ⟨k3, i, σ3, H3, I3, st3, fr3, w3⟩
  rcases turn i n σ3 H3 w3 with ⟨stop, qn⟩ | ⟨go, N, hN, step⟩
  · refine wpAny_passesOwn hp (thn (T.done X rfl rfl rfl hc i pins s3 σ3 H3 X.xe I3 (stat fr3) st3 stop) fun r s4 ⟨hr, I4⟩ => ?_)
    subst hr
    exact wpAny_execs_nil ⟨σ3, H3, I4, qn⟩
  · refine wpAny_passesOwn hp (wpAny_mono (PySem.wpAny_toks (T.item X rfl rfl rfl hc i pins s3 σ3 H3 X.xe I3 (stat fr3) st3 go)) (fun r s4 x4 => ?_) fun _ _ z => z.2)
    obtain ⟨k4, u, hr, h4⟩ := x4
    subst hr
    refine wpAny_passesOwn hp (wpAny_mono (PySem.wpAny_toks h4) (fun _ s5 x5 => ?_) fun _ _ z => z.2)
    obtain ⟨k5, x, H5, I5, r5, y5, st5, fr5⟩ := x5
    have I5' := I5.pinned (stat fr5) (T.obj _ _ st5)
    refine wpAny_passesOwn hp (wpAny_mono (PySem.wpAny_toks (hg.run _ s5 σ3 H5 x u _ I5' r5 (step x H5 y5))) (fun _ s6 x6 => ?_) fun _ _ z => z.2)
    obtain ⟨k6, σ6, H6, I6, q6⟩ := x6
    have k6' : 1 ≤ s6.toks := Nat.le_trans k3 (Nat.le_trans k4 (Nat.le_trans k5 k6))
    refine wpAny_passesOwn hp (wpAny_mono (PySem.wpAny_toks (hb _ s6 σ6 H6 _ k6' I6 q6)) (fun f s7 x7 => ?_) fun _ _ z => z.2)
    obtain ⟨k7, q7⟩ := x7
    have again : ∀ {σ7 : St} {H7 : Hp}, Inv X (pins ++ pinsAt fp s5.heap) σ7 H7 s7 → N σ7 H7 → ∃ m, m < n ∧ 1 ≤ s7.toks ∧ ∃ i σ' H', Inv X pins σ' H' s7 ∧ tn i s7.heap ∧ (∀ b ∈ fp, H' b = none) ∧ W i m σ' H' := fun {σ7 H7} I7 n7 => by
      obtain ⟨m', hm, w7⟩ := hN σ7 H7 n7
      refine ⟨m', hm, Nat.le_trans k6' k7, i + 1, σ7, H7, I7.unpinned, T.keep _ _ _ st5 fun b hb o e => (I7.pin (b, o) (List.mem_append_right _ (List.mem_append_right _ (mem_pinsAt hb e)))).1, fun b hb => ?_, w7⟩
      obtain ⟨o, e, d⟩ := T.obj _ _ st5 b hb
      exact (I7.pin (b, o) (List.mem_append_right _ (List.mem_append_right _ (mem_pinsAt hb e)))).2.1
    cases f with
    | next => obtain ⟨σ7, H7, I7, n7⟩ := q7; exact again I7 n7
    | cont => obtain ⟨σ7, H7, I7, n7⟩ := q7; exact again I7 n7
    | brk => obtain ⟨σ7, H7, I7, q7⟩ := q7; exact ⟨σ7, H7, I7.unpinned, q7⟩
    | ret v => obtain ⟨x7, σ7, H7, I7, r7, q7⟩ := q7; exact ⟨x7, σ7, H7, I7.unpinned, r7, q7⟩
theorem PET.imp {e : Expr} {t t' : TE} (h : PET X e t) (k : ∀ σ H Q, t' σ H Q → t σ H Q) : PET X e t' := fun pins s σ H Q h0 I q => h pins s σ H Q h0 I (k _ _ _ q)
theorem PAT.imp {e : List Expr} {t t' : TA} (h : PAT X e t) (k : ∀ σ H Q, t' σ H Q → t σ H Q) : PAT X e t' := fun pos pins s σ H Q h0 I q => h pos pins s σ H Q h0 I (k _ _ _ q)
theorem PIT.imp {t t' : TI} (h : PIT X tg iter t) (k : ∀ σ H Q, t' σ H Q → t σ H Q) : PIT X tg iter t' := fun pins s σ H Q h0 I q => h pins s σ H Q h0 I (k _ _ _ q)
theorem PST.imp {st : Stmt} {t t' : TS} (h : PST X st t) (k : ∀ D σ H, t' D σ H → t D σ H) : PST X st t' := fun pins s σ H Q h0 I q => h pins s σ H Q h0 I (k _ _ _ q)
theorem PSsT.imp {st : List Stmt} {t t' : TS} (h : PSsT X st t) (k : ∀ D σ H, t' D σ H → t D σ H) : PSsT X st t' := fun pins s σ H Q h0 I q => h pins s σ H Q h0 I (k _ _ _ q)
theorem pst_set {i : Nat} {x : Str} {e : Expr} {te : TE} {pos' : Pos} (hN : X.N.Nodup) (hi : X.N[i]? = some x) (hx : Loc X.env.scope x) (he : PET X e te) (hs : swapsWith e (some (.Name x pos')) pos.line X.env = pure false := by rfl) (hf : X.fn x = true ∨ X.env.scope.names.lookup x = some .local := by first | exact .inl rfl | exact .inr rfl | assumption) :
    PST X (.Assign [.Name x pos'] e pos) (tAsg te (gName i)) := by
  intro pins s σ H D h0 I h
  refine wpAny_Assign_Name (thn (he pins s σ H _ h0 I h) fun v s1 ⟨y, H1, I1, r1, q1⟩ => ?_) hs
  exact store_ok I1 hN hi hx r1 (fun s2 I2 => ⟨_, H1, I2, q1⟩) hf
theorem pet_tupB {t : TA} {es : List Expr} {k : Nat} (h : PAT X es t) : PET X (.Tuple es k pos) (fun σ H Q => t σ H fun xs H1 => xs.length ≤ sizeLine ∧ DL.NewT H1 xs Q) := by
  intro pins s σ H Q h0 I hq
  refine wpAny_Tuple_spliced (thn (h pos pins s σ H _ h0 I hq) fun us s1 ⟨xs, H1, I1, r, z, q⟩ => ⟨by rw [← r.length]; exact z, ?_⟩)
  exact DL.newT_laid I1 (fun b u e => Heap.get?_push_of_some _ e) (Nat.le_refl _) (Heap.get?_push_size _ rfl) rfl ⟨_, Heap.get?_push_size _ rfl, rfl, _, rfl⟩ z r q (t' := s1.toks)
theorem pit_tup {l : Expr} {tl : TE} (hl : PET X l tl) : PIT X tg l (iTup X.K tl) := by
  intro pins s σ H R h0 I h
  refine thn (hl pins s σ H _ h0 I h) fun v s1 ⟨x, H1, I1, r1, q1⟩ => ?_
  obtain ⟨a, e, ⟨xs, hq⟩, q⟩ := q1
  subst e
  cases r1
  obtain ⟨its, rv, p, hz⟩ := I1.tuple hq
  refine wpAny_pyIter_tuple (show s1.heap.IsTuple a its.toArray from p) ?_
  refine ⟨s1.heap.objs.size, [s1.heap.objs.size], _, _, H1, rfl, I1.kept (t' := s1.toks) fun b o e => Heap.get?_push_of_some _ e, turn_tuple a _, ⟨_, Heap.get?_push_size _ rfl, rfl, rfl⟩, fun b hb => ?_, q⟩
  have e : b = s1.heap.objs.size := by simpa using hb
  subst e
  exact I1.fpOk (Nat.le_refl _) (I1.hok.fresh (Nat.le_refl _))
end
end L2
namespace DL
open PySem PySem.Spec PyProof.Rows L2 CwR
section
variable {X : Cx} {W : WX} {η : Nat → Addr} {N : Nat} {H : Hp}
def DET (X : Cx) (W : WX) (e : Expr) (f : SE) : Prop := PET X e (tE X.K X.mg W f)
def DAT (X : Cx) (W : WX) (es : List Expr) (f : SA) : Prop := PAT X es (tA X.K X.mg W f)
def DIT (X : Cx) (W : WX) (tg e : Expr) (f : SI) : Prop := PIT X tg e (tI X.K X.mg W f)
def DIG (X : Cx) (W : WX) (tg e : Expr) (f : SI) : Prop := PIG X tg e (tI X.K X.mg W f)
def DST (X : Cx) (W : WX) (st : Stmt) (f : SS) : Prop := PST X st (tS X.K X.mg W f)
def DSsT (X : Cx) (W : WX) (st : List Stmt) (f : SS) : Prop := PSsT X st (tS X.K X.mg W f)
theorem det_of {e : Expr} {f : SE} (h : DE X W e f) : DET X W e f := PET.of h
theorem dst_of {st : Stmt} {f : SS} (h : DS X W st f) : DST X W st f := PST.of h
theorem dsst_of {st : List Stmt} {f : SS} (h : DSs X W st f) : DSsT X W st f := PSsT.of h
theorem dsst_cons {st : Stmt} {sts : List Stmt} {s t : SS} (h1 : DST X W st s) (h2 : DSsT X W sts t) : DSsT X W (st :: sts) (sSeq s t) := PSsT.imp (psst_cons h1 h2) fun D σ H h => by
  obtain ⟨η, σd, ah, sim, h⟩ := h
  exact ⟨η, σd, ah, sim, seq_core h⟩
theorem dsst_one {st : Stmt} {s : SS} (h1 : DST X W st s) : DSsT X W [st] s := psst_one h1
/-! ### e.replace(y, z) -/
def dRepl (y z : List Nat) (fo : SE) : SE := fun σ h => (fo σ h).bind fun d h1 => match d with
  | .str x => if (S x).length + ((S x).length + 1) * (S z).length ≤ 16777216 then .ok (.str (Txt.replace (S x) (S y) (S z)).cps.toList) h1 else .bad
  | _ => .bad
theorem det_repl {o : Expr} {fo : SE} {y z : Str} {ys zs : List Nat} {j k : Nat} {c0 c1 apos pos : Pos} (ho : DE X W o fo) (hy : y = S ys := by rfl) (hz : z = S zs := by rfl) (hyz : (y == z) = false := by decide)
    (hst : starEach [.Constant (.str y) j c0, .Constant (.str z) k c1] X.env = [(false, eval (.Constant (.str y) j c0) X.env), (false, eval (.Constant (.str z) k c1) X.env)] := by rfl)
    (hbase : attributeBase o "replace" X.env (eval o X.env) = eval o X.env := by rfl) (hline : (apos.endLine == pos.line) = true := by rfl) :
    DET X W (.Call (.Attribute o "replace" apos) [.Constant (.str y) j c0, .Constant (.str z) k c1] [] pos) (dRepl ys zs fo) := PET.imp (pet_replC ho hyz hst hbase hline) fun σ H Q h => by
  subst hy hz
  obtain ⟨η, σd, ah, sim, h⟩ := h
  refine tE_bind sim h fun d ah1 η1 v H1 s1 e1 r1 h1 => ?_
  split at h1
  · rename_i x
    rw [show v = .str (S x) from r1]
    split at h1
    · rename_i hb
      exact ⟨S x, rfl, hb, h1 η1 _ H1 Ext.refl s1.hh rel_str⟩
    · exact h1.elim
  · exact h1.elim
theorem dst_set (i : Nat) {x : Str} {a : Expr} {fa : SE} {pos pos' : Pos} (hN : X.N.Nodup) (ha : DET X W a fa) (hi : X.N[i]? = some x := by rfl) (hx : L2.Loc X.env.scope x := by first | exact Or.inl rfl | exact Or.inr rfl) (hs : swapsWith a (some (.Name x pos')) pos.line X.env = pure false := by rfl) (hf : X.fn x = true ∨ X.env.scope.names.lookup x = some .local := by first | exact .inl rfl | exact .inr rfl) :
    DST X W (.Assign [.Name x pos'] a pos) (sSet i fa) := PST.imp (pst_set hN hi hx ha hs hf) fun D σ H h => by
  obtain ⟨η, σd, ah, sim, h⟩ := h
  exact tE_bindS sim h fun d ah1 η1 v H1 s1 e1 r1 h1 => h1 η1 _ H1 Ext.refl (s1.set r1)
/-! ### tuples with such -/
theorem dat_nil : DAT X W [] dNil := PAT.imp pat_nil fun σ H Q h => by
  obtain ⟨η, σd, ah, sim, h⟩ := h
  exact h η [] H Ext.refl sim.hh rfl
theorem dat_cons {e : Expr} {es : List Expr} {fe : SE} {fs : SA} (ha : DET X W e fe) (hr : DAT X W es fs) (hs : starEach (e :: es) X.env = (false, eval e X.env) :: starEach es X.env := by rfl) : DAT X W (e :: es) (dCons fe fs) := PAT.imp (pat_cons ha hr hs) fun σ H Q h => by
  obtain ⟨η, σd, ah, sim, h⟩ := h
  exact tE_bindA sim h fun d ah1 η1 v H1 s1 e1 r1 h1 => tA_bindA s1 h1 fun ds ah2 η2 vs H2 s2 e2 r2 h2 => h2 η2 _ H2 Ext.refl s2.hh ⟨v, vs, rfl, r1.ext e2, r2⟩
theorem det_tup {es : List Expr} {fs : SA} {k : Nat} {pos : Pos} (h : DAT X W es fs) : DET X W (.Tuple es k pos) (dTup fs) := PET.imp (pet_tupB h) fun σ H Q h => by
  obtain ⟨η, σd, ah, sim, h⟩ := h
  refine tA_bind sim h fun ds ah1 η1 xs H1 s1 e1 r1 h1 => ?_
  by_cases hl : ds.length ≤ 16777216
  · rw [if_pos hl] at h1
    exact ⟨by rw [r1.length]; exact hl, rel_newT s1.hh r1 fun v H' e hh' rd => h1 η1 v H' e hh' rd⟩
  · rw [if_neg hl] at h1
    exact h1.elim
theorem dit_tup {es : List Expr} {fs : SA} {k : Nat} {pos : Pos} {tg : Expr} (h : DAT X W es fs) : DIT X W tg (.Tuple es k pos) (iSeq (dTup fs)) := PIT.imp (pit_tup (det_tup h)) fun σ H R h => by
  obtain ⟨η, σd, ah, sim, h⟩ := h
  refine tE_bindI sim h fun d ah1 η1 v H1 z s1 e1 r1 h1 => ?_
  have hd : ∃ ds, d = .tup ds := by
    have z' : (fs σd ah).bind (fun ds h1 => if ds.length ≤ 16777216 then .ok (.tup ds) h1 else .bad) = .ok d ah1 := z
    cases q : fs σd ah with
    | ok ds h2 =>
      rw [q] at z'
      have z2 : (if ds.length ≤ 16777216 then DL.R.ok (.tup ds) h2 else DL.R.bad) = DL.R.ok d ah1 := z'
      split at z2
      · cases z2; exact ⟨ds, rfl⟩
      · cases z2
    | exc x h2 => rw [q] at z'; cases z'
    | bad => rw [q] at z'; cases z'
  obtain ⟨ds, rfl⟩ := hd
  obtain ⟨p, vs, rfl, h2, h3⟩ := r1
  exact ⟨p, rfl, ⟨vs, h2.sq⟩, h1 η1 H1 Ext.refl s1.hh _ (jok_tup h2 h3)⟩
/-! ### for -/
theorem for_core {fi : SI} {g : GF} {sl : List Nat} {s : SS} {D : Ends} {σ : L2.St} {H : Hp} (h : tS X.K X.mg W (sFor fi g s) D σ H) : tFor (tI X.K X.mg W fi) (tG X.K X.mg sl g) (tS X.K X.mg W s) D σ H := by
  obtain ⟨η, σd, ah, sim, h⟩ := h
  refine ⟨η, σd, ah, sim, ?_⟩
  unfold sFor at h
  cases q : fi σd ah with
  | bad => rw [q] at h; exact h
  | exc x ah1 =>
    rw [q] at h
    exact fun η' H' C e r m => h η' σ H' C e (sim.ext e r) m
  | ok items gd ah1 =>
    rw [q] at h
    intro η0 H0 e0 r0 J jok
    have h0 : RPS X.K X.mg W η0 ah1.length H0 (forL gd g s items σd ah1) D := RPS.base e0 h
    refine ⟨fun i m σ H => ∃ η σd ah, Sim X.K X.mg η σd ah σ H ∧ Ext η0 ah1.length H0 η ah.length H ∧ m = items.length - i ∧ i ≤ items.length ∧ RPS X.K X.mg W η ah.length H (forL gd g s (items.drop i) σd ah) D,
      ⟨_, η0, σd, ah1, sim.ext e0 r0, Ext.refl, rfl, Nat.zero_le _, h0⟩, ?_⟩
    rintro i m σ' H' ⟨η', σd', ah', s', e', rfl, hi', hf⟩
    by_cases hlt : i < items.length
    · rw [List.drop_eq_getElem_cons hlt] at hf
      have hgd : gd ah' := by
        refine Classical.byContradiction fun hn => ?_
        unfold forL at hf
        rw [if_neg hn] at hf
        exact hf
      unfold forL at hf
      rw [if_pos hgd] at hf
      refine .inr ⟨jok.go i η' ah' H' e' s'.hh hgd hlt, fun σ' H' => ∃ η σd ah, Sim X.K X.mg η σd ah σ' H' ∧ Ext η0 ah1.length H0 η ah.length H' ∧ RPS X.K X.mg W η ah.length H' (forL gd g s (items.drop (i + 1)) σd ah) D, fun σ2 H2 hN => ?_, fun x H2 y => ?_⟩
      · obtain ⟨η2, σd2, ah2, s2, e2, h2⟩ := hN
        exact ⟨items.length - (i + 1), by omega, η2, σd2, ah2, s2, e2, rfl, hlt, h2⟩
      · obtain ⟨y1, y2, y3⟩ := jok.yld i η' ah' H' x H2 _ e' s'.hh hgd (List.getElem?_eq_getElem hlt) y
        have s2 := s'.ext y2 y1
        cases qg : g items[i] σd' ah' with
        | none => rw [qg] at hf; exact hf.elim
        | some σd2 =>
          rw [qg] at hf
          refine ⟨η', σd', ah', items[i], σd2, s2, y3, qg, fun σ3 s3 _ => ⟨η', σd2, ah', s3, ?_⟩⟩
          exact body_go (RPS.base y2 hf) fun η4 σd4 ah4 σ4 H4 e4 s4 h4 => ⟨η4, σd4, ah4, s4, (e'.trans y2).trans e4, h4⟩
    · have ei : i = items.length := by omega
      subst ei
      rw [List.drop_length] at hf
      unfold forL at hf
      by_cases hgd : gd ah'
      · rw [if_pos hgd] at hf
        exact .inl ⟨jok.stop _ η' ah' H' e' s'.hh hgd (Nat.le_refl _), hf η' σ' H' Ext.refl s'⟩
      · rw [if_neg hgd] at hf; exact hf.elim
theorem ds_forG {tg iter : Expr} {body : List Stmt} {fi : SI} {g : GF} {sl : List Nat} {s : SS} {pos : Pos} (hp : PassesOwn (model X.prog X.w) X.A X.env X.xe) (hc : X.calm = true) (hi : DIG X W tg iter fi) (hg : DG X sl tg g) (hb : DSsT X W body s) (hs : ∀ x, foldedSetIterable iter X.env x = pure x := by intro _; rfl) :
    DS X W (.For tg iter body [] pos) (sFor fi g s) := PS.imp (ps_forG hp hc hi hg hb hs) fun D σ H h => for_core h
theorem dst_for {tg iter : Expr} {body : List Stmt} {fi : SI} {g : GF} {sl : List Nat} {s : SS} {pos : Pos} (hp : PassesOwn (model X.prog X.w) X.A X.env X.xe) (hc : X.calm = true) (hi : DIT X W tg iter fi) (hg : DG X sl tg g) (hb : DSs X W body s) (hs : ∀ x, foldedSetIterable iter X.env x = pure x := by intro _; rfl) :
    DST X W (.For tg iter body [] pos) (sFor fi g s) := PST.imp (pst_for hp hc hi hg hb hs) fun D σ H h => for_core h
/-! ### range(n), n written -/
theorem dag_int {n : Int} {j : Nat} {cp : Pos} (hs : starEach [.Constant (.int n) j cp] X.env = [(false, eval (.Constant (.int n) j cp) X.env)] := by rfl) : PAG X [.Constant (.int n) j cp] (tA X.K X.mg W (dCons (dC (.int n)) dNil)) := by
  intro pos pins s σ H Q I h
  obtain ⟨η, σd, ah, sim, h⟩ := h
  rw [hs]
  refine Calls.spliced_cons (wpAny_Constant_int (k := j) (pos := cp) (Calls.spliced_nil ⟨by show 1 ≤ s.toks + 1; omega, [.int n], H, I.tok _, .cons ⟨_, rfl⟩ .nil, ?_⟩))
  exact h η [.int n] H Ext.refl sim.hh ⟨.int n, [], rfl, rfl, rfl⟩
theorem dig_rng1 {p pos : Pos} {tg a : Expr} {fs : SA} (hg : Gl X "range") (hm : X.mg "range" = none) (ha : PAG X [a] (tA X.K X.mg W fs)) (hs : starEach [a] X.env = [(false, eval a X.env)] := by rfl) : DIG X W tg (.Call (.Name "range" p) [a] [] pos) (iRng1 fs) := PIG.imp (pig_range1 hg hm ha hs) fun σ H R h => by
  obtain ⟨η, σd, ah, sim, h⟩ := h
  refine tA_bindI sim h fun ds ah1 η1 vs H1 z s1 e1 r1 h1 => ?_
  obtain ⟨n, rfl, hs⟩ := iRg1K_inv h1
  obtain ⟨v, r, rfl, rfl, rfl⟩ := r1
  have h2 : RPI X.K X.mg W η1 ah1.length σ H1 (if small62 n = true then .ok (iota 0 n.toNat) (fun _ => True) ah1 else .bad) R := h1
  rw [if_pos hs] at h2
  simp only [small62, Bool.and_eq_true, decide_eq_true_eq] at hs
  exact ⟨n, rfl, hs.1, hs.2, h2 η1 H1 Ext.refl s1.hh _ jok_rng⟩
end
end DL


set_option maxRecDepth 100000
set_option maxHeartbeats 4000000
/-! ## sets of objects of any heap kind: built of a list, counted -/
namespace DLH
open PySem PySem.Spec PyProof.Rows L2
/-- a heap kind whose members are asked nothing by a search, and stay when others change -/
structure Tame {P : Program} {w : World} {K : Type} [DecidableEq K] (knd : HeapKind P w K) : Prop where
  notClass : ∀ {A : Around} {E : Value → Shared → Prop} {s : Shared} {k : K} {b : Addr} {Q : Bool → Shared → Prop}, knd.is s.heap k b → Q false s → wpAny (model P w) A (ofAClassStatement 8 (.ref b)) Q E s
  byValue : ∀ {A : Around} {E : Value → Shared → Prop} {s : Shared} {k : K} {b : Addr} {Q : Bool → Shared → Prop}, knd.is s.heap k b → (∀ v, Q v s) → wpAny (model P w) A (hashByValue 8 (.ref b)) Q E s
  moves : ∀ {h h' : Heap} {k : K} {b : Addr}, knd.is h k b → (∀ o, o.cls = .type "tuple" → h.get? b = some o → h'.get? b = some o) → knd.is h' k b
section
variable {P : Program} {w : World} {K : Type} [DecidableEq K] {knd : HeapKind P w K}
theorem Tame.keep (T : Tame knd) {h h' : Heap} {k : K} {b : Addr} (x : knd.is h k b) (hk : ∀ c o, h.get? c = some o → h'.get? c = some o) : knd.is h' k b := T.moves x fun o _ e => hk b o e
/-- .. also when a set changes -/
theorem Tame.same (T : Tame knd) {h h' : Heap} {k : K} {a b : Addr} {o : Obj} {es : Array (Int × Value)} {ep : Nat} {t : SetTable} (hb : knd.is h k b) (ho : h.get? a = some o) (hx : o.ExactSet) (hd : o.data = .set es ep t) (hs : Heap.SameBut a h h') : knd.is h' k b := by
  refine T.moves hb fun o' hc e => ?_
  refine (hs.2 b ?_).trans e
  rintro rfl
  obtain rfl : o' = o := Option.some.inj (e.symm.trans ho)
  have := hx.1
  rw [hc] at this
  injection this with this
  exact absurd this (by decide)
end
section
variable {P : Program} {w : World} {K : Type} [DecidableEq K] {knd : HeapKind P w K} {A : Around} {E : Value → Shared → Prop} {s : Shared} {a : Addr} {es : Array (Int × Value)} {ep : Nat} {t : SetTable} {L : List (Addr × K)}
theorem seenH (T : Tame knd) {k : K} {b : Addr} {Q : Bool → Shared → Prop} (hk : knd.is s.heap k b) {ys : List Value} (hy : ∀ y ∈ ys, ∃ k' c, y = Value.ref c ∧ knd.is s.heap k' c) (h : Q false s) :
    wpAny (model P w) A (searchCouldBeSeen (.ref b) ys) Q E s := by
  unfold searchCouldBeSeen
  refine wpAny_bind (wpAny_forIn_list _ (fun rest r s' => r.1 = none ∧ s' = s ∧ ∀ y ∈ rest, ∃ k' c, y = Value.ref c ∧ knd.is s.heap k' c) _ ?_ ?_ _ _ ⟨rfl, rfl, hy⟩)
  · rintro v rest r s' ⟨hr, rfl, hall⟩
    obtain ⟨k', c, rfl, hc⟩ := hall v List.mem_cons_self
    have more : ∀ y ∈ rest, ∃ k' c, y = Value.ref c ∧ knd.is s'.heap k' c := fun u hu => hall u (List.mem_cons_of_mem _ hu)
    dsimp only
    by_cases hv : (b == c || (carriedByValue (.ref b) && carriedByValue (.ref c))) = true
    · exact wp_if_pos hv (wpAny_pure ⟨rfl, rfl, more⟩)
    · refine wp_if_neg hv (wpAny_bind (knd.quiet hk ?_))
      simp only [Bool.not_true, Bool.false_eq_true, if_false]
      refine wpAny_bind (knd.quiet hc ?_)
      simp only [Bool.not_true, Bool.false_eq_true, if_false]
      refine wpAny_bind (T.notClass hk ?_)
      simp only [Bool.false_eq_true, if_false]
      refine wpAny_bind (T.notClass hc ?_)
      simp only [Bool.false_eq_true, if_false]
      exact wpAny_pure ⟨rfl, rfl, more⟩
  · rintro ⟨r1, r2⟩ s' ⟨hr, rfl, _⟩
    simp only at hr
    subst hr
    exact wpAny_pure h
def rowH (knd : HeapKind P w K) (p : Addr × K) : Int × Value := (knd.hash p.2, Value.ref p.1)
/-- the set at a: its members L, in the table's order -/
structure SetH (knd : HeapKind P w K) (h : Heap) (a : Addr) (L : List (Addr × K)) (es : Array (Int × Value)) (ep : Nat) (t : SetTable) : Prop where
  ob : ∃ o, h.get? a = some o ∧ o.ExactSet ∧ o.data = .set es ep t
  rows : es.toList = L.map (rowH knd)
  tab : TabOk t (L.map fun p => knd.hash p.2)
  nd : (L.map (·.2)).Nodup
  mem : ∀ p ∈ L, knd.is h p.2 p.1
  led : w.params.followText "set-order" = true ∨ t.led = true
  room : L.length * 5 < t.mask * 3
  few : L.length < 64
theorem SetH.size (R : SetH knd s.heap a L es ep t) : es.size = L.length := by
  have h := congrArg List.length R.rows
  rwa [Array.length_toList, List.length_map] at h
theorem SetH.tsize (R : SetH knd s.heap a L es ep t) : t.place.size = L.length := by rw [R.tab.sz, List.length_map]
theorem SetH.fits (R : SetH knd s.heap a L es ep t) : t.fits es.size = true := by
  have h1 := R.tsize
  have h2 := R.size
  have h3 := R.room
  unfold SetTable.fits SetTable.fill
  rw [R.tab.dm, Bool.and_eq_true, beq_iff_eq, decide_eq_true_eq]
  show t.place.size = es.size ∧ t.place.size + 0 ≤ t.mask
  omega
theorem SetH.entry (R : SetH knd s.heap a L es ep t) {i : Nat} {p : Addr × K} (h : L[i]? = some p) : es[i]? = some (rowH knd p) := by
  rw [← Array.getElem?_toList, R.rows, List.getElem?_map, h]
  rfl
theorem SetH.gw (R : SetH knd s.heap a L es ep t) : ¬ t.gaveWay = true := by
  unfold SetTable.gaveWay
  rw [mask_odd R.tab.mok]
  decide
/-- the way of the probe for a hash -/
def probeH (t : SetTable) (h : Int) (c : Nat) : SetTable.Probe := nth t.mask (runAt t.mask (SetTable.bits h % (t.mask + 1)) (SetTable.bits h)) c
theorem probeH_j (t : SetTable) (h : Int) (c : Nat) : (probeH t h c).j = way t.mask h c := rfl
theorem probeH_more (t : SetTable) (h : Int) (c q : Nat) : nth t.mask (probeH t h c) q = probeH t h (c + q) := (nth_add t.mask c _ q).symm
theorem probeH_dummy (t : SetTable) (h : Int) (c : Nat) : (probeH t h c).dummy = none := by
  have key : ∀ (n : Nat) (p : SetTable.Probe), p.dummy = none → (nth t.mask p n).dummy = none := by
    intro n
    induction n with
    | zero => intro p h; exact h
    | succ n ih =>
      intro p h
      refine ih (adv t.mask p) ?_
      unfold adv
      split <;> exact h
  exact key c _ rfl
/-- the search, from the c-th step of the way on -/
theorem search_fromH (T : Tame knd) (R : SetH knd s.heap a L es ep t) {x : Addr} {k : K} (hx : knd.is s.heap k x) (hu : knd.room A) {M : Nat} (hMf : M < 10 * SetTable.turns t.mask)
    (hM : way t.mask (knd.hash k) M ∉ t.place.toList) (hMb : ∀ c, c < M → way t.mask (knd.hash k) c ∈ t.place.toList) {Q : SetFound → Shared → Prop}
    (hin : k ∈ L.map (·.2) → Q (.there none) s) (hout : k ∉ L.map (·.2) → Q (.free (way t.mask (knd.hash k) M) false) s) :
    ∀ (f c : Nat) (stand : Option SetTable.Probe), stand.getD (t.probeStart (knd.hash k)) = probeH t (knd.hash k) c → c ≤ M → M - c < f →
      (∀ (i : Nat) p, L[i]? = some p → p.2 = k → ∃ c', c ≤ c' ∧ c' < M ∧ t.place.toList[i]? = some (way t.mask (knd.hash k) c')) →
      wpAny (model P w) A (setSearchFrom a (.ref x) (knd.hash k) true f stand) Q E s
  | 0, c, stand, _, _, hf, _ => absurd hf (Nat.not_lt_zero _)
  | f + 1, c, stand, hst, hc, hf, hre => by
    obtain ⟨o, ho, hex, hd⟩ := R.ob
    rw [setSearchFrom_succ]
    refine wpAny_bind (wpAny_setState_of ho hd R.fits ?_)
    dsimp only
    refine wp_if_neg R.gw ?_
    try refine wpAny_bind (wpAny_pure ?_)
    have jat : ∀ q, (nth t.mask (probeH t (knd.hash k) c) q).j = way t.mask (knd.hash k) (c + q) := fun q => by rw [probeH_more, probeH_j]
    have hashAt : ∀ (i : Nat) p, L[i]? = some p → (fun i => (es[i]?.map (·.1)).getD 0) i = knd.hash p.2 := fun i p hp => by
      show (es[i]?.map (·.1)).getD 0 = _
      rw [R.entry hp]
      rfl
    rcases go_spec t R.tab.ris R.tab.dm (fun i => (es[i]?.map (·.1)).getD 0) (knd.hash k) (10 * SetTable.turns t.mask) (M - c) _ (probeH_dummy t (knd.hash k) c) (by omega)
      (fun q hq => by rw [jat]; exact hMb (c + q) (by omega)) (by rw [jat, show c + (M - c) = M by omega]; exact hM) with ⟨q, i, hq, hi, hh, hno, hpr⟩ | ⟨hno, hpr⟩
    · -- a candidate stands in the way
      rw [probeH_more, probeH_more] at hpr
      have hpr' : t.probe (fun i => (es[i]?.map (·.1)).getD 0) (knd.hash k) (stand.getD (t.probeStart (knd.hash k))) = some (.candidate (way t.mask (knd.hash k) (c + q)) i (probeH t (knd.hash k) (c + (q + 1)))) := by
        rw [hst]
        exact hpr
      rw [hpr']
      dsimp only
      rw [jat] at hi
      have hil : i < L.length := by
        have h1 : i < t.place.toList.length := (List.getElem?_eq_some_iff.mp hi).1
        have h2 := R.tsize
        rw [Array.length_toList] at h1
        omega
      obtain ⟨p, hp⟩ : ∃ p, L[i]? = some p := ⟨_, List.getElem?_eq_getElem hil⟩
      have hmem := List.mem_of_getElem? hp
      have hpk := R.mem p hmem
      have rest : wpAny (model P w) A (searchRest a (.ref x) (knd.hash k) true f es t (way t.mask (knd.hash k) (c + q)) i (probeH t (knd.hash k) (c + (q + 1)))) Q E s := by
        unfold searchRest
        rw [R.entry hp]
        unfold rowH
        dsimp only
        refine wpAny_bind (wpAny_holding (knd.eqBool hu hpk hx ?_))
        refine wpAny_bind (wpAny_setState_of ho hd R.fits ?_)
        dsimp only
        by_cases hkk : p.2 = k
        · exact wp_if_pos (by simp [hkk]) (wpAny_pure (hin (List.mem_map.mpr ⟨p, hmem, hkk⟩)))
        · refine wp_if_neg (by simp [hkk]) ?_
          try refine wpAny_bind (wpAny_pure ?_)
          rw [sameMem]
          dsimp only
          have hsl : t.slot (way t.mask (knd.hash k) (c + q)) = .live i := slot_live R.tab.ris hi
          have hen : es[i]? = some (knd.hash p.2, Value.ref p.1) := R.entry hp
          simp only [if_true, hsl, hen]
          refine wpAny_bind (wpAny_isSame_ref_self (wpAny_bind (wpAny_pure ?_)))
          simp only [if_true]
          refine wp_if_neg (by simp [hkk]) ?_
          refine search_fromH T R hx hu hMf hM hMb hin hout f (c + (q + 1)) _ rfl (by omega) (by omega) fun i0 p0 h0 hk0 => ?_
          obtain ⟨c', a1, a2, a3⟩ := hre i0 p0 h0 hk0
          refine ⟨c', ?_, a2, a3⟩
          rcases Nat.lt_trichotomy c' (c + q) with z | z | z
          · exfalso
            exact hno (c' - c) i0 (by omega) (by rw [jat, show c + (c' - c) = c' by omega]; exact a3) ((hashAt i0 p0 h0).trans (congrArg knd.hash hk0))
          · exfalso
            rw [z] at a3
            have s0 := slot_live R.tab.ris a3
            rw [hsl] at s0
            injection s0 with s0
            rw [← s0, hp] at h0
            exact hkk ((congrArg Prod.snd (Option.some.inj h0)).trans hk0)
          · omega
      by_cases hl : t.led = true
      · refine wp_if_neg (by simp [hl]) ?_
        try refine wpAny_bind (wpAny_pure ?_)
        exact rest
      · refine wp_if_pos (by simp [hl]) ?_
        refine wpAny_bind (seenH T hx (fun y hy => ?_) ?_)
        · obtain ⟨e, he, ee⟩ := List.mem_map.mp hy
          have he1 : e ∈ es ∧ e.1 = knd.hash k := by simpa using he
          have he2 : e ∈ es.toList := by simpa using he1.1
          rw [R.rows] at he2
          obtain ⟨p2, hp2, e2⟩ := List.mem_map.mp he2
          exact ⟨p2.2, p2.1, by rw [← ee, ← e2]; rfl, R.mem p2 hp2⟩
        · refine wp_if_neg (by decide) ?_
          try refine wpAny_bind (wpAny_pure ?_)
          exact rest
    · -- an empty slot
      rw [probeH_more, show c + (M - c) = M by omega, probeH_j] at hpr
      have hpr' : t.probe (fun i => (es[i]?.map (·.1)).getD 0) (knd.hash k) (stand.getD (t.probeStart (knd.hash k))) = some (.empty (way t.mask (knd.hash k) M) none) := by
        rw [hst]
        exact hpr
      rw [hpr']
      dsimp only
      refine wpAny_pure (hout fun hm => ?_)
      obtain ⟨p0, h0, hk0⟩ := List.mem_map.mp hm
      obtain ⟨i0, hi0⟩ := List.mem_iff_getElem?.mp h0
      obtain ⟨c', a1, a2, a3⟩ := hre i0 p0 hi0 hk0
      exact hno (c' - c) i0 (by omega) (by rw [jat, show c + (c' - c) = c' by omega]; exact a3) ((hashAt i0 p0 hi0).trans (congrArg knd.hash hk0))
theorem search_atH (T : Tame knd) (R : SetH knd s.heap a L es ep t) {x : Addr} {k : K} (hx : knd.is s.heap k x) (hu : knd.room A) {Q : SetFound → Shared → Prop}
    (hin : k ∈ L.map (·.2) → Q (.there none) s)
    (hout : ∀ M, k ∉ L.map (·.2) → way t.mask (knd.hash k) M ∉ t.place.toList → (∀ c, c < M → way t.mask (knd.hash k) c ∈ t.place.toList) → Q (.free (way t.mask (knd.hash k) M) false) s) :
    wpAny (model P w) A (setSearch a (.ref x) (knd.hash k) true) Q E s := by
  have hroom := R.room
  obtain ⟨M, hMf, hM, hMb⟩ := R.tab.first (by rw [List.length_map]; omega) (knd.hash k)
  have hbig : M < 100000 := by
    have : 10 * SetTable.turns t.mask ≤ 1420 := by
      unfold SetTable.turns
      rcases R.tab.mok with e | e | e <;> omega
    omega
  unfold setSearch
  refine search_fromH T R hx hu hMf hM hMb hin (fun hn => hout M hn hM hMb) 100000 0 none rfl (Nat.zero_le _) (by omega) fun i p hp hk => ?_
  have hi : (L.map fun p => knd.hash p.2)[i]? = some (knd.hash k) := by rw [List.getElem?_map, hp, ← hk]; rfl
  have hil : i < t.place.toList.length := by
    have h1 : i < L.length := (List.getElem?_eq_some_iff.mp hp).1
    have h2 := R.tsize
    rw [Array.length_toList]
    omega
  have hj := List.getElem?_eq_getElem hil
  obtain ⟨c, hc, e⟩ := R.tab.before hM hi hj
  exact ⟨c, Nat.zero_le _, hc, by rw [hj, e]⟩
end
end DLH


set_option maxRecDepth 100000
set_option maxHeartbeats 4000000
/-! ## sets of any heap kind: adding, set(list), len -/
namespace DLH
open PySem PySem.Spec PyProof.Rows L2
section
variable {P : Program} {w : World} {K : Type} [DecidableEq K] {knd : HeapKind P w K} {A : Around} {E : Value → Shared → Prop} {s : Shared} {a : Addr} {es : Array (Int × Value)} {ep : Nat} {t : SetTable} {L : List (Addr × K)}
/-- the rows in another order -/
theorem order_rowsH (L : List (Addr × K)) (es : Array (Int × Value)) (order : Array Nat) (hr : es.toList = L.map (rowH knd)) (hp : order.toList.Perm (List.range L.length)) :
    ∃ L2 : List (Addr × K), (order.filterMap (es[·]?)).toList = L2.map (rowH knd) ∧ L2.Perm L ∧ (L2.map fun p => knd.hash p.2) = order.toList.map fun i => (es.map (·.1)).getD i 0 := by
  have ent : ∀ i, es[i]? = (L[i]?).map (rowH knd) := fun i => by rw [← Array.getElem?_toList, hr, List.getElem?_map]
  have key : ∀ l : List Nat, (∀ i ∈ l, i < L.length) → l.filterMap (fun i => es[i]?) = (l.filterMap fun i => L[i]?).map (rowH knd) ∧ ((l.filterMap fun i => L[i]?).map fun p => knd.hash p.2) = l.map fun i => (es.map (·.1)).getD i 0 := by
    intro l
    induction l with
    | nil => intro _; exact ⟨rfl, rfl⟩
    | cons i l ih =>
      intro hl
      obtain ⟨p, hp⟩ : ∃ p, L[i]? = some p := ⟨_, List.getElem?_eq_getElem (hl i (by simp))⟩
      obtain ⟨e1, e2⟩ := ih fun j hj => hl j (by simp [hj])
      have he : es[i]? = some (rowH knd p) := by rw [ent, hp]; rfl
      have hd : (es.map (·.1)).getD i 0 = knd.hash p.2 := by
        have : (es.map (·.1))[i]? = some (knd.hash p.2) := by rw [Array.getElem?_map, he]; rfl
        simp [Array.getD_eq_getD_getElem?, this]
      rw [List.filterMap_cons_some he, List.filterMap_cons_some (f := fun i => L[i]?) hp, e1, List.map_cons, List.map_cons, List.map_cons, hd, e2]
      exact ⟨rfl, rfl⟩
  obtain ⟨e1, e2⟩ := key order.toList fun i hi => List.mem_range.mp (hp.mem_iff.mp hi)
  refine ⟨order.toList.filterMap fun i => L[i]?, by first | (rw [Array.toList_filterMap]; exact e1) | simpa using e1, ?_, e2⟩
  have h1 := hp.filterMap fun i => L[i]?
  have h2 : (List.range L.length).filterMap (fun i => L[i]?) = L := by
    have key2 : ∀ n, n ≤ L.length → (List.range n).filterMap (fun i => L[i]?) = L.take n := by
      intro n
      induction n with
      | zero => intro _; rfl
      | succ n ih =>
        intro hn
        have hg : L[n]? = some L[n] := List.getElem?_eq_getElem hn
        rw [List.range_succ, List.filterMap_append, ih (Nat.le_of_lt hn), take_next hg, List.filterMap_cons_some (f := fun i => L[i]?) hg]
        rfl
    rw [key2 L.length (Nat.le_refl _), List.take_length]
  rw [h2] at h1
  exact h1
/-- the table laid anew -/
theorem relay_atH (T : Tame knd) {o : Obj} (ho : s.heap.get? a = some o) (hex : o.ExactSet) (hd : o.data = .set es ep t) (hrows : es.toList = L.map (rowH knd)) (hsz : t.place.size = es.size) (hdm : t.dummies = #[]) (hfl : es.size ≤ t.mask)
    (nd : (L.map (·.2)).Nodup) (mem : ∀ p ∈ L, knd.is s.heap p.2 p.1) (ld : w.params.followText "set-order" = true ∨ t.led = true) (few : L.length < 64) {wanted M : Nat}
    (hw : SetTable.sizeAbove wanted - 1 = M) (hM : MaskOk M) (hw2 : SetTable.sizeAbove wanted ≤ 128) (hn : L.length * 5 < M * 3) {Q : Unit → Shared → Prop}
    (hQ : ∀ h' L' es' ep' t', Heap.SameBut a s.heap h' → SetH knd h' a L' es' ep' t' → L'.Perm L → Q () { s with heap := h' }) : wpAny (model P w) A (setRelay a wanted) Q E s := by
  have hsl : es.size = L.length := by
    have h := congrArg List.length hrows
    rwa [Array.length_toList, List.length_map] at h
  have hfits : t.fits es.size = true := by
    unfold SetTable.fits SetTable.fill
    rw [hdm, Bool.and_eq_true, beq_iff_eq, decide_eq_true_eq]
    show t.place.size = es.size ∧ t.place.size + 0 ≤ t.mask
    omega
  obtain ⟨t', order, e, hp, TT, em, el, ep', ed⟩ := relaid_ok t (hs := es.map (·.1)) (wanted := wanted) hw hM (by rw [Array.size_map, hsl]; omega)
  rw [Array.size_map, hsl] at hp
  obtain ⟨L2, r1, r2, r3⟩ := order_rowsH (knd := knd) L es order hrows hp
  rw [← r3] at TT
  have hs2 : (order.filterMap (es[·]?)).size = es.size := by
    have h := congrArg List.length r1
    rw [Array.length_toList, List.length_map, r2.length_eq] at h
    rw [h, hsl]
  rw [setRelay_eq]
  refine wpAny_bind (wpAny_setState_of ho hd hfits ?_)
  dsimp only
  refine wp_if_neg (by rw [sizeLine_eq]; omega) ?_
  try refine wpAny_bind (wpAny_pure ?_)
  rw [e]
  dsimp only
  refine wpAny_bind ?_
  refine wp_if_neg (by rw [hs2]; simp) ?_
  try refine wpAny_bind (wpAny_pure ?_)
  refine wpAny_pure ?_
  dsimp only
  refine wpAny_storeSet_of ho hd ?_ (by rw [hs2, hsl, sizeLine_eq]; omega)
  have sb : Heap.SameBut a s.heap (s.heap.update a (Obj.putSet (order.filterMap (es[·]?)) t')) := Heap.SameBut.update ..
  refine hQ _ L2 (order.filterMap (es[·]?)) (ep + 1) t' sb ⟨⟨_, store_at ho hd, ⟨hex.1, hex.2.1, hex.2.2⟩, rfl⟩, r1, TT, (r2.map (·.2)).nodup_iff.mpr nd, fun p hpm => T.same (mem p (r2.mem_iff.mp hpm)) ho hex hd sb, by rw [el]; exact ld, by rw [r2.length_eq, em]; exact hn, by rw [r2.length_eq]; exact few⟩ r2
/-- one more -/
theorem add_atH (T : Tame knd) (R : SetH knd s.heap a L es ep t) {x : Addr} {k : K} (hx : knd.is s.heap k x) (hu : knd.room A) (hfew : L.length + 1 < 64) {Q : Bool → Shared → Prop}
    (hQ : ∀ b h' L' es' ep' t', Heap.SameBut a s.heap h' → SetH knd h' a L' es' ep' t' → (k ∈ L.map (·.2) → L' = L) → (k ∉ L.map (·.2) → L'.Perm ((x, k) :: L)) → Q b { s with heap := h' }) :
    wpAny (model P w) A (setAddHashed a (.ref x) (knd.hash k)) Q E s := by
  obtain ⟨o, ho, hex, hd⟩ := R.ob
  have hsl := R.size
  have hroom := R.room
  unfold setAddHashed
  refine wpAny_holding ?_
  rw [show (100000 : Nat) = 99999 + 1 from rfl, setAddHashedIn_succ]
  refine wpAny_bind (wpAny_setState_of ho hd R.fits ?_)
  dsimp only
  refine wp_if_neg (by simp [byScan, Value.scannable]) ?_
  try refine wpAny_bind (wpAny_pure ?_)
  refine wpAny_bind (search_atH T R hx hu (fun hm => ?_) fun M hm hK hb => ?_)
  · dsimp only
    exact wpAny_pure (hQ false s.heap L es ep t (Heap.SameBut.refl a s.heap) R (fun _ => rfl) fun z => absurd hm z)
  · dsimp only
    refine wpAny_bind (wpAny_setState_of ho hd R.fits ?_)
    dsimp only
    obtain ⟨q1, q2, q3, q4, q5, q6, q7, q8, q9⟩ := R.tab.put hK hb
    generalize hpt : t.put (way t.mask (knd.hash k) M) = pt at q1 q3 q4 q5 q6 q7 q8 q9 ⊢
    obtain ⟨t0, p⟩ := pt
    dsimp only at q1 q3 q4 q5 q6 q7 q8 q9 ⊢
    subst q1
    have askV : ∀ {β : Type} {f : Bool → Sem β} {Q : β → Shared → Prop}, (∀ b, wpAny (model P w) A (f b) Q E s) → wpAny (model P w) A (if t0.plain = true then hashByValue 8 (.ref x) >>= f else (pure true : Sem Bool) >>= f) Q E s := fun hq => by
      by_cases hp1 : t0.plain = true
      · exact wp_if_pos hp1 (wpAny_bind (T.byValue hx fun v => hq v))
      · exact wp_if_neg hp1 (wpAny_bind (wpAny_pure (hq true)))
    refine askV fun bv => ?_
    have hsame := fun (hs' : List Int) (q3 : TabOk t0 hs') => (show TabOk (if bv = true then t0 else { t0 with plain := false }) hs' ∧ (if bv = true then t0 else { t0 with plain := false }).mask = t.mask ∧ (if bv = true then t0 else { t0 with plain := false }).led = t.led ∧ (if bv = true then t0 else { t0 with plain := false }).fill = (L.map fun p => knd.hash p.2).length + 1 from by
      cases bv
      · exact ⟨⟨q3.ris, q3.dm, q3.sz, q3.mok, q3.bd, q3.reach⟩, q4, q5, q9⟩
      · exact ⟨q3, q4, q5, q9⟩)
    replace hsame := hsame _ q3
    clear q3 q4 q5 q6 q7 q8 q9
    generalize (if bv = true then t0 else { t0 with plain := false }) = t1 at hsame ⊢
    obtain ⟨q3, q4, q5, q9⟩ := hsame
    have hin : (SetTable.insertAt es (SetTable.below t.place (way t.mask (knd.hash k) M)) (knd.hash k, Value.ref x)).toList = (L.take (SetTable.below t.place (way t.mask (knd.hash k) M)) ++ (x, k) :: L.drop (SetTable.below t.place (way t.mask (knd.hash k) M))).map (rowH knd) := by
      rw [SetTable.toList_insertAt, R.rows, List.map_append, List.map_cons, List.map_take, List.map_drop]
      rfl
    generalize hpp : SetTable.below t.place (way t.mask (knd.hash k) M) = p at q2 q3 hin ⊢
    have pm := put_perm L p (x, k)
    have hlen : (L.take p ++ (x, k) :: L.drop p).length = L.length + 1 := pm.length_eq
    have hhs : (L.take p ++ (x, k) :: L.drop p).map (fun p => knd.hash p.2) = (L.map fun p => knd.hash p.2).take p ++ knd.hash k :: (L.map fun p => knd.hash p.2).drop p := by
      rw [List.map_append, List.map_cons, List.map_take, List.map_drop]
    rw [← hhs] at q3
    have nd1 : ((L.take p ++ (x, k) :: L.drop p).map (·.2)).Nodup := by
      refine (pm.map (·.2)).nodup_iff.mpr ?_
      rw [List.map_cons]
      exact List.nodup_cons.mpr ⟨hm, R.nd⟩
    have hes : (SetTable.insertAt es p (knd.hash k, Value.ref x)).size = L.length + 1 := by
      have h := congrArg List.length hin
      rwa [Array.length_toList, List.length_map, hlen] at h
    generalize SetTable.insertAt es p (knd.hash k, Value.ref x) = es1 at hin hes ⊢
    generalize L.take p ++ (x, k) :: L.drop p = L1 at pm hlen q3 nd1 hin
    refine wpAny_bind (wpAny_storeSet_of ho hd ?_ (by rw [hes, sizeLine_eq]; omega))
    have sb : Heap.SameBut a s.heap (s.heap.update a (Obj.putSet es1 t1)) := Heap.SameBut.update ..
    have ho1 := store_at (es' := es1) (t' := t1) ho hd
    generalize s.heap.update a (Obj.putSet es1 t1) = h1 at sb ho1 ⊢
    have mem1 : ∀ p ∈ L1, knd.is h1 p.2 p.1 := fun p hp => by
      rcases List.mem_cons.mp (pm.mem_iff.mp hp) with e | hp
      · rw [e]; exact T.same hx ho hex hd sb
      · exact T.same (R.mem p hp) ho hex hd sb
    have ld1 : w.params.followText "set-order" = true ∨ t1.led = true := by rw [q5]; exact R.led
    by_cases hf : t1.tooFull = true
    · first
        | (refine wpAny_bind ?_; refine wp_if_pos (by simp [hf]) ?_)
        | (refine wp_if_pos (by simp [hf]) ?_; refine wpAny_bind ?_)
      have hfull : (L.length + 1) * 5 ≥ t1.mask * 3 := by
        have h := hf
        unfold SetTable.tooFull at h
        rw [decide_eq_true_eq, q9, List.length_map] at h
        exact h
      rw [hsl]
      have hsz1 : t1.place.size = es1.size := by
        have h := q3.sz
        rw [List.length_map, hlen] at h
        rw [h, hes]
      have cases2 : (t.mask = 7 ∧ L.length = 4) ∨ (t.mask = 31 ∧ L.length = 18) := by
        rcases R.tab.mok with e | e | e
        · left; rw [q4, e] at hfull; rw [e] at hroom; exact ⟨e, by omega⟩
        · right; rw [q4, e] at hfull; rw [e] at hroom; exact ⟨e, by omega⟩
        · exfalso; rw [q4, e] at hfull; omega
      have go : ∀ M, SetTable.sizeAbove (SetTable.grown (L.length + 1)) - 1 = M → MaskOk M → SetTable.sizeAbove (SetTable.grown (L.length + 1)) ≤ 128 → (L.length + 1) * 5 < M * 3 →
          wpAny (model P w) A (setRelay a (SetTable.grown (L.length + 1))) (fun _ s' => wpAny (model P w) A (pure true) Q E s') E { s with heap := h1 } := fun M h1' h2' h3' h4' => by
        refine relay_atH T (s := { s with heap := h1 }) ho1 ⟨hex.1, hex.2.1, hex.2.2⟩ rfl hin hsz1 q3.dm (by rw [hes, q4]; rcases cases2 with ⟨e, e2⟩ | ⟨e, e2⟩ <;> omega) nd1 mem1 ld1 (by rw [hlen]; exact hfew) h1' h2' h3' (by rw [hlen]; exact h4') ?_
        intro h2 L2 es2 ep2 t2 sb2 R2 pm2
        exact wpAny_pure (hQ true h2 L2 es2 ep2 t2 (sb.trans sb2) R2 (fun z => absurd z hm) fun _ => pm2.trans pm)
      rcases cases2 with ⟨_, e2⟩ | ⟨_, e2⟩
      · exact go 31 (by rw [e2, size_20]) (.inr (.inl rfl)) (by rw [e2, size_20]; decide) (by omega)
      · exact go 127 (by rw [e2, size_76]) (.inr (.inr rfl)) (by rw [e2, size_76]; decide) (by omega)
    · first
        | refine wp_if_neg (by simp [hf]) ?_
        | (refine wpAny_bind ?_; refine wp_if_neg (by simp [hf]) ?_; refine wpAny_pure ?_)
      refine wpAny_pure (hQ true h1 L1 es1 (ep + 1) t1 sb ⟨⟨_, ho1, ⟨hex.1, hex.2.1, hex.2.2⟩, rfl⟩, hin, q3, nd1, mem1, ld1, ?_, by rw [hlen]; exact hfew⟩ (fun z => absurd z hm) fun _ => pm)
      have h := hf
      unfold SetTable.tooFull at h
      rw [decide_eq_true_eq, q9, List.length_map] at h
      rw [hlen]
      omega
/-! ### set(xs) -/
/-- what the set has of the first i items: just their keys, each once -/
structure Took (ks : List (Addr × K)) (i : Nat) (L : List (Addr × K)) : Prop where
  sub : ∀ p ∈ L, p ∈ ks.take i
  all : ∀ p ∈ ks.take i, p.2 ∈ L.map (·.2)
  len : L.length ≤ i
theorem Took.zero (ks : List (Addr × K)) : Took ks 0 [] := ⟨fun p h => (by cases h), fun p h => (by simp at h), Nat.le_refl _⟩
theorem Took.next {ks L L' : List (Addr × K)} {i : Nat} {x : Addr × K} (g : Took ks i L) (h : ks[i]? = some x) (c1 : x.2 ∈ L.map (·.2) → L' = L) (c2 : x.2 ∉ L.map (·.2) → L'.Perm (x :: L)) : Took ks (i + 1) L' := by
  have e := take_next h
  by_cases c : x.2 ∈ L.map (·.2)
  · rw [c1 c]
    refine ⟨fun p hp => by rw [e]; exact List.mem_append_left _ (g.sub p hp), fun p hp => ?_, Nat.le_succ_of_le g.len⟩
    rw [e] at hp
    rcases List.mem_append.mp hp with z | z
    · exact g.all p z
    · rw [List.mem_singleton.mp z]; exact c
  · have pm := c2 c
    refine ⟨fun p hp => ?_, fun p hp => ?_, by rw [pm.length_eq]; exact Nat.succ_le_succ g.len⟩
    · rw [e]
      rcases List.mem_cons.mp (pm.mem_iff.mp hp) with z | z
      · rw [z]; simp
      · exact List.mem_append_left _ (g.sub p z)
    · rw [(pm.map (·.2)).mem_iff, List.map_cons]
      rw [e] at hp
      rcases List.mem_append.mp hp with z | z
      · exact List.mem_cons_of_mem _ (g.all p z)
      · rw [List.mem_singleton.mp z]; exact List.mem_cons_self
theorem SetH.keep (T : Tame knd) {h h' : Heap} (R : SetH knd h a L es ep t) (ha : ∀ o, h.get? a = some o → h'.get? a = some o) (hm : ∀ p ∈ L, knd.is h' p.2 p.1) : SetH knd h' a L es ep t := by
  obtain ⟨o, ho, r⟩ := R.ob
  exact ⟨⟨o, ha o ho, r⟩, R.rows, R.tab, R.nd, hm, R.led, R.room, R.few⟩
abbrev newSet (w : World) : Obj := { cls := .type "set", dict := none, data := .set #[] 0 (.fresh 0 0 (!w.params.followText "set-order")) }
theorem setH_fresh {h : Heap} (ho : h.get? a = some (newSet w)) : SetH knd h a [] #[] 0 (.fresh 0 0 (!w.params.followText "set-order")) where
  ob := ⟨_, ho, ⟨rfl, rfl, rfl⟩, rfl⟩
  rows := rfl
  tab := ⟨List.Pairwise.nil, rfl, rfl, .inl rfl, fun x hx => (by cases hx), fun i h j hi => (by simp at hi)⟩
  nd := List.nodup_nil
  mem := fun p hp => (by cases hp)
  led := by
    show _ ∨ (!w.params.followText "set-order") = true
    cases w.params.followText "set-order"
    · exact .inr rfl
    · exact .inl rfl
  room := by
    show 0 * 5 < 7 * 3
    decide
  few := by
    show 0 < 64
    decide
theorem set_updateH (T : Tame knd) {I : Addr} {fp wr : List Addr} {G : Array GenState → Array GenState → Prop} {n : Nat} {Pv : Nat → Value → Prop} {St : Nat → Shared → Prop} {R : Result → Shared → Prop}
    (W : WalksS P w A.in1 I fp wr G n Pv St) (S : Addr) (hSf : S ∉ fp) (ks : List (Addr × K)) (hn : n = ks.length) (hfew : ks.length < 64) (hval : ∀ i v, Pv i v → ∃ p, ks[i]? = some p ∧ v = .ref p.1)
    (h0 : Heap) (hk : ∀ p ∈ ks, knd.is h0 p.2 p.1) (hS0 : h0.get? S = none) (hw0 : ∀ b ∈ wr, h0.get? b = none) (hu : knd.room A.in1) :
    ∀ (k i : Nat) (s : Shared), n - i = k → i ≤ n → St i s → (∀ b o, h0.get? b = some o → s.heap.get? b = some o) → (∃ L es ep t, SetH knd s.heap S L es ep t ∧ Took ks i L) →
      (∀ s' L es ep t, Moved (S :: wr) G s s' → SetH knd s'.heap S L es ep t → Took ks n L → (∀ b o, h0.get? b = some o → s'.heap.get? b = some o) → R (.ok (.ret .none)) s') →
      codeAny (model P w) A (.builtin "set.update.loop" ⟨[.ref S, .ref I], []⟩) R s := by
  have hSw : S ∉ wr := fun h => hSf (W.sub _ h)
  have hsub : ∀ b ∈ wr, b ∈ S :: wr := fun b hb => List.mem_cons_of_mem _ hb
  have keepM : ∀ {s s' : Shared}, Moved wr G s s' → (∀ b o, h0.get? b = some o → s.heap.get? b = some o) → ∀ b o, h0.get? b = some o → s'.heap.get? b = some o := fun hm hkp b o e =>
    hm.heap b o (fun hb => by rw [hw0 b hb] at e; cases e) (hkp b o e)
  intro k
  induction k with
  | zero =>
    intro i s hk' hi hst hkp ⟨L, es, ep, t, hS, g⟩ hR
    obtain rfl : i = n := by omega
    refine codeAny_builtin F.entry_set_update_loop ?_
    rw [Around.under_plainId F.plain_set_update_loop _]
    show wpAny _ A.in1 (pyNext (.ref I) >>= _) _ _ s
    refine wpAny_bind (W.done s _ _ hst fun s' hm => ?_)
    show wpAny _ A.in1 (ret Value.none) _ _ s'
    have hkp' := keepM hm hkp
    have sub : ∀ p ∈ L, p ∈ ks := fun p hp => List.mem_of_mem_take (g.sub p hp)
    exact wpAny_pure (hR s' L es ep t (hm.mono hsub) (hS.keep T (fun o e => hm.heap S o hSw e) fun p hp => T.keep (hk p (sub p hp)) hkp') g hkp')
  | succ k ih =>
    intro i s hk' hi hst hkp ⟨L, es, ep, t, hS, g⟩ hR
    have hlt : i < n := by omega
    refine codeAny_builtin F.entry_set_update_loop ?_
    rw [Around.under_plainId F.plain_set_update_loop _]
    show wpAny _ A.in1 (pyNext (.ref I) >>= _) _ _ s
    refine wpAny_bind (W.item i s _ _ hlt hst fun v s' hP hst' hm => ?_)
    obtain ⟨p, hp, rfl⟩ := hval i v hP
    have hkp' := keepM hm hkp
    have sub : ∀ p ∈ L, p ∈ ks := fun p hp => List.mem_of_mem_take (g.sub p hp)
    have hS' : SetH knd s'.heap S L es ep t := hS.keep T (fun o e => hm.heap S o hSw e) fun q hq => T.keep (hk q (sub q hq)) hkp'
    have hx : knd.is s'.heap p.2 p.1 := T.keep (hk p (List.mem_of_getElem? hp)) hkp'
    show wpAny _ A.in1 (holding [Value.ref p.1] (setAdd S (.ref p.1)) >>= _) _ _ s'
    refine wpAny_bind (wpAny_holding ?_)
    unfold setAdd
    refine wpAny_holding ?_
    refine wpAny_bind (knd.pyHash hu hx ?_)
    refine add_atH T (s := { s' with toks := s'.toks + knd.draws p.2 }) hS' hx hu (by have := g.len; omega) fun b h' L' es' ep' t' hsb hS2 c1 c2 => ?_
    have g' : Took ks (i + 1) L' := g.next hp c1 c2
    have hkp2 : ∀ b o, h0.get? b = some o → h'.get? b = some o := fun b o e => (hsb.2 b (fun z => by rw [z, hS0] at e; cases e)).trans (hkp' b o e)
    refine wpAny_pure ⟨plainId_quiet F.plain_set_update_loop _, ih (i + 1) _ (by omega) hlt (W.frame _ s' _ _ hst' (Nat.le_add_right _ _) fun b hb o e => ?_) hkp2 ⟨L', es', ep', t', hS2, g'⟩ fun s'' L2 es2 ep2 t2 hm'' hS'' g'' hkp'' => ?_⟩
    · rw [hsb.2 b (fun h : b = S => hSf (by rw [← h]; exact hb))]; exact e
    · refine hR s'' L2 es2 ep2 t2 (Moved.trans W.gtrans ((hm.mono hsub).then_heap (Nat.le_add_right _ _) fun b o hb e => ?_) hm'') hS'' g'' hkp''
      rw [hsb.2 b (fun h : b = S => hb (by rw [h]; exact List.mem_cons_self))]; exact e
theorem call_setH (T : Tame knd) {l : Addr} {items : Array Value} (ks : List (Addr × K)) {Q : Value → Shared → Prop} (hh : A.handled = none) (hl : s.heap.IsList l items) (hit : items.toList = ks.map fun p => Value.ref p.1)
    (hk : ∀ p ∈ ks, knd.is s.heap p.2 p.1) (hfew : ks.length < 64) (hu : knd.room A.in1.in1.in1)
    (h : ∀ (h' : Heap) (tk : Nat) L es ep t, SetH knd h' s.heap.objs.size L es ep t → Took ks ks.length L → (∀ b o, s.heap.get? b = some o → h'.get? b = some o) → Q (.ref s.heap.objs.size) { s with heap := h', toks := tk }) :
    wpAny (model P w) A (call (.type "set") [.ref l]) Q E s := by
  have hisz : items.size = ks.length := by
    have q := congrArg List.length hit
    rwa [Array.length_toList, List.length_map] at q
  obtain ⟨c, tl, hmro⟩ := F.called_set.mro
  have hmade := F.called_set.made
  have hsub := F.called_set.sub
  refine wpAny_call (codeAny_of_tree ?_)
  show wpAny _ _ (callAny (.type "set") _) _ _ _
  refine wpAny_pure ⟨Code.quiet_builtin _ (by decide +kernel), codeAny_builtin F.entry_type_call ?_⟩
  rw [Around.under_plain (weight_type_call_type "set" [.ref l] []) rfl]
  have h1 := F.called_set.notType
  have h2 := F.called_set.canCreate
  have hct := F.typeCall_set_1 (.ref l)
  repeat (any_goals (first | assumption | wp_step))
  refine codeAny_mono (code_set_led1 (.ref l) (E := E) (Q₁ := fun obj s₁ => obj = .ref s.heap.objs.size ∧ s₁ = { s with heap := s.heap.push (newSet w) }) ⟨rfl, rfl⟩) fun r s₁ hr => ?_
  cases r with
  | error e => exact hr
  | ok fl =>
    cases fl with
    | ret obj =>
      obtain ⟨rfl, rfl⟩ := hr
      have hS : (s.heap.push (newSet w)).get? s.heap.objs.size = some (newSet w) := Heap.get?_push_size _ rfl
      have hT : Shared.TypeIs { s with heap := s.heap.push (newSet w) } (.ref s.heap.objs.size) "set" := ⟨_, hS, rfl⟩
      have hli := F.called_set.init.lookup
      have hbi := F.called_set.init.bind (.ref s.heap.objs.size)
      repeat (any_goals (first | assumption | wp_step))
      refine codeAny_mono (codeAny_call_builtin (R := wants (fun r s₂ => r = .none ∧ ∃ h' tk L es ep t, s₂ = { s with heap := h', toks := tk } ∧ SetH knd h' s.heap.objs.size L es ep t ∧ Took ks ks.length L ∧
          (∀ b o, s.heap.get? b = some o → h'.get? b = some o)) E) F.called_set.init.plain F.entry_set_init (check_set_init_1 hT ?_)) fun r₂ s₂ hr₂ => ?_
      · obtain ⟨⟨ocls, odict, odata, oslots⟩, hol, hcl, nl, hdl⟩ := hl
        simp only at hcl hdl
        subst hcl; subst hdl
        have hol' : (s.heap.push (newSet w)).get? l = some { cls := .type "list", dict := odict, data := .seq items nl, slots := oslots } := Heap.get?_push_of_some _ hol
        have hsls := F.sub_list_set
        have hslf := F.sub_list_frozenset
        have hne : (Value.type "list" == Value.type "dict") = false := by decide
        have hl1 : (s.heap.push (newSet w)).IsList l items := ⟨_, hol', rfl, nl, rfl⟩
        unfold Builtin.«set.__init__» noKeywords Builtin.Frozenset.updateFrom
        generalize hPI : pyIter = PI
        wp_walk
        subst hPI
        refine wpAny_pyIter_list hl1 ?_
        refine wpAny_bind (wpAny_runValue ?_)
        have hlS : l < s.heap.objs.size := Heap.lt_size hol
        have hh3 : A.in1.in1.in1.handled = none := by simp [hh]
        have hz1 : (s.heap.push (newSet w)).objs.size = s.heap.objs.size + 1 := Heap.size_push ..
        have hneI : l ≠ (s.heap.push (newSet w)).objs.size := by rw [hz1]; exact Nat.ne_of_lt (Nat.lt_succ_of_lt hlS)
        have hSf : s.heap.objs.size ∉ [(s.heap.push (newSet w)).objs.size, l] := by
          rw [hz1]; simp only [List.mem_cons, List.not_mem_nil, or_false, not_or]
          exact ⟨Nat.ne_of_lt (Nat.lt_succ_self _), Nat.ne_of_gt hlS⟩
        have hval : ∀ (i : Nat) (v : Value), items[i]? = some v → ∃ p, ks[i]? = some p ∧ v = .ref p.1 := fun i v hv => by
          have q : items.toList[i]? = some v := by rw [Array.getElem?_toList]; exact hv
          rw [hit, List.getElem?_map, Option.map_eq_some_iff] at q
          obtain ⟨p, hp, e⟩ := q
          exact ⟨p, hp, e.symm⟩
        have none_of : ∀ b, s.heap.objs.size ≤ b → s.heap.get? b = none := fun b hb => by
          cases q : s.heap.get? b with
          | none => rfl
          | some o => exact absurd (Nat.lt_of_lt_of_le (Heap.lt_size q) hb) (Nat.lt_irrefl _)
        refine set_updateH T ((Walks.list hh3 _ l hneI items).toS) s.heap.objs.size
          hSf ks hisz hfew hval s.heap hk (none_of _ (Nat.le_refl _)) (fun b hb => none_of b (by
            rw [List.mem_singleton.mp hb, hz1]
            exact Nat.le_succ _)) hu (items.size - 0) 0 _ (by omega) (Nat.zero_le _)
          ⟨⟨_, Heap.get?_push_size _ rfl, rfl, rfl⟩, (hl1.push _)⟩ (fun b o e => Heap.get?_push_of_some _ (Heap.get?_push_of_some _ e)) ?hS0 ?hR
        case hS0 => exact ⟨[], #[], 0, _, setH_fresh (Heap.get?_push_of_some _ hS), Took.zero ks⟩
        case hR =>
          intro s' L es ep t hm hS' g' hkp
          obtain ⟨h', g2, d', tk', os'⟩ := s'
          have eg : g2 = s.gens := hm.gens
          have ed : d' = s.drawn := hm.drawn
          have eo : os' = s.os := hm.os
          subst eg; subst ed; subst eo
          show wpAny _ _ _ _ _ _
          refine wpAny_pure ?_
          show wpAny _ _ (ret Value.none) _ _ _
          rw [hisz] at g'
          exact wpAny_pure ⟨rfl, h', tk', L, es, ep, t, rfl, hS', g', hkp⟩
      · cases r₂ with
        | error e => exact hr₂
        | ok fl₂ =>
          cases fl₂ with
          | ret r =>
            obtain ⟨rfl, h', tk, L, es, ep, t, rfl, hS', g', hk'⟩ := hr₂
            repeat (any_goals (first | assumption | wp_step))
            exact h _ _ _ _ _ _ hS' g' hk'
          | _ => exact hr₂.elim
    | _ => exact hr.elim
end
end DLH


set_option maxRecDepth 100000
set_option maxHeartbeats 4000000
/-! ## len(set(list of tuples of texts and whole numbers)) -/
namespace DLH
open PySem PySem.Spec PyProof.Rows L2
section
variable {P : Program} {w : World} {A : Around} {E : Value → Shared → Prop} {s : Shared}
theorem ofClass_key {k : Key} {v : Value} (h : keyIs k v = true) (n : Nat) : (ofAClassStatement n v : Sem Bool) = pure false := by
  rcases keyIs_shape h with ⟨i, t, _, rfl⟩ | ⟨x, t, _, rfl⟩ <;> cases n <;> rfl
theorem hashBy_key {k : Key} {v : Value} (h : keyIs k v = true) (n : Nat) : ∃ b, (hashByValue n v : Sem Bool) = pure b := by
  rcases keyIs_shape h with ⟨i, t, _, rfl⟩ | ⟨x, t, _, rfl⟩
  · exact ⟨true, by cases n <;> rfl⟩
  · exact ⟨false, by cases n <;> rfl⟩
theorem items_keys {ks : List Key} : ∀ {vs : List Value}, ItemsAre (mixKind P w) ks vs → ∀ v ∈ vs, ∃ k, keyIs k v = true := by
  intro vs h
  induction h with
  | nil => intro v hv; cases hv
  | cons a _ ih =>
    intro v hv
    rcases List.mem_cons.mp hv with e | hv
    · exact ⟨_, by rw [e]; exact a⟩
    · exact ih v hv
theorem typeTup {ks : List Key} {b : Addr} (h : IsTupleKey (mixKind P w) s.heap ks b) : s.TypeIs (.ref b) "tuple" := by
  obtain ⟨o, items, n, ho, hc, _⟩ := h
  exact ⟨o, ho, hc⟩
theorem ofClass_tup {ks : List Key} {b : Addr} {Q : Bool → Shared → Prop} (hk : IsTupleKey (mixKind P w) s.heap ks b) (h : Q false s) : wpAny (model P w) A (ofAClassStatement 8 (.ref b)) Q E s := by
  have hT := typeTup hk
  obtain ⟨o, items, n, ho, _, hd, hi⟩ := hk
  unfold ofAClassStatement
  refine wpAny_bind (wpAny_typeOf hT ?_)
  dsimp only
  have e : (("tuple" : String) == "tuple") = true := by decide
  simp only [e, if_true, Bool.not_true, Bool.false_eq_true, if_false]
  try refine wpAny_bind (wpAny_pure ?_)
  try simp only [Bool.not_true, Bool.false_eq_true, if_false]
  show wpAny _ _ (seqItems? (.ref b) >>= _) _ _ s
  refine wpAny_bind (wpAny_seqItems ho hd ?_)
  dsimp only
  refine wpAny_bind ?_
  show wpAny _ _ (forIn items _ _) _ _ s
  rw [← Array.forIn_toList]
  refine wpAny_forIn_list _ (fun rest r s' => r.1 = none ∧ s' = s ∧ ∀ v ∈ rest, ∃ k, keyIs k v = true) _ ?_ ?_ _ _ ⟨rfl, rfl, items_keys hi⟩
  · rintro v rest r s' ⟨hr, rfl, hall⟩
    obtain ⟨k, hk⟩ := hall v List.mem_cons_self
    rw [ofClass_key hk]
    refine wpAny_bind (wpAny_pure ?_)
    simp only [Bool.false_eq_true, if_false]
    exact wpAny_pure ⟨rfl, rfl, fun u hu' => hall u (List.mem_cons_of_mem _ hu')⟩
  · rintro ⟨r1, r2⟩ s' ⟨hr, rfl, _⟩
    simp only at hr
    subst hr
    exact wpAny_pure h
theorem hashBy_tupK {ks : List Key} {b : Addr} {Q : Bool → Shared → Prop} (hk : IsTupleKey (mixKind P w) s.heap ks b) (h : ∀ v, Q v s) : wpAny (model P w) A (hashByValue 8 (.ref b)) Q E s := by
  have hT := typeTup hk
  obtain ⟨o, items, n, ho, _, hd, hi⟩ := hk
  unfold hashByValue
  refine wpAny_bind (wpAny_specialOf hT F.slot_tuple_hash.lookup ?_)
  show wpAny _ _ (seqItems? (.ref b) >>= _) _ _ s
  refine wpAny_bind (wpAny_seqItems ho hd ?_)
  refine wpAny_bind ?_
  show wpAny _ _ (forIn items _ _) _ _ s
  rw [← Array.forIn_toList]
  refine wpAny_forIn_list _ (fun rest r s' => (r.1 = none ∨ ∃ b, r.1 = some b) ∧ s' = s ∧ ∀ v ∈ rest, ∃ k, keyIs k v = true) _ ?_ ?_ _ _ ⟨.inl rfl, rfl, items_keys hi⟩
  · rintro v rest r s' ⟨hr, rfl, hall⟩
    obtain ⟨k, hk⟩ := hall v List.mem_cons_self
    obtain ⟨bb, eb⟩ := hashBy_key hk 7
    rw [eb]
    refine wpAny_bind (wpAny_pure ?_)
    cases bb
    · simp only [Bool.not_false, if_true]
      exact wpAny_pure (wpAny_pure (h _))
    · simp only [Bool.not_true, Bool.false_eq_true, if_false]
      exact wpAny_pure ⟨.inl rfl, rfl, fun u hu' => hall u (List.mem_cons_of_mem _ hu')⟩
  · rintro ⟨r1, r2⟩ s' ⟨hr, rfl, _⟩
    rcases hr with hr | ⟨b, hr⟩
    · simp only at hr
      subst hr
      exact wpAny_pure (h _)
    · simp only at hr
      subst hr
      exact wpAny_pure (h _)
end
theorem tame_tup {P : Program} {w : World} : Tame (tupleKind (mixKind P w)) where
  notClass := fun hk h => ofClass_tup hk h
  byValue := fun hk h => hashBy_tupK hk h
  moves := fun {h h' k b} hk m => by
    obtain ⟨o, items, n, ho, hc, r⟩ := (show IsTupleKey (mixKind P w) h k b from hk)
    exact ⟨o, items, n, m o hc ho, hc, r⟩
end DLH
namespace DL
open PySem PySem.Spec PyProof.Rows L2
def uniqA {α : Type} [DecidableEq α] : List α → List α
  | [] => []
  | x :: xs => if x ∈ uniqA xs then uniqA xs else x :: uniqA xs
section
variable {α : Type} [DecidableEq α]
theorem uniqA_mem {x : α} : ∀ {xs : List α}, x ∈ uniqA xs ↔ x ∈ xs
  | [] => Iff.rfl
  | y :: xs => by
    unfold uniqA
    split
    · rename_i h
      rw [uniqA_mem, List.mem_cons]
      constructor
      · exact .inr
      · rintro (e | e)
        · rw [e]; exact uniqA_mem.mp h
        · exact e
    · rw [List.mem_cons, List.mem_cons, uniqA_mem]
theorem uniqA_nd : ∀ {xs : List α}, (uniqA xs).Nodup
  | [] => .nil
  | y :: xs => by
    unfold uniqA
    split
    · exact uniqA_nd
    · rename_i h
      exact List.nodup_cons.mpr ⟨h, uniqA_nd⟩
theorem uniqA_le : ∀ {xs : List α}, (uniqA xs).length ≤ xs.length
  | [] => Nat.le_refl _
  | y :: xs => by
    unfold uniqA
    have := uniqA_le (xs := xs)
    split
    · exact Nat.le_succ_of_le this
    · exact Nat.succ_le_succ this
theorem uniqA_self : ∀ {xs : List α}, xs.Nodup → uniqA xs = xs
  | [], _ => rfl
  | y :: xs, h => by
    obtain ⟨h1, h2⟩ := List.nodup_cons.mp h
    have e := uniqA_self h2
    unfold uniqA
    rw [e, if_neg h1]
theorem uniqA_len : ∀ {xs : List α}, (uniqA xs).length = xs.length ↔ xs.Nodup
  | [] => ⟨fun _ => .nil, fun _ => rfl⟩
  | y :: xs => by
    have ih := uniqA_len (xs := xs)
    have le := uniqA_le (xs := xs)
    rw [List.nodup_cons]
    constructor
    · intro h
      unfold uniqA at h
      split at h
      · rw [List.length_cons] at h; omega
      · rename_i c
        rw [List.length_cons, List.length_cons] at h
        exact ⟨fun z => c (uniqA_mem.mpr z), ih.mp (by omega)⟩
    · rintro ⟨h1, h2⟩
      rw [uniqA_self (List.nodup_cons.mpr ⟨h1, h2⟩)]
end
/-- the keys of tuples -/
noncomputable def tkeys : List D → Option (List (List Key))
  | [] => some []
  | .tup ds :: r => if keyAs true (.tup ds) = true then match dkeys ds, tkeys r with
    | some q, some qs => some (q :: qs)
    | _, _ => none
    else none
  | _ => none
noncomputable def lenSetL : OpL := fun ds h => match ds with
  | [.ref n] => match h[n]? with
    | some (.lst ds) => match tkeys ds with
      | some qs => if qs.length < 64 then some (.int (uniqA qs).length, h) else none
      | none => none
    | _ => none
  | _ => none
/-- the set at p, of n members -/
def SetNHO (p : Addr) (n : Nat) : HO := .ext fun h => ∃ o es ep t, h.get? p = some o ∧ o.ExactSet ∧ o.data = .set es ep t ∧ t.fits es.size = true ∧ es.size = n
section
variable {X : Cx} {η : Nat → Addr} {N : Nat} {H : Hp}
theorem tkeys_rel : ∀ {ds : List D} {qs : List (List Key)} {vs : List V}, tkeys ds = some qs → RelDs η N H ds vs → ∃ bs, vs = bs.map V.ref ∧ Paired (fun (b : Addr) (q : List Key) => H b = some (.tup (q.map kV))) bs qs
  | [], qs, vs, e, r => by
    cases e
    cases vs with
    | nil => exact ⟨[], rfl, .nil⟩
    | cons v vs => exact absurd r (by intro h; cases h)
  | d :: ds, qs, vs, e, r => by
    cases d with
    | tup cs =>
      simp only [tkeys] at e
      split at e
      · rename_i hz
        obtain ⟨_, hz⟩ := keyAs_T hz
        split at e
        · rename_i q qs' e1 e2
          cases e
          obtain ⟨v, vs', rfl, r1, r2⟩ := r
          obtain ⟨bs, rfl, hp⟩ := tkeys_rel e2 r2
          obtain ⟨a, us, rfl, h1, h2⟩ := r1
          have h1 := h1.2 hz
          rw [dkeys_rel e1 h2] at h1
          exact ⟨a :: bs, rfl, .cons h1 hp⟩
        · cases e
      · cases e
    | _ => cases e
def rSetT (K : PySem.W.Frag) : List V → Hp → VK → Prop := fun xs H Q => ∃ l bs qs, xs = [.ref l] ∧ SqL K H l (bs.map V.ref) ∧ Paired (fun (b : Addr) (q : List Key) => H b = some (.tup (q.map kV))) bs qs ∧ qs.length < 64 ∧
  ∀ p, H p = none → Q (.ref p) (upd H p (SetNHO p (uniqA qs).length))
theorem vals_refs : ∀ {bs : List Addr} {us : List Value}, Vals (bs.map V.ref) us → us = bs.map Value.ref
  | [], _, r => by cases r; rfl
  | b :: bs, _, r => by
    rw [List.map_cons] at r
    cases r with
    | cons a t => rw [vals_refs t]; cases a; rfl
theorem paired_zip {α β : Type} {R : α → β → Prop} : ∀ {xs : List α} {ys : List β}, Paired R xs ys → xs.length = ys.length ∧ (∀ p ∈ xs.zip ys, R p.1 p.2)
  | _, _, .nil => ⟨rfl, fun p h => by cases h⟩
  | _, _, .cons a t => by
    obtain ⟨h1, h2⟩ := paired_zip t
    refine ⟨by simp [h1], fun p h => ?_⟩
    rw [List.zip_cons_cons] at h
    rcases List.mem_cons.mp h with e | h
    · rw [e]; exact a
    · exact h2 p h
theorem cr_setT (hc : X.calm = true) (hu : X.A.units + 64 < cLine) : CallR X (.type "set") (rSetT X.K) := by
  intro pins s σ H xs us Q I r h
  obtain ⟨l, bs, qs, rfl, hl, hp, hb, q⟩ := h
  obtain ⟨its, hv, pl, hz⟩ := I.list hl
  have hv := vals_refs hv
  rw [Vals.ref1 r]
  obtain ⟨z1, z2⟩ := paired_zip hp
  have zl : (bs.zip qs).length = qs.length := by rw [List.length_zip]; omega
  have hks : ∀ p ∈ bs.zip qs, (tupleKind (mixKind X.prog X.w)).is s.heap p.2 p.1 := fun p h => key_of I.hok (z2 p h)
  refine DLH.call_setH DLH.tame_tup (bs.zip qs) (I.ok.hd hc) pl.isList (by
    show its.toArray.toList = _
    rw [show its.toArray.toList = its from rfl, hv]
    have : (bs.zip qs).map (fun p => Value.ref p.1) = ((bs.zip qs).map (·.1)).map Value.ref := by rw [List.map_map]; rfl
    rw [this, List.map_fst_zip (by omega)]) hks (by omega) (show X.A.units + 1 + 1 + 1 < cLine by omega) fun h' tk L es ep t R T k => ?_
  have hfit := R.fits (w := X.w) (P := X.prog) (s := { s with heap := h' })
  have hsz := R.size (w := X.w) (P := X.prog) (s := { s with heap := h' })
  have hn : L.length = (uniqA qs).length := by
    rw [← List.length_map (f := (·.2)) (as := L)]
    refine ((List.perm_ext_iff_of_nodup R.nd uniqA_nd).mpr fun x => ?_).length_eq
    have tk : (bs.zip qs).take (bs.zip qs).length = bs.zip qs := List.take_length
    have s1 := T.sub
    have s2 := T.all
    rw [tk] at s1 s2
    rw [uniqA_mem]
    constructor
    · intro hx
      obtain ⟨p, hp, rfl⟩ := List.mem_map.mp hx
      exact (List.of_mem_zip (s1 p hp)).2
    · intro hx
      have : x ∈ (bs.zip qs).map (·.2) := by rw [List.map_snd_zip (by omega)]; exact hx
      obtain ⟨p, hp, rfl⟩ := List.mem_map.mp this
      exact s2 p hp
  obtain ⟨o, ho, hex, hd⟩ := R.ob
  exact ⟨.ref _, upd H s.heap.objs.size (SetNHO s.heap.objs.size (uniqA qs).length), I.laid (t' := tk) k (Nat.le_refl _) ⟨⟨o, es, ep, t, ho, hex, hd, hfit, by rw [hsz, hn]⟩, ⟨o, ho⟩, fun h1 h2 ⟨o, es, ep, t, ho, r⟩ k => ⟨o, es, ep, t, k _ ho, r⟩⟩, rfl, q _ (I.hok.fresh (Nat.le_refl _))⟩
def rLenN : List V → Hp → VK → Prop := fun xs H Q => ∃ p n, xs = [.ref p] ∧ H p = some (SetNHO p n) ∧ n ≤ 1000 ∧ Q (.int n) H
theorem cr_lenN : CallR X (.builtin "len") rLenN := by
  intro pins s σ H xs us Q I r h
  obtain ⟨p, n, rfl, hp, hn, q⟩ := h
  rw [Vals.ref1 r]
  obtain ⟨⟨o, es, ep, t, ho, hex, hd, hfit, hz⟩, _⟩ := I.hok p _ hp
  refine call_len_set ho hex hd hfit (by omega) ?_
  exact ⟨.int n, H, I.tok _, ⟨_, by rw [hz]⟩, q⟩
theorem de_lenSet {W : WX} {a : Expr} {fs : SA} {p1 p2 pos1 pos2 : Pos} (hc : X.calm = true) (hu : X.A.units + 64 < cLine) (hg1 : Gl X "len") (hm1 : X.mg "len" = none) (hg2 : Gl X "set") (hm2 : X.mg "set" = none) (ha : DA X W [a] fs)
    (hv1 : bootBuiltins "len" = some (.builtin "len")) (hv2 : bootBuiltins "set" = some (.type "set"))
    (he2 : starEach [a] X.env = (false, eval a X.env) :: starEach [] X.env := by rfl) (hpl2 : (backTo pos2 (starEach [] X.env)).any (·.1) = false := by rfl)
    (he1 : starEach [.Call (.Name "set" p2) [a] [] pos2] X.env = (false, eval (.Call (.Name "set" p2) [a] [] pos2) X.env) :: starEach [] X.env := by rfl) (hpl1 : (backTo pos1 (starEach [] X.env)).any (·.1) = false := by rfl) :
    DE X W (.Call (.Name "len" p1) [.Call (.Name "set" p2) [a] [] pos2] [] pos1) (dCallB lenSetL fs) := PE.imp (pe_callB cr_lenN hg1 hm1 hv1 (pa_cons (pe_callTy (cr_setT hc hu) hg2 hm2 hv2 ha (by decide) (by decide) he2 hpl2) pa_nil he1) (by decide) (by decide) he1 hpl1) fun σ H Q h => by
  obtain ⟨η, σd, ah, sim, h⟩ := h
  refine tA_bind sim h fun ds ah1 η1 xs H1 s1 e1 r1 h1 => ?_
  have a := AnsP.of h1
  unfold lenSetL at a
  split at a
  · rename_i n
    obtain ⟨v, r', rfl, ⟨hn, rfl⟩, rfl⟩ := r1
    split at a
    · rename_i ds e
      split at a
      · rename_i qs e2
        obtain ⟨c, a⟩ := a.ite
        obtain ⟨vs, g1, g2⟩ := s1.hh.obj n _ e
        obtain ⟨bs, rfl, hp⟩ := tkeys_rel e2 g2
        refine ⟨η1 n, bs, qs, rfl, .of g1, hp, c, fun p hp => ?_⟩
        refine ⟨p, _, rfl, upd_same, by have := uniqA_le (xs := qs); omega, ?_⟩
        obtain ⟨d, h', e3, q⟩ := a
        cases e3
        exact q η1 (.int _) _ (ext_tup hp) (relH_tup s1.hh hp) rfl
      · exact a.none.elim
    · exact a.none.elim
  · exact a.none.elim
end
end DL


set_option maxRecDepth 100000
namespace DL
open PySem PySem.Spec PyProof.Rows L2

/-! ## len of dicts -/
def lenE : OpL := fun ds h => match ds with
  | [.ref n] => match h[n]? with
    | some (.dct kvs) => some (.int (kvs.length : Nat), h)
    | some (.dcT kvs) => some (.int (kvs.length : Nat), h)
    | _ => lenL [.ref n] h
  | ds => lenL ds h
section
variable {X : Cx} {η : Nat → Addr} {N : Nat} {H : Hp}
theorem callr_lenE : CallR X (.builtin "len") (rDL X.K X.mg lenE) := by
  intro pins s σ H xs us Q I r ⟨η, ah, ds, hh, rd, a⟩
  unfold lenE at a
  split at a
  · rename_i n
    obtain ⟨v, r', rfl, ⟨hn, rfl⟩, rfl⟩ := rd
    split at a
    · rename_i kvs e
      obtain ⟨ks, h1, h2⟩ := hh.obj n _ e
      have hq := a.same hh (show RelD η ah.length H (.int (kvs.length : Nat)) (.int (kvs.length : Nat)) from rfl)
      refine call_lenD pins s σ H _ us Q I r ⟨η n, ks, rfl, h1, ?_⟩
      rw [RelK.length h2]
      exact hq
    · rename_i kvs e
      obtain ⟨ks, h1, h2⟩ := hh.obj n _ e
      have hq := a.same hh (show RelD η ah.length H (.int (kvs.length : Nat)) (.int (kvs.length : Nat)) from rfl)
      refine call_len_dT pins s σ H _ us Q I r ⟨η n, ks, rfl, h1, ?_⟩
      rw [RelT.length h2]
      exact hq
    · exact callr_len pins s σ H _ us Q I r ⟨η, ah, [.ref n], hh, ⟨_, [], rfl, ⟨hn, rfl⟩, rfl⟩, a⟩
  · exact callr_len pins s σ H xs us Q I r ⟨η, ah, ds, hh, rd, a⟩
end
end DL


set_option maxRecDepth 100000
namespace DL
open PySem PySem.Spec PyProof.Rows L2
noncomputable section
def b_is_name_c1 : SE :=
  dComp (iSeq (dVar 0)) (gNm 1) bYes (dBin (inD false) (dVar 1) (dBin addD (dBin addD (dC (.str [97, 98, 99, 100, 101, 102, 103, 104, 105, 106, 107, 108, 109, 110, 111, 112, 113, 114, 115, 116, 117, 118, 119, 120, 121, 122])) (dC (.str [48, 49, 50, 51, 52, 53, 54, 55, 56, 57]))) (dC (.str [45])))) [1]
def b_is_name : SS :=
  (sSeq (sIf (dOr (dNot (dTru (dIsi "str" (dVar 0)))) (dNot (isB (dChn leD leD (dC (.int 1)) (dCallB lenL (dCons (dVar 0) dNil)) (dC (.int 12))))))
   (sRet (dC (.bl false)))
   sNil)
  (sSeq (sIf (dNot (dTru (dCallB allL (dCons b_is_name_c1 dNil))))
   (sRet (dC (.bl false)))
   sNil)
  (sRet (dAndV (dBin (eqD true) (dBin ixD (dVar 0) (dC (.int 0))) (dC (.str [45]))) (dAndV (dBin (eqD true) (dBin ixD (dVar 0) (dUn negD (dC (.int 1)))) (dC (.str [45]))) (dBin (inD true) (dC (.str [45, 45])) (dVar 0)))))))
def m_is_name : Fn := gcF (runF 2 1 b_is_name)
def b_sign_name : SS :=
  (sSeq (sIf (isB (dBin (inD false) (dVar 0) (dC (.str [65, 66, 67, 68, 69, 70, 71, 72, 73, 74, 75, 76, 77, 78, 79, 80, 81, 82, 83, 84, 85, 86, 87, 88, 89, 90]))))
   (sRet (dBin ixD (dC (.str [97, 98, 99, 100, 101, 102, 103, 104, 105, 106, 107, 108, 109, 110, 111, 112, 113, 114, 115, 116, 117, 118, 119, 120, 121, 122])) (dMt gStr mSIndex (dC (.str [65, 66, 67, 68, 69, 70, 71, 72, 73, 74, 75, 76, 77, 78, 79, 80, 81, 82, 83, 84, 85, 86, 87, 88, 89, 90])) (dCons (dVar 0) dNil))))
   sNil)
  (sSeq (sIf (isB (dBin (inD false) (dVar 0) (dBin addD (dC (.str [97, 98, 99, 100, 101, 102, 103, 104, 105, 106, 107, 108, 109, 110, 111, 112, 113, 114, 115, 116, 117, 118, 119, 120, 121, 122])) (dC (.str [48, 49, 50, 51, 52, 53, 54, 55, 56, 57])))))
   (sRet (dVar 0))
   sNil)
  (sSeq (sIf (isB (dBin (eqD false) (dVar 0) (dC (.str [39]))))
   (sRet (dC (.str [])))
   sNil)
  (sSeq (sIf (isB (dBin (eqD false) (dVar 0) (dC (.str [38]))))
   (sRet (dC (.str [45, 97, 110, 100, 45])))
   sNil)
  (sRet (dC (.str [45])))))))
def m_sign_name : Fn := gcF (runF 1 1 b_sign_name)
def b_words_of_c1 : SE :=
  dComp (iSeq (dMt gStr mSplit (dVar 1) (dCons (dC (.str [45])) dNil))) (gNm 2) (dTru (dVar 2)) (dVar 2) [2]
def b_words_of_c2 : SE :=
  dComp (iSeq (dVar 0)) (gNm 3) bYes (dCall m_sign_name (dCons (dVar 3) dNil)) [3]
def b_words_of : SS :=
  (sSeq (sSet 1 (dMt gStr mJoin (dC (.str [])) (dCons b_words_of_c2 dNil)))
  (sRet b_words_of_c1))
def m_words_of : Fn := gcF (runF 4 1 b_words_of)
def b_made_l1 : SS :=
  (sSeq (sIf (dOr (isB (dBin gtD (dCallB lenL (dCons (dBin ixD (dVar 1) (dC (.int 0))) dNil)) (dC (.int 12)))) (isB (dBin gtD (dBin addD (dBin addD (dCallB lenL (dCons (dVar 2) dNil)) (dC (.int 1))) (dCallB lenL (dCons (dVar 3) dNil))) (dC (.int 12)))))
    (sRet (dVar 2))
    sNil)
   (sSet 2 (dBin addD (dBin addD (dVar 2) (dC (.str [45]))) (dVar 3))))
def b_made : SS :=
  (sSeq (sSet 1 (dCall m_words_of (dCons (dVar 0) dNil)))
  (sSeq (sIf (dNot (dTru (dVar 1)))
   (sRet (dC (.str [112, 97, 103, 101])))
   sNil)
  (sSeq (sSet 2 (dSl (dBin ixD (dVar 1) (dC (.int 0))) none (some (dC (.int 12)))))
  (sSeq (sFor (iSeq (dSl (dVar 1) (some (dC (.int 1))) none)) (gNm 3)
   b_made_l1)
  (sRet (dVar 2))))))
def m_made : Fn := gcF (runF 4 1 b_made)
def b_law_same_c1 (rc : Fn) : SE :=
  dComp (iZp (dCons (dVar 0) (dCons (dVar 1) dNil))) (gTp 2 (gsCons (gNm 2) (gsCons (gNm 3) gsNil))) bYes (dCall rc (dCons (dVar 2) (dCons (dVar 3) dNil))) [2, 3]
def b_law_same (rc : Fn) : SS :=
  (sSeq (sIf (isB (dBin (isD false) (dVar 1) (dC .non)))
   (sRet (dBin (isD false) (dVar 0) (dC .non)))
   sNil)
  (sSeq (sIf (dTru (dIsi "bool" (dVar 1)))
   (sRet (dAndV (dIsi "bool" (dVar 0)) (dBin (eqD false) (dVar 0) (dVar 1))))
   sNil)
  (sSeq (sIf (dTru (dIsi "tuple" (dVar 1)))
   (sSeq (sIf (dOr (dNot (dTru (dIsi "tuple" (dVar 0)))) (isB (dBin (eqD true) (dCallB lenL (dCons (dVar 0) dNil)) (dCallB lenL (dCons (dVar 1) dNil)))))
    (sRet (dC (.bl false)))
    sNil)
   (sRet (dCallB allL (dCons (b_law_same_c1 rc) dNil))))
   sNil)
  (sSeq (sIf (dTru (dIsi "str" (dVar 1)))
   (sRet (dAndV (dIsi "str" (dVar 0)) (dBin (eqD false) (dVar 0) (dVar 1))))
   sNil)
  (sRet (dAndV (dIsi "int" (dVar 0)) (dAndV (dNotV (dIsi "bool" (dVar 0))) (dBin (eqD false) (dVar 0) (dVar 1)))))))))
def m_law_same_ : Nat → Fn
  | 0 => fun _ _ => .bad
  | k + 1 => gcF (runF 4 2 (b_law_same (m_law_same_ k)))
def m_law_same : Fn := m_law_same_ 3
def b_law_draw : SS :=
  (sSeq (sDrop (dMt gLst mAppend (dVar 1) (dCons (dC (.int 0)) dNil)))
  (sSeq (sSet 3 (dCallB lenL (dCons (dVar 1) dNil)))
  (sSeq (sSet 4 (dC (.int 0)))
  (sSeq (sIf (dTru (dVar 0))
   (sSet 4 (dBin ixD (dVar 0) (dBin modD (dVar 3) (dCallB lenL (dCons (dVar 0) dNil)))))
   sNil)
  (sSeq (sSet 5 (dBin modD (dBin addD (dVar 4) (dBin mulD (dC (.int 104729)) (dVar 3))) (dC (.int 4294967291))))
  (sSeq (sSet 5 (dBin modD (dBin mulD (dBin modD (dBin mulD (dVar 5) (dVar 5)) (dC (.int 4294967279))) (dC (.int 48271))) (dC (.int 4294967291))))
  (sRet (dBin modD (dBin fdivD (dVar 5) (dC (.int 64))) (dVar 2)))))))))
def m_law_draw : Fn := gcF (runF 6 3 b_law_draw)
def b_law_pick : SS :=
  (sRet (dBin ixD (dVar 2) (dCall m_law_draw (dCons (dVar 0) (dCons (dVar 1) (dCons (dCallB lenL (dCons (dVar 2) dNil)) dNil))))))
def m_law_pick : Fn := gcF (runF 3 3 b_law_pick)
def b_law_title : SS :=
  (sSeq (sSet 2 (dLst (lits [.str [97], .str [78, 101, 119, 115], .str [79, 108, 100, 32, 78, 101, 119, 115], .str [65, 32, 38, 32, 66], .str [105, 116, 39, 115], .str [120, 45, 121], .str [65, 98, 111, 117, 116, 32, 117, 115, 32, 97, 108, 108], .str [108, 111, 110, 103, 101, 114, 32, 116, 104, 97, 110, 32, 116, 119, 101, 108, 118, 101], .str [50, 32, 98], .str [33]])))
  (sSeq (sSet 2 (dBin addD (dVar 2) (dLst (lits [.str [38], .str [97, 98, 99, 100, 101, 102, 103, 104, 105, 106, 107, 108, 109, 110], .str [66, 50], .str [116, 119, 111, 45, 45, 119, 111, 114, 100, 115], .str [97, 32, 98, 32, 99, 32, 100, 32, 101, 32, 102, 32, 103, 32, 104], .str [78, 101, 119, 115, 32, 50], .str [112, 97, 103, 101], .str [90], .str [110, 101, 119, 115]]))))
  (sRet (dCall m_law_pick (dCons (dVar 0) (dCons (dVar 1) (dCons (dBin addD (dVar 2) (dLst (dCons (dC (.str [101, 108, 101, 118, 101, 110, 32, 115, 105, 103, 110, 32, 98])) (dCons (dC (.str [97, 32, 50])) (dCons (dC (.str [65, 45, 50])) dNil))))) dNil)))))))
def m_law_title : Fn := gcF (runF 3 2 b_law_title)
def b_law_made_t1 : SB :=
  (isB (dBin gtD (dCallB lenL (dCons (dMt gStr mJoin (dC (.str [45])) (dCons (dVar 3) dNil)) dNil)) (dC (.int 12))))
def b_law_made_l1 : SS :=
  (sSet 3 (dSl (dVar 3) none (some (dUn negD (dC (.int 1))))))
def b_law_made_l2 : SS :=
  (sIf (isB (dChn leD leD (dC (.str [65])) (dVar 2) (dC (.str [90]))))
    (sSet 1 (dBin addD (dVar 1) (dMt gStr (mS0 5592405 Txt.lower) (dVar 2) dNil)))
    (sIf (dOr (isB (dChn leD leD (dC (.str [97])) (dVar 2) (dC (.str [122])))) (isB (dChn leD leD (dC (.str [48])) (dVar 2) (dC (.str [57])))))
     (sSet 1 (dBin addD (dVar 1) (dVar 2)))
     (sIf (isB (dBin (eqD false) (dVar 2) (dC (.str [38]))))
      (sSet 1 (dBin addD (dVar 1) (dC (.str [32, 97, 110, 100, 32]))))
      (sIf (isB (dBin (eqD true) (dVar 2) (dC (.str [39]))))
       (sSet 1 (dBin addD (dVar 1) (dC (.str [32]))))
       sNil))))
def b_law_made : SS :=
  (sSeq (sSet 1 (dC (.str [])))
  (sSeq (sFor (iSeq (dVar 0)) (gNm 2)
   b_law_made_l2)
  (sSeq (sSet 3 (dMt gStr mWords (dVar 1) dNil))
  (sSeq (sIf (dNot (dTru (dVar 3)))
   (sRet (dC (.str [112, 97, 103, 101])))
   sNil)
  (sSeq (sIf (isB (dBin gtD (dCallB lenL (dCons (dBin ixD (dVar 3) (dC (.int 0))) dNil)) (dC (.int 12))))
   (sRet (dSl (dBin ixD (dVar 3) (dC (.int 0))) none (some (dC (.int 12)))))
   sNil)
  (sSeq (sWhile b_law_made_t1
   b_law_made_l1)
  (sRet (dMt gStr mJoin (dC (.str [45])) (dCons (dVar 3) dNil)))))))))
def m_law_made : Fn := gcF (runF 4 1 b_law_made)
def b_law_unlike_t1 : SB :=
  (isB (dBin (inD false) (dVar 2) (dVar 1)))
def b_law_unlike_l1 : SS :=
  (sSeq (sSet 3 (dBin addD (dVar 3) (dC (.int 1))))
   (sSeq (sSet 4 (dBin addD (dC (.str [45])) (dCallB strL (dCons (dVar 3) dNil))))
   (sSeq (sSet 5 (dSl (dVar 0) none (some (dBin subD (dC (.int 12)) (dCallB lenL (dCons (dVar 4) dNil))))))
   (sSeq (sIf (dTru (dMt gStr (mB1 Txt.endswith) (dVar 5) (dCons (dC (.str [45])) dNil)))
    (sSet 5 (dSl (dVar 5) none (some (dUn negD (dC (.int 1))))))
    sNil)
   (sSet 2 (dBin addD (dVar 5) (dVar 4)))))))
def b_law_unlike : SS :=
  (sSeq (sSet 2 (dVar 0))
  (sSeq (sSet 3 (dC (.int 1)))
  (sSeq (sWhile b_law_unlike_t1
   b_law_unlike_l1)
  (sRet (dVar 2)))))
def m_law_unlike : Fn := gcF (runF 6 2 b_law_unlike)
def b_law_is_name_c1 : SE :=
  dComp (iSeq (dVar 0)) (gNm 1) bYes (dBin (inD false) (dVar 1) (dC (.str [97, 98, 99, 100, 101, 102, 103, 104, 105, 106, 107, 108, 109, 110, 111, 112, 113, 114, 115, 116, 117, 118, 119, 120, 121, 122, 48, 49, 50, 51, 52, 53, 54, 55, 56, 57, 45]))) [1]
def b_law_is_name : SS :=
  (sSeq (sIf (dOr (dNot (dTru (dIsi "str" (dVar 0)))) (dNot (isB (dChn leD leD (dC (.int 1)) (dCallB lenL (dCons (dVar 0) dNil)) (dC (.int 12))))))
   (sRet (dC (.bl false)))
   sNil)
  (sSeq (sIf (dNot (dTru (dCallB allL (dCons b_law_is_name_c1 dNil))))
   (sRet (dC (.bl false)))
   sNil)
  (sRet (dBin (inD true) (dC (.str [])) (dMt gStr mSplit (dVar 0) (dCons (dC (.str [45])) dNil))))))
def m_law_is_name : Fn := gcF (runF 2 1 b_law_is_name)
def b_law_k01_l1 : SS :=
  (sSet 3 (dBin addD (dVar 3) (dCall m_law_pick (dCons (dVar 0) (dCons (dVar 1) (dCons (dVar 4) dNil))))))
def b_law_k01_l2 : SS :=
  (sSeq (sSet 3 (dCall m_law_title (dCons (dVar 0) (dCons (dVar 1) dNil))))
   (sSeq (sIf (isB (dBin gtD (dVar 2) (dC (.int 9))))
    (sSeq (sSet 4 (dC (.str [32, 33, 35, 36, 38, 39, 40, 41, 42, 43, 44, 45, 46, 47, 48, 49, 50, 51, 52, 53, 54, 55, 56, 57, 58, 59, 60, 61, 62, 63, 64, 65, 66, 67, 68, 69, 70, 71, 72, 73, 74, 75, 76, 77, 78, 79, 80, 81, 82, 83, 84, 85, 86, 87, 88, 89, 90, 91, 93, 94, 95, 97, 98, 99, 100, 101, 102, 103, 104, 105, 106, 107, 108, 109, 110, 111, 112, 113, 114, 115, 116, 117, 118, 119, 120, 121, 122, 123, 124, 125, 126])))
    (sSeq (sSet 3 (dC (.str [])))
    (sSeq (sFor (iRng1 (dCons (dBin addD (dC (.int 1)) (dCall m_law_draw (dCons (dVar 0) (dCons (dVar 1) (dCons (dC (.int 30)) dNil))))) dNil)) (gNm 5)
     b_law_k01_l1)
    (sSet 3 (dMt gStr (mS1 Txt.stripChars) (dVar 3) (dCons (dC (.str [32])) dNil))))))
    sNil)
   (sIf (isB (dBin (eqD true) (dVar 3) (dC (.str []))))
    (sSeq (sSet 6 (dCall m_law_made (dCons (dVar 3) dNil)))
    (sIf (dOr (dNot (dTru (dCall m_law_same (dCons (dCall m_made (dCons (dVar 3) dNil)) (dCons (dVar 6) dNil))))) (dOr (dNot (dTru (dCall m_law_same (dCons (dCall m_is_name (dCons (dVar 6) dNil)) (dCons (dC (.bl true)) dNil))))) (dNot (dTru (dCall m_law_is_name (dCons (dVar 6) dNil))))))
     (sRet (dC (.bl false)))
     sNil))
    sNil)))
def b_law_k01 : SS :=
  (sSeq (sSet 1 (dLst dNil))
  (sSeq (sFor (iRng1 (dCons (dC (.int 20)) dNil)) (gNm 2)
   b_law_k01_l2)
  (sRet (dC (.bl true)))))
def m_law_k01 : Fn := gcF (runF 7 1 b_law_k01)
end
end DL


set_option maxRecDepth 100000
namespace DL
open PySem PySem.Spec PyProof.Rows L2
noncomputable section
def b_is_title_c1 : SE :=
  dComp (iSeq (dVar 0)) (gNm 1) bYes (dChn leD leD (dC (.str [32])) (dVar 1) (dC (.str [126]))) [1]
def b_is_title : SS :=
  (sSeq (sIf (dOr (dNot (dTru (dIsi "str" (dVar 0)))) (dNot (isB (dChn leD leD (dC (.int 1)) (dCallB lenL (dCons (dVar 0) dNil)) (dC (.int 30))))))
   (sRet (dC (.bl false)))
   sNil)
  (sRet (dAndV (dCallB allL (dCons b_is_title_c1 dNil)) (dAndV (dBin (eqD true) (dBin ixD (dVar 0) (dC (.int 0))) (dC (.str [32]))) (dBin (eqD true) (dBin ixD (dVar 0) (dUn negD (dC (.int 1)))) (dC (.str [32])))))))
def m_is_title : Fn := gcF (runF 2 1 b_is_title)
def b_is_address_c1 : SE :=
  dComp (iSeq (dVar 0)) (gNm 1) bYes (dCall m_is_name (dCons (dVar 1) dNil)) [1]
def b_is_address : SS :=
  (sRet (dAndV (dIsi "tuple" (dVar 0)) (dAndV (dChn leD leD (dC (.int 1)) (dCallB lenL (dCons (dVar 0) dNil)) (dC (.int 4))) (dCallB allL (dCons b_is_address_c1 dNil)))))
def m_is_address : Fn := gcF (runF 2 1 b_is_address)
def b_address_text : SS :=
  (sRet (dMt gStr mJoin (dC (.str [47])) (dCons (dVar 0) dNil)))
def m_address_text : Fn := gcF (runF 1 1 b_address_text)
def b_read_address : SS :=
  (sSeq (sSet 1 (dCallB tupleL (dCons (dMt gStr mSplit (dVar 0) (dCons (dC (.str [47])) dNil)) dNil)))
  (sSeq (sIf (dNot (dTru (dCall m_is_address (dCons (dVar 1) dNil))))
   (sRse "NoText")
   sNil)
  (sRet (dVar 1))))
def m_read_address : Fn := gcF (runF 2 1 b_read_address)
def b_law_or : SS :=
  (sSeq (sIf (isB (dBin (isD false) (dVar 0) (dC .non)))
   (sRet (dC (.str [114, 101, 102, 117, 115, 101, 100])))
   sNil)
  (sRet (dVar 0)))
def m_law_or : Fn := gcF (runF 1 1 b_law_or)
def b_law_told : SS :=
  (sSeq (sSet 1 (dC .non))
  (sSeq (sTry [("NoText", true)] (sSet 1 (dCall m_read_address (dCons (dVar 0) dNil))) (sSet 1 (dC (.str [114, 101, 102, 117, 115, 101, 100]))))
  (sRet (dVar 1))))
def m_law_told : Fn := gcF (runF 2 1 b_law_told)
def b_law_is_title : SS :=
  (sRet (dAndV (dIsi "str" (dVar 0)) (dAndV (dChn leD leD (dC (.int 1)) (dCallB lenL (dCons (dVar 0) dNil)) (dC (.int 30))) (dBin (eqD false) (dVar 0) (dMt gStr (mS1 Txt.stripChars) (dVar 0) (dCons (dC (.str [32])) dNil))))))
def m_law_is_title : Fn := gcF (runF 1 1 b_law_is_title)
def b_law_is_address_c1 : SE :=
  dComp (iSeq (dVar 0)) (gNm 1) bYes (dCall m_law_is_name (dCons (dVar 1) dNil)) [1]
def b_law_is_address : SS :=
  (sRet (dAndV (dIsi "tuple" (dVar 0)) (dAndV (dChn leD leD (dC (.int 1)) (dCallB lenL (dCons (dVar 0) dNil)) (dC (.int 4))) (dCallB allL (dCons b_law_is_address_c1 dNil)))))
def m_law_is_address : Fn := gcF (runF 2 1 b_law_is_address)
def b_law_k02_l1 : SS :=
  (sSeq (sSet 10 (dCallB tupleL (dCons (dMt gStr mSplit (dVar 7) (dCons (dC (.str [47])) dNil)) dNil)))
    (sSeq (sIf (dNot (dTru (dCall m_law_is_address (dCons (dVar 10) dNil))))
     (sSet 10 (dC .non))
     sNil)
    (sIf (dNot (dTru (dCall m_law_same (dCons (dCall m_law_told (dCons (dVar 7) dNil)) (dCons (dCall m_law_or (dCons (dVar 10) dNil)) dNil)))))
     (sRet (dC (.bl false)))
     sNil)))
def b_law_k02_l2 : SS :=
  (sSeq (sSet 9 (dTup (dCons (dCall m_is_name (dCons (dVar 7) dNil)) (dCons (dCall m_is_title (dCons (dVar 7) dNil)) (dCons (dCall m_is_address (dCons (dVar 7) dNil)) dNil)))))
    (sIf (dNot (dTru (dCall m_law_same (dCons (dVar 9) (dCons (dTup (dCons (dCall m_law_is_name (dCons (dVar 7) dNil)) (dCons (dCall m_law_is_title (dCons (dVar 7) dNil)) (dCons (dCall m_law_is_address (dCons (dVar 7) dNil)) dNil)))) dNil)))))
     (sRet (dC (.bl false)))
     sNil))
def b_law_k02_l3 : SS :=
  (sSet 6 (dBin addD (dVar 6) (dTup (dCons (dCall m_law_pick (dCons (dVar 0) (dCons (dVar 1) (dCons (dLst (dCons (dC (.str [97])) (dCons (dC (.str [98, 45, 50])) (dCons (dC (.str [110, 101, 119, 115])) (dCons (dC (.str [45])) (dCons (dBin mulD (dC (.str [120])) (dC (.int 12))) dNil)))))) dNil)))) dNil))))
def b_law_k02_l4 : SS :=
  (sSeq (sSet 8 (dCall m_law_pick (dCons (dVar 0) (dCons (dVar 1) (dCons (dLst (dCons (dC (.str [97, 98, 99, 100, 101, 102, 103, 104, 105, 106, 107, 108, 109, 110, 111, 112, 113, 114, 115, 116, 117, 118, 119, 120, 121, 122])) (dCons (dC (.str [48, 49, 50, 51, 52, 53, 54, 55, 56, 57, 45, 47, 45, 32, 95, 65, 90, 64, 91, 123])) dNil))) dNil)))))
    (sSet 4 (dBin addD (dVar 4) (dCall m_law_pick (dCons (dVar 0) (dCons (dVar 1) (dCons (dVar 8) dNil)))))))
def b_law_k02_l5 : SS :=
  (sSeq (sSet 4 (dC (.str [])))
   (sSeq (sFor (iRng1 (dCons (dCall m_law_draw (dCons (dVar 0) (dCons (dVar 1) (dCons (dC (.int 15)) dNil)))) dNil)) (gNm 5)
    b_law_k02_l4)
   (sSeq (sSet 6 (dTup dNil))
   (sSeq (sFor (iRng1 (dCons (dCall m_law_draw (dCons (dVar 0) (dCons (dVar 1) (dCons (dC (.int 6)) dNil)))) dNil)) (gNm 5)
    b_law_k02_l3)
   (sSeq (sFor (iSeq (dBin addD (dVar 2) (dLst (dCons (dVar 4) (dCons (dVar 6) (dCons (dCallB listL (dCons (dVar 6) dNil)) (dCons (dBin addD (dVar 6) (dTup (dCons (dVar 4) dNil))) dNil))))))) (gNm 7)
    b_law_k02_l2)
   (sSeq (sIf (dAnd (dTru (dCall m_law_is_address (dCons (dVar 6) dNil))) (dNot (dTru (dCall m_law_same (dCons (dCall m_address_text (dCons (dVar 6) dNil)) (dCons (dMt gStr mJoin (dC (.str [47])) (dCons (dVar 6) dNil)) dNil))))))
    (sRet (dC (.bl false)))
    sNil)
   (sFor (iSeq (dLst (dCons (dVar 4) (dCons (dMt gStr mJoin (dC (.str [47])) (dCons (dVar 6) dNil)) (dCons (dBin addD (dMt gStr mJoin (dC (.str [47])) (dCons (dVar 6) dNil)) (dC (.str [47]))) (dCons (dBin addD (dC (.str [47])) (dVar 4)) (dCons (dC (.str [97, 47, 98, 47, 99, 47, 100, 47, 101])) (dCons (dC (.str [97, 47, 47, 98])) dNil)))))))) (gNm 7)
    b_law_k02_l1)))))))
def b_law_k02 : SS :=
  (sSeq (sSet 1 (dLst dNil))
  (sSeq (sSet 2 (dLst (dCons (dC .non) (dCons (dC (.int 7)) (dCons (dC (.bl true)) (dCons (dTup dNil) (dCons (dLst dNil) (dCons (dTup (dCons (dC (.str [97])) dNil)) (dCons (dLst (dCons (dC (.str [97])) dNil)) (dCons (dC (.str [])) (dCons (dC (.str [97])) (dCons (dC (.str [45])) (dCons (dC (.str [97, 45])) (dCons (dC (.str [45, 97])) (dCons (dC (.str [97, 45, 45, 98])) (dCons (dC (.str [97, 45, 98])) (dCons (dC (.str [65])) (dCons (dC (.str [97, 32, 98])) dNil))))))))))))))))))
  (sSeq (sSet 2 (dBin addD (dVar 2) (dLst (dCons (dC (.str [32, 97])) (dCons (dC (.str [97, 32])) (dCons (dBin mulD (dC (.str [120])) (dC (.int 12))) dNil))))))
  (sSeq (sSet 2 (dBin addD (dVar 2) (dLst (dCons (dBin mulD (dC (.str [120])) (dC (.int 13))) (dCons (dBin mulD (dC (.str [120])) (dC (.int 30))) (dCons (dBin mulD (dC (.str [120])) (dC (.int 31))) (dCons (dTup (dCons (dC (.str [97])) (dCons (dC (.str [98])) (dCons (dC (.str [99])) (dCons (dC (.str [100])) dNil))))) (dCons (dBin mulD (dTup (dCons (dC (.str [97])) dNil)) (dC (.int 5))) (dCons (dTup (dCons (dC (.str [97])) (dCons (dC .non) dNil))) (dCons (dTup (dCons (dC (.str [97])) (dCons (dTup (dCons (dC (.str [98])) dNil)) dNil))) (dCons (dTup (dCons (dTup (dCons (dC (.str [97])) dNil)) dNil)) dNil)))))))))))
  (sSeq (sFor (iRng1 (dCons (dC (.int 16)) dNil)) (gNm 3)
   b_law_k02_l5)
  (sRet (dC (.bl true))))))))
def m_law_k02 : Fn := gcF (runF 11 1 b_law_k02)
end
end DL


set_option maxRecDepth 100000
namespace DL
open PySem PySem.Spec PyProof.Rows L2
noncomputable section
def b_numbered : SS :=
  (sSeq (sSet 2 (dBin addD (dC (.str [45])) (dCallB strL (dCons (dVar 1) dNil))))
  (sRet (dBin addD (dMt gStr (mS1 Txt.rstripChars) (dSl (dVar 0) none (some (dBin subD (dC (.int 12)) (dCallB lenL (dCons (dVar 2) dNil))))) (dCons (dC (.str [45])) dNil)) (dVar 2))))
def m_numbered : Fn := gcF (runF 3 2 b_numbered)
def b_unlike_t1 : SB :=
  (isB (dBin (inD false) (dCall m_numbered (dCons (dVar 0) (dCons (dVar 2) dNil))) (dVar 1)))
def b_unlike_l1 : SS :=
  (sSet 2 (dBin addD (dVar 2) (dC (.int 1))))
def b_unlike : SS :=
  (sSeq (sIf (isB (dBin (inD true) (dVar 0) (dVar 1)))
   (sRet (dVar 0))
   sNil)
  (sSeq (sSet 2 (dC (.int 2)))
  (sSeq (sWhile b_unlike_t1
   b_unlike_l1)
  (sRet (dCall m_numbered (dCons (dVar 0) (dCons (dVar 2) dNil)))))))
def m_unlike : Fn := gcF (runF 3 2 b_unlike)
def b_law_k03_l1 : SS :=
  (sSet 4 (dBin addD (dVar 4) (dTup (dCons (dCall m_law_unlike (dCons (dVar 3) (dCons (dVar 4) dNil))) dNil))))
def b_law_k03_l2 : SS :=
  (sSeq (sSet 7 (dCall m_law_unlike (dCons (dVar 3) (dCons (dBin addD (dTup (dCons (dVar 3) dNil)) (dVar 4)) dNil))))
    (sSet 4 (dBin addD (dVar 4) (dTup (dCons (dCall m_law_pick (dCons (dVar 0) (dCons (dVar 1) (dCons (dLst (dCons (dVar 3) (dCons (dVar 7) (dCons (dC (.str [97])) (dCons (dC (.str [98, 45, 50])) dNil))))) dNil)))) dNil)))))
def b_law_k03_l3 : SS :=
  (sSeq (sSet 3 (dCall m_law_made (dCons (dCall m_law_title (dCons (dVar 0) (dCons (dVar 1) dNil))) dNil)))
   (sSeq (sSet 3 (dCall m_law_pick (dCons (dVar 0) (dCons (dVar 1) (dCons (dLst (dCons (dVar 3) (dCons (dC (.str [97, 98, 99, 100, 101, 102, 103, 104, 105, 45, 107, 108])) (dCons (dC (.str [97, 98, 99, 100, 101, 102, 103, 104, 105, 106, 45, 108])) (dCons (dC (.str [97])) (dCons (dC (.str [97, 45, 50])) dNil)))))) dNil)))))
   (sSeq (sSet 4 (dTup dNil))
   (sSeq (sFor (iRng1 (dCons (dCall m_law_draw (dCons (dVar 0) (dCons (dVar 1) (dCons (dC (.int 8)) dNil)))) dNil)) (gNm 5)
    b_law_k03_l2)
   (sSeq (sIf (isB (dBin (eqD false) (dCall m_law_draw (dCons (dVar 0) (dCons (dVar 1) (dCons (dC (.int 4)) dNil)))) (dC (.int 0))))
    (sSeq (sSet 4 (dTup (dCons (dVar 3) dNil)))
    (sFor (iRng1 (dCons (dCall m_law_draw (dCons (dVar 0) (dCons (dVar 1) (dCons (dC (.int 15)) dNil)))) dNil)) (gNm 5)
     b_law_k03_l1))
    sNil)
   (sSeq (sSet 6 (dCall m_law_unlike (dCons (dVar 3) (dCons (dVar 4) dNil))))
   (sIf (dOr (dNot (dTru (dCall m_law_same (dCons (dCall m_unlike (dCons (dVar 3) (dCons (dVar 4) dNil))) (dCons (dVar 6) dNil))))) (dOr (isB (dBin (inD false) (dVar 6) (dVar 4))) (dNot (dTru (dCall m_law_same (dCons (dCall m_is_name (dCons (dVar 6) dNil)) (dCons (dC (.bl true)) dNil)))))))
    (sRet (dC (.bl false)))
    sNil)))))))
def b_law_k03 : SS :=
  (sSeq (sSet 1 (dLst dNil))
  (sSeq (sFor (iRng1 (dCons (dC (.int 12)) dNil)) (gNm 2)
   b_law_k03_l3)
  (sRet (dC (.bl true)))))
def m_law_k03 : Fn := gcF (runF 8 1 b_law_k03)
end
end DL


set_option maxRecDepth 100000
namespace DL
open PySem PySem.Spec PyProof.Rows L2
noncomputable section
def b_law_draw_2 : SS :=
  (sSeq (sDrop (dMt gLst mAppend (dVar 1) (dCons (dC (.int 0)) dNil)))
  (sSeq (sSet 3 (dCallB lenL (dCons (dVar 1) dNil)))
  (sSeq (sSet 4 (dC (.int 0)))
  (sSeq (sIf (dTru (dVar 0))
   (sSet 4 (dBin ixD (dVar 0) (dBin modD (dVar 3) (dCallB lenL (dCons (dVar 0) dNil)))))
   sNil)
  (sSeq (sSet 5 (dBin modD (dBin addD (dVar 4) (dBin mulD (dC (.int 104729)) (dVar 3))) (dC (.int 4294967291))))
  (sSeq (sSet 5 (dBin modD (dBin mulD (dBin modD (dBin mulD (dVar 5) (dVar 5)) (dC (.int 4294967279))) (dC (.int 48271))) (dC (.int 4294967291))))
  (sSeq (sSet 6 (dBin modD (dBin mulD (dBin modD (dBin mulD (dVar 5) (dVar 5)) (dC (.int 4294967279))) (dC (.int 69621))) (dC (.int 4294967291))))
  (sRet (dBin modD (dBin addD (dBin mulD (dBin fdivD (dVar 5) (dC (.int 64))) (dC (.int 67108864))) (dBin fdivD (dVar 6) (dC (.int 64)))) (dVar 2))))))))))
def m_law_draw_2 : Fn := gcF (runF 7 3 b_law_draw_2)
def b_law_pick_2 : SS :=
  (sRet (dBin ixD (dVar 2) (dCall m_law_draw_2 (dCons (dVar 0) (dCons (dVar 1) (dCons (dCallB lenL (dCons (dVar 2) dNil)) dNil))))))
def m_law_pick_2 : Fn := gcF (runF 3 3 b_law_pick_2)
def b_law_name_l1 : SS :=
  (sSeq (sSet 4 (dCall m_law_pick_2 (dCons (dVar 0) (dCons (dVar 1) (dCons (dC (.str [97, 98, 99, 120, 121, 122, 48, 55, 57, 45, 45, 45])) dNil)))))
   (sSet 2 (dBin addD (dVar 2) (dIf (dOr (isB (dBin (eqD true) (dVar 4) (dC (.str [45])))) (isB (dBin (eqD true) (dBin ixD (dVar 2) (dUn negD (dC (.int 1)))) (dC (.str [45]))))) (dVar 4) (dC (.str [113]))))))
def b_law_name : SS :=
  (sSeq (sSet 2 (dCall m_law_pick_2 (dCons (dVar 0) (dCons (dVar 1) (dCons (dC (.str [97, 98, 99, 120, 121, 122, 48, 55, 57])) dNil)))))
  (sSeq (sFor (iRng1 (dCons (dCall m_law_draw_2 (dCons (dVar 0) (dCons (dVar 1) (dCons (dC (.int 12)) dNil)))) dNil)) (gNm 3)
   b_law_name_l1)
  (sRet (dOrV (dMt gStr (mS1 Txt.rstripChars) (dVar 2) (dCons (dC (.str [45])) dNil)) (dC (.str [97]))))))
def m_law_name : Fn := gcF (runF 5 2 b_law_name)
def b_law_due_t1 : SB :=
  (isB (dBin (inD false) (dVar 3) (dVar 1)))
def b_law_due_l1 : SS :=
  (sSeq (sSet 2 (dBin addD (dVar 2) (dC (.int 1))))
   (sSeq (sSet 4 (dBin addD (dC (.str [45])) (dCallB strL (dCons (dVar 2) dNil))))
   (sSet 3 (dBin addD (dMt gStr (mS1 Txt.rstripChars) (dSl (dVar 0) none (some (dBin subD (dC (.int 12)) (dCallB lenL (dCons (dVar 4) dNil))))) (dCons (dC (.str [45])) dNil)) (dVar 4)))))
def b_law_due : SS :=
  (sSeq (sPar 2 3 (dC (.int 1)) (dVar 0))
  (sSeq (sWhile b_law_due_t1
   b_law_due_l1)
  (sRet (dVar 3))))
def m_law_due : Fn := gcF (runF 5 2 b_law_due)
def b_law_k19_l1 : SS :=
  (sIf (isB (dBin (eqD true) (dCall m_unlike (dCons (dVar 6) (dCons (dTup (dCons (dVar 7) dNil)) dNil))) (dVar 6)))
     (sRet (dC (.bl false)))
     sNil)
def b_law_k19_c1 : SE :=
  dComp (iSeq (dTup (dCons (dC (.str [122, 122])) (dCons (dC (.str [113, 55])) (dCons (dC (.str [120, 45, 121])) dNil))))) (gNm 6) (isB (dBin (eqD true) (dVar 6) (dVar 7))) (dVar 6) [6]
def b_law_k19_l2 : SS :=
  (sSeq (sSet 9 (dCall m_unlike (dCons (dVar 7) (dCons (dVar 8) dNil))))
    (sSeq (sIf (dOr (isB (dBin (eqD true) (dVar 9) (dCall m_law_due (dCons (dVar 7) (dCons (dVar 8) dNil))))) (dOr (dNot (dTru (dCall m_is_name (dCons (dVar 9) dNil)))) (isB (dBin (inD false) (dVar 9) (dVar 8)))))
     (sRet (dC (.bl false)))
     sNil)
    (sSeq (sSet 10 (dCallB tupleL (dCons b_law_k19_c1 dNil)))
    (sSeq (sIf (dOr (isB (dBin (eqD true) (dCall m_unlike (dCons (dVar 7) (dCons (dUn revD (dVar 8)) dNil))) (dVar 9))) (isB (dBin (eqD true) (dCall m_unlike (dCons (dVar 7) (dCons (dBin addD (dBin addD (dVar 8) (dVar 10)) (dVar 8)) dNil))) (dVar 9))))
     (sRet (dC (.bl false)))
     sNil)
    (sSet 8 (dBin addD (dVar 8) (dTup (dCons (dVar 9) dNil))))))))
def b_law_k19_l3 : SS :=
  (sSeq (sAsg (dTup (dCons (dCall m_law_name (dCons (dVar 0) (dCons (dVar 1) dNil))) (dCons (dTup dNil) dNil))) (gTp 2 (gsCons (gNm 7) (gsCons (gNm 8) gsNil))))
   (sSeq (sFor (iRng1 (dCons (dBin addD (dC (.int 1)) (dCall m_law_draw_2 (dCons (dVar 0) (dCons (dVar 1) (dCons (dC (.int 14)) dNil))))) dNil)) (gNm 3)
    b_law_k19_l2)
   (sSeq (sSet 4 (dCall m_law_draw_2 (dCons (dVar 0) (dCons (dVar 1) (dCons (dCallB lenL (dCons (dVar 8) dNil)) dNil)))))
   (sSeq (sSet 5 (dBin addD (dSl (dVar 8) none (some (dVar 4))) (dSl (dVar 8) (some (dBin addD (dVar 4) (dC (.int 1)))) none)))
   (sSeq (sIf (dOr (isB (dBin (eqD true) (dCall m_unlike (dCons (dVar 7) (dCons (dVar 5) dNil))) (dBin ixD (dVar 8) (dVar 4)))) (isB (dBin (eqD true) (dCall m_unlike (dCons (dVar 7) (dCons (dTup dNil) dNil))) (dVar 7))))
    (sRet (dC (.bl false)))
    sNil)
   (sFor (iSeq (dSl (dVar 8) (some (dC (.int 1))) none)) (gNm 6)
    b_law_k19_l1))))))
def b_law_k19 : SS :=
  (sSeq (sSet 1 (dLst dNil))
  (sSeq (sFor (iRng1 (dCons (dC (.int 6)) dNil)) (gNm 2)
   b_law_k19_l3)
  (sRet (dC (.bl true)))))
def m_law_k19 : Fn := gcF (runF 11 1 b_law_k19)
end
end DL


set_option maxRecDepth 100000
namespace DL
open PySem PySem.Spec PyProof.Rows L2
noncomputable section
def b_rows_text_c1 : SE :=
  dComp (iSeq (dVar 0)) (gTp 2 (gsCons (gNm 1) (gsCons (gNm 2) gsNil))) bYes (dBin addD (dBin addD (dBin addD (dCall m_address_text (dCons (dVar 1) dNil)) (dC (.str [32]))) (dCall m_address_text (dCons (dVar 2) dNil))) (dC (.str [10]))) [1, 2]
def b_rows_text : SS :=
  (sRet (dMt gStr mJoin (dC (.str [])) (dCons b_rows_text_c1 dNil)))
def m_rows_text : Fn := gcF (runF 3 1 b_rows_text)
def b_read_rows_c1 : SE :=
  dComp (iSeq (dVar 3)) (gTp 2 (gsCons (gNm 6) (gsCons (gNm 7) gsNil))) bYes (dVar 6) [6, 7]
def b_read_rows_l1 : SS :=
  (sSeq (sSet 5 (dMt gStr mSplit (dVar 2) (dCons (dC (.str [32])) dNil)))
   (sSeq (sIf (isB (dBin (eqD true) (dCallB lenL (dCons (dVar 5) dNil)) (dC (.int 2))))
    (sRse "NoText")
    sNil)
   (sDrop (dMt gLst mAppend (dVar 1) (dCons (dTup (dCons (dCall m_read_address (dCons (dBin ixD (dVar 5) (dC (.int 0))) dNil)) (dCons (dCall m_read_address (dCons (dBin ixD (dVar 5) (dC (.int 1))) dNil)) dNil))) dNil)))))
def b_read_rows : SS :=
  (sSeq (sSet 1 (dLst dNil))
  (sSeq (sFor (iSeq (dSl (dMt gStr mSplit (dVar 0) (dCons (dC (.str [10])) dNil)) none (some (dUn negD (dC (.int 1)))))) (gNm 2)
   b_read_rows_l1)
  (sSeq (sSet 3 (dCallB tupleL (dCons (dVar 1) dNil)))
  (sSeq (sSet 4 b_read_rows_c1)
  (sSeq (sIf (dOr (isB (dBin (eqD true) (dCall m_rows_text (dCons (dVar 3) dNil)) (dVar 0))) (isB (dBin (eqD true) (dCallB lenSetL (dCons (dVar 4) dNil)) (dCallB lenL (dCons (dVar 4) dNil)))))
   (sRse "NoText")
   sNil)
  (sRet (dVar 3)))))))
def m_read_rows : Fn := gcF (runF 8 1 b_read_rows)
def b_are_rows_c1 : SE :=
  dComp (iSeq (dVar 0)) (gNm 1) bYes (dBin ixD (dVar 1) (dC (.int 0))) [1]
def b_are_rows_c2 : SE :=
  dComp (iSeq (dVar 0)) (gNm 1) bYes (dAndV (dCall m_is_address (dCons (dBin ixD (dVar 1) (dC (.int 0))) dNil)) (dCall m_is_address (dCons (dBin ixD (dVar 1) (dC (.int 1))) dNil))) [1]
def b_are_rows_c3 : SE :=
  dComp (iSeq (dVar 0)) (gNm 1) bYes (dAndV (dIsi "tuple" (dVar 1)) (dBin (eqD false) (dCallB lenL (dCons (dVar 1) dNil)) (dC (.int 2)))) [1]
def b_are_rows : SS :=
  (sSeq (sIf (dOr (dNot (dTru (dIsi "tuple" (dVar 0)))) (dNot (dTru (dCallB allL (dCons b_are_rows_c3 dNil)))))
   (sRet (dC (.bl false)))
   sNil)
  (sSeq (sIf (dNot (dTru (dCallB allL (dCons b_are_rows_c2 dNil))))
   (sRet (dC (.bl false)))
   sNil)
  (sRet (dBin (eqD false) (dCallB lenSetL (dCons b_are_rows_c1 dNil)) (dCallB lenL (dCons (dVar 0) dNil))))))
def m_are_rows : Fn := gcF (runF 2 1 b_are_rows)
def b_law_address_2_c1 : SE :=
  dComp (iRng1 (dCons (dBin addD (dC (.int 1)) (dCall m_law_draw_2 (dCons (dVar 0) (dCons (dVar 1) (dCons (dC (.int 4)) dNil))))) dNil)) (gNm 3) bYes (dCall m_law_pick_2 (dCons (dVar 0) (dCons (dVar 1) (dCons (dVar 2) dNil)))) [3]
def b_law_address_2 : SS :=
  (sSeq (sSet 2 (dLst (lits [.str [97], .str [98, 45, 99], .str [120, 57], .str [112, 97, 103, 101], .str [97, 98, 99, 100, 101, 102, 103, 104, 105, 106, 107, 108], .str [48]])))
  (sRet (dCallB tupleL (dCons b_law_address_2_c1 dNil))))
def m_law_address_2 : Fn := gcF (runF 4 2 b_law_address_2)
def b_law_rows_5_l1 : SS :=
  (sPut (dVar 2) (dCall m_law_address_2 (dCons (dVar 0) (dCons (dVar 1) dNil))) (dCall m_law_address_2 (dCons (dVar 0) (dCons (dVar 1) dNil))))
def b_law_rows_5 : SS :=
  (sSeq (sSet 2 (dDct true))
  (sSeq (sFor (iRng1 (dCons (dCall m_law_draw_2 (dCons (dVar 0) (dCons (dVar 1) (dCons (dC (.int 8)) dNil)))) dNil)) (gNm 3)
   b_law_rows_5_l1)
  (sRet (dTupIt (dVar 2)))))
def m_law_rows_5 : Fn := gcF (runF 4 2 b_law_rows_5)
def b_law_read : SS :=
  (sTry [("NoText", true)] (sRet (dCall m_read_rows (dCons (dVar 0) dNil))) (sRet (dC .non)))
def m_law_read : Fn := gcF (runF 1 1 b_law_read)
def b_law_read_one : SS :=
  (sTry [("NoText", true)] (sRet (dCall m_read_address (dCons (dVar 0) dNil))) (sRet (dC .non)))
def m_law_read_one : Fn := gcF (runF 1 1 b_law_read_one)
def b_law_lines_c1 : SE :=
  dComp (iSeq (dVar 0)) (gTp 2 (gsCons (gNm 1) (gsCons (gNm 2) gsNil))) bYes (dBin addD (dBin addD (dBin addD (dMt gStr mJoin (dC (.str [47])) (dCons (dVar 1) dNil)) (dC (.str [32]))) (dMt gStr mJoin (dC (.str [47])) (dCons (dVar 2) dNil))) (dC (.str [10]))) [1, 2]
def b_law_lines : SS :=
  (sRet b_law_lines_c1)
def m_law_lines : Fn := gcF (runF 3 1 b_law_lines)
def b_law_k32_l1 : SS :=
  (sIf (isB (dBin (isD true) (dCall m_law_read_one (dCons (dVar 5) dNil)) (dC .non)))
     (sRet (dC (.bl false)))
     sNil)
def b_law_k32_l2 : SS :=
  (sIf (isB (dBin (isD true) (dCall m_law_read (dCons (dBin addD (dBin addD (dVar 7) (dVar 5)) (dC (.str [10]))) dNil)) (dC .non)))
     (sRet (dC (.bl false)))
     sNil)
def b_law_k32_l3 : SS :=
  (sSeq (sIf (dOr (isB (dBin (eqD true) (dCall m_address_text (dCons (dVar 10) dNil)) (dMt gStr mJoin (dC (.str [47])) (dCons (dVar 10) dNil)))) (dOr (isB (dBin (eqD true) (dCall m_law_read_one (dCons (dCall m_address_text (dCons (dVar 10) dNil)) dNil)) (dVar 10))) (dNot (dTru (dCall m_is_address (dCons (dVar 10) dNil))))))
     (sRet (dC (.bl false)))
     sNil)
    (sSeq (sSet 9 (dMt gStr mJoin (dC (.str [])) (dCons (dBin addD (dSl (dVar 6) none (some (dVar 8))) (dSl (dVar 6) (some (dBin addD (dVar 8) (dC (.int 1)))) none)) dNil)))
    (sSeq (sIf (isB (dBin (eqD true) (dCall m_law_read (dCons (dVar 9) dNil)) (dBin addD (dSl (dVar 3) none (some (dVar 8))) (dSl (dVar 3) (some (dBin addD (dVar 8) (dC (.int 1)))) none))))
     (sRet (dC (.bl false)))
     sNil)
    (sIf (dOr (isB (dBin (isD true) (dCall m_law_read (dCons (dMt gStr mJoin (dC (.str [])) (dCons (dBin addD (dVar 6) (dSl (dVar 6) (some (dVar 8)) (some (dBin addD (dVar 8) (dC (.int 1)))))) dNil)) dNil)) (dC .non))) (dTru (dCall m_are_rows (dCons (dBin addD (dVar 3) (dTup (dCons (dTup (dCons (dVar 10) (dCons (dTup (dCons (dC (.str [113])) dNil)) dNil))) dNil))) dNil))))
     (sRet (dC (.bl false)))
     sNil))))
def b_law_k32_l4 : SS :=
  (sSeq (sSet 3 (dCall m_law_rows_5 (dCons (dVar 0) (dCons (dVar 1) dNil))))
   (sSeq (sPar 6 7 (dCall m_law_lines (dCons (dVar 3) dNil)) (dCall m_rows_text (dCons (dVar 3) dNil)))
   (sSeq (sIf (dOr (isB (dBin (eqD true) (dVar 7) (dMt gStr mJoin (dC (.str [])) (dCons (dVar 6) dNil)))) (dOr (isB (dBin (eqD true) (dCall m_law_read (dCons (dVar 7) dNil)) (dVar 3))) (dNot (dTru (dCall m_are_rows (dCons (dVar 3) dNil))))))
    (sRet (dC (.bl false)))
    sNil)
   (sSeq (sIf (isB (dBin (eqD true) (dCall m_law_read (dCons (dMt gStr mJoin (dC (.str [])) (dCons (dUn revD (dVar 6)) dNil)) dNil)) (dUn revD (dVar 3))))
    (sRet (dC (.bl false)))
    sNil)
   (sSeq (sFor (iEa (dCons (dVar 3) dNil)) (gTp 2 (gsCons (gNm 8) (gsCons (gTp 2 (gsCons (gNm 10) (gsCons (gNm 11) gsNil))) gsNil)))
    b_law_k32_l3)
   (sSeq (sIf (dAnd (dTru (dVar 7)) (isB (dBin (isD true) (dCall m_law_read (dCons (dSl (dVar 7) none (some (dUn negD (dC (.int 1))))) dNil)) (dC .non))))
    (sRet (dC (.bl false)))
    sNil)
   (sSeq (sSet 4 (dLst (lits [.str [97], .str [97, 32, 98, 32, 99], .str [97, 32, 32, 98], .str [32, 97, 32, 98], .str [97, 32, 98, 32], .str [97, 47, 32, 98], .str [47, 97, 32, 98], .str [97, 47, 47, 98, 32, 99], .str [65, 32, 98], .str [97, 45, 47, 98, 32, 99]])))
   (sSeq (sFor (iSeq (dBin addD (dVar 4) (dLst (dCons (dC (.str [97, 47, 98, 47, 99, 47, 100, 47, 101, 32, 102])) (dCons (dC (.str [97, 98, 99, 100, 101, 102, 103, 104, 105, 106, 107, 108, 109, 32, 97])) (dCons (dC (.str [])) dNil)))))) (gNm 5)
    b_law_k32_l2)
   (sSeq (sFor (iSeq (dTup (dCons (dC (.str [])) (dCons (dC (.str [47])) (dCons (dC (.str [97, 47])) (dCons (dC (.str [97, 32, 98])) (dCons (dC (.str [45, 97])) (dCons (dC (.str [97, 45, 45, 98])) (dCons (dC (.str [97, 47, 98, 47, 99, 47, 100, 47, 101])) (dCons (dC (.str [97, 98, 99, 100, 101, 102, 103, 104, 105, 106, 107, 108, 109])) (dCons (dC (.str [65])) dNil))))))))))) (gNm 5)
    b_law_k32_l1)
   (sIf (dOr (isB (dBin (eqD true) (dCall m_law_read (dCons (dC (.str [])) dNil)) (dTup dNil))) (dOr (isB (dBin (eqD true) (dCall m_rows_text (dCons (dTup dNil) dNil)) (dC (.str [])))) (isB (dBin (eqD true) (dCall m_law_read (dCons (dC (.str [122, 122, 47, 122, 32, 122, 10])) dNil)) (dTup (dCons (dTup (dCons (dTup (dCons (dC (.str [122, 122])) (dCons (dC (.str [122])) dNil))) (dCons (dTup (dCons (dC (.str [122])) dNil)) dNil))) dNil))))))
    (sRet (dC (.bl false)))
    sNil))))))))))
def b_law_k32 : SS :=
  (sSeq (sSet 1 (dLst dNil))
  (sSeq (sFor (iRng1 (dCons (dC (.int 8)) dNil)) (gNm 2)
   b_law_k32_l4)
  (sRet (dC (.bl true)))))
def m_law_k32 : Fn := gcF (runF 12 1 b_law_k32)
end
end DL


set_option maxRecDepth 100000
namespace DL
open PySem PySem.Spec PyProof.Rows L2
noncomputable section
def b_law_name_2_l1 : SS :=
  (sSeq (sSet 4 (dCall m_law_pick_2 (dCons (dVar 0) (dCons (dVar 1) (dCons (dC (.str [97, 98, 122, 48, 57, 45])) dNil)))))
   (sSet 2 (dBin addD (dVar 2) (dIf (dOr (isB (dBin (eqD true) (dVar 4) (dC (.str [45])))) (isB (dBin (eqD true) (dBin ixD (dVar 2) (dUn negD (dC (.int 1)))) (dC (.str [45]))))) (dVar 4) (dC (.str [113]))))))
def b_law_name_2 : SS :=
  (sSeq (sSet 2 (dCall m_law_pick_2 (dCons (dVar 0) (dCons (dVar 1) (dCons (dC (.str [97, 98, 122, 48, 57])) dNil)))))
  (sSeq (sFor (iRng1 (dCons (dCall m_law_draw_2 (dCons (dVar 0) (dCons (dVar 1) (dCons (dC (.int 12)) dNil)))) dNil)) (gNm 3)
   b_law_name_2_l1)
  (sRet (dOrV (dMt gStr (mS1 Txt.rstripChars) (dVar 2) (dCons (dC (.str [45])) dNil)) (dC (.str [97]))))))
def m_law_name_2 : Fn := gcF (runF 5 2 b_law_name_2)
def b_law_is_name_2_c1 : SE :=
  dComp (iSeq (dVar 1)) (gNm 2) bYes (dAndV (dBin (eqD true) (dVar 2) (dC (.str []))) (dBin (eqD false) (dMt gStr (mS1 Txt.stripChars) (dVar 2) (dCons (dC (.str [97, 98, 99, 100, 101, 102, 103, 104, 105, 106, 107, 108, 109, 110, 111, 112, 113, 114, 115, 116, 117, 118, 119, 120, 121, 122, 48, 49, 50, 51, 52, 53, 54, 55, 56, 57])) dNil)) (dC (.str [])))) [2]
def b_law_is_name_2 : SS :=
  (sSeq (sIf (dOr (dNot (dTru (dIsi "str" (dVar 0)))) (dNot (isB (dChn leD leD (dC (.int 1)) (dCallB lenL (dCons (dVar 0) dNil)) (dC (.int 12))))))
   (sRet (dC (.bl false)))
   sNil)
  (sSeq (sSet 1 (dMt gStr mSplit (dVar 0) (dCons (dC (.str [45])) dNil)))
  (sRet (dCallB allL (dCons b_law_is_name_2_c1 dNil)))))
def m_law_is_name_2 : Fn := gcF (runF 3 1 b_law_is_name_2)
def b_law_is_title_2 : SS :=
  (sRet (dAndV (dIsi "str" (dVar 0)) (dAndV (dChn leD leD (dC (.int 1)) (dCallB lenL (dCons (dVar 0) dNil)) (dC (.int 30))) (dBin (eqD false) (dMt gStr (mS1 Txt.stripChars) (dVar 0) (dCons (dC (.str [32])) dNil)) (dVar 0)))))
def m_law_is_title_2 : Fn := gcF (runF 1 1 b_law_is_title_2)
def b_law_is_address_2_c1 : SE :=
  dComp (iSeq (dVar 0)) (gNm 1) bYes (dCall m_law_is_name_2 (dCons (dVar 1) dNil)) [1]
def b_law_is_address_2 : SS :=
  (sRet (dAndV (dIsi "tuple" (dVar 0)) (dAndV (dChn leD leD (dC (.int 1)) (dCallB lenL (dCons (dVar 0) dNil)) (dC (.int 4))) (dCallB allL (dCons b_law_is_address_2_c1 dNil)))))
def m_law_is_address_2 : Fn := gcF (runF 2 1 b_law_is_address_2)
def b_law_are_rows_c1 : SE :=
  dComp (iSeq (dVar 0)) (gNm 1) bYes (dTup (dCons (dBin ixE (dVar 1) (dC (.int 0))) (dCons (dC (.int 0)) dNil))) [1]
def b_law_are_rows_l1 : SS :=
  (sIf (dOr (dNot (dTru (dIsi "tuple" (dVar 1)))) (dOr (isB (dBin (eqD true) (dCallB lenE (dCons (dVar 1) dNil)) (dC (.int 2)))) (dOr (dNot (dTru (dCall m_law_is_address_2 (dCons (dBin ixE (dVar 1) (dC (.int 0))) dNil)))) (dNot (dTru (dCall m_law_is_address_2 (dCons (dBin ixE (dVar 1) (dC (.int 1))) dNil)))))))
    (sRet (dC (.bl false)))
    sNil)
def b_law_are_rows : SS :=
  (sSeq (sIf (dNot (dTru (dIsi "tuple" (dVar 0))))
   (sRet (dC (.bl false)))
   sNil)
  (sSeq (sFor (iSeq (dVar 0)) (gNm 1)
   b_law_are_rows_l1)
  (sRet (dBin (eqD false) (dCallB lenE (dCons (dCallB (dictL true) (dCons b_law_are_rows_c1 dNil)) dNil)) (dCallB lenE (dCons (dVar 0) dNil))))))
def m_law_are_rows : Fn := gcF (runF 2 1 b_law_are_rows)
def b_law_texts_c1 : SE :=
  dComp (iSeq (dTup (dCons (dC (.str [45])) (dCons (dC (.str [45, 45])) (dCons (dC (.str [65])) (dCons (dC (.str [32])) (dCons (dC (.str [95])) (dCons (dC (.str [122])) (dCons (dC (.str [97, 98, 99, 100, 101, 102, 103, 104, 105, 106, 107, 108])) (dCons (dBin mulD (dC (.str [120])) (dC (.int 30))) dNil)))))))))) (gNm 5) bYes (dBin addD (dBin addD (dSl (dVar 2) none (some (dVar 3))) (dVar 5)) (dSl (dVar 2) (some (dVar 3)) none)) [5]
def b_law_texts : SS :=
  (sSeq (sSet 3 (dCall m_law_draw_2 (dCons (dVar 0) (dCons (dVar 1) (dCons (dBin addD (dCallB lenL (dCons (dVar 2) dNil)) (dC (.int 1))) dNil)))))
  (sSeq (sSet 4 b_law_texts_c1)
  (sRet (dBin addD (dVar 4) (dLst (dCons (dSl (dVar 2) (some (dC (.int 1))) none) (dCons (dSl (dVar 2) none (some (dUn negD (dC (.int 1))))) (dCons (dC (.str [])) (dCons (dBin addD (dVar 2) (dVar 2)) (dCons (dC .non) (dCons (dC (.int 7)) (dCons (dC (.bl true)) (dCons (dTup (dCons (dVar 2) dNil)) (dCons (dLst (dCons (dVar 2) dNil)) dNil))))))))))))))
def m_law_texts : Fn := gcF (runF 6 3 b_law_texts)
def b_law_bent_l1 : SS :=
  (sDrop (dMt gLst mAppend (dVar 3) (dCons (dBin addD (dBin addD (dSl (dVar 2) none (some (dVar 4))) (dTup (dCons (dVar 6) dNil))) (dSl (dVar 2) (some (dBin addD (dVar 4) (dC (.int 1)))) none)) dNil)))
def b_law_bent_l2 (rc : Fn) : SS :=
  (sFor (iSeq (dSl (dCall rc (dCons (dVar 0) (dCons (dVar 1) (dCons (dVar 5) dNil)))) none (some (dC (.int 12))))) (gNm 6)
    b_law_bent_l1)
def b_law_bent (rc : Fn) : SS :=
  (sSeq (sIf (dNot (dTru (dIsi "tuple" (dVar 2))))
   (sRet (dCall m_law_texts (dCons (dVar 0) (dCons (dVar 1) (dCons (dVar 2) dNil)))))
   sNil)
  (sSeq (sSet 3 (dLst (dCons (dCallB listL (dCons (dVar 2) dNil)) (dCons (dUn revD (dVar 2)) (dCons (dSl (dVar 2) (some (dC (.int 1))) none) (dCons (dBin addD (dVar 2) (dSl (dVar 2) none (some (dC (.int 1))))) (dCons (dTup (dCons (dVar 2) dNil)) (dCons (dC .non) (dCons (dTup dNil) (dCons (dBin addD (dVar 2) (dTup (dCons (dC .non) dNil))) (dCons (dBin mulD (dVar 2) (dC (.int 3))) dNil)))))))))))
  (sSeq (sFor (iEa (dCons (dVar 2) dNil)) (gTp 2 (gsCons (gNm 4) (gsCons (gNm 5) gsNil)))
   (b_law_bent_l2 rc))
  (sRet (dVar 3)))))
def m_law_bent_ : Nat → Fn
  | 0 => fun _ _ => .bad
  | k + 1 => gcF (runF 7 3 (b_law_bent (m_law_bent_ k)))
def m_law_bent : Fn := m_law_bent_ 4
def b_law_hold : SS :=
  (sSeq (sIf (dOr (isB (dBin (eqD true) (dCall m_is_name (dCons (dVar 0) dNil)) (dCall m_law_is_name_2 (dCons (dVar 0) dNil)))) (isB (dBin (eqD true) (dCall m_is_title (dCons (dVar 0) dNil)) (dCall m_law_is_title_2 (dCons (dVar 0) dNil)))))
   (sRet (dC (.bl false)))
   sNil)
  (sRet (dAndV (dBin (eqD false) (dCall m_is_address (dCons (dVar 0) dNil)) (dCall m_law_is_address_2 (dCons (dVar 0) dNil))) (dBin (eqD false) (dCall m_are_rows (dCons (dVar 0) dNil)) (dCall m_law_are_rows (dCons (dVar 0) dNil))))))
def m_law_hold : Fn := gcF (runF 1 1 b_law_hold)
def b_law_k34_l1 : SS :=
  (sIf (dOr (isB (dBin (eqD true) (dCall m_is_name (dCons (dBin mulD (dC (.str [120])) (dVar 9)) dNil)) (dBin leD (dVar 9) (dC (.int 12))))) (isB (dBin (eqD true) (dCall m_is_title (dCons (dBin mulD (dC (.str [88])) (dVar 9)) dNil)) (dBin leD (dVar 9) (dC (.int 30))))))
     (sRet (dC (.bl false)))
     sNil)
def b_law_k34_l2 : SS :=
  (sIf (isB (dBin (eqD true) (dCall m_is_title (dCons (dVar 7) dNil)) (dCall m_law_is_title_2 (dCons (dVar 7) dNil))))
     (sRet (dC (.bl false)))
     sNil)
def b_law_k34_l3 : SS :=
  (sIf (dNot (dTru (dCall m_law_hold (dCons (dVar 7) dNil))))
     (sRet (dC (.bl false)))
     sNil)
def b_law_k34_c1 : SE :=
  dComp (iRng1 (dCons (dBin addD (dC (.int 1)) (dCall m_law_draw_2 (dCons (dVar 0) (dCons (dVar 1) (dCons (dC (.int 4)) dNil))))) dNil)) (gNm 10) bYes (dCall m_law_name_2 (dCons (dVar 0) (dCons (dVar 1) dNil))) [10]
def b_law_k34_l4 : SS :=
  (sSeq (sSet 3 (dCall m_law_name_2 (dCons (dVar 0) (dCons (dVar 1) dNil))))
   (sSeq (sSet 4 (dCallB tupleL (dCons b_law_k34_c1 dNil)))
   (sSeq (sSet 5 (dTup (dCons (dTup (dCons (dVar 4) (dCons (dTup (dCons (dVar 3) dNil)) dNil))) (dCons (dTup (dCons (dTup (dCons (dVar 3) (dCons (dVar 3) dNil))) (dCons (dVar 4) dNil))) dNil))))
   (sSeq (sIf (dOr (dNot (dTru (dCall m_is_name (dCons (dVar 3) dNil)))) (dOr (dNot (dTru (dCall m_is_title (dCons (dVar 3) dNil)))) (dNot (dTru (dCall m_is_address (dCons (dTup (dCons (dVar 3) dNil)) dNil))))))
    (sRet (dC (.bl false)))
    sNil)
   (sSeq (sIf (dOr (dTru (dCall m_is_address (dCons (dVar 3) dNil))) (dNot (dTru (dCall m_is_address (dCons (dVar 4) dNil)))))
    (sRet (dC (.bl false)))
    sNil)
   (sSeq (sIf (isB (dBin (eqD true) (dCall m_are_rows (dCons (dVar 5) dNil)) (dBin (eqD true) (dVar 4) (dTup (dCons (dVar 3) (dCons (dVar 3) dNil))))))
    (sRet (dC (.bl false)))
    sNil)
   (sSeq (sSet 6 (dBin addD (dCall m_law_texts (dCons (dVar 0) (dCons (dVar 1) (dCons (dVar 3) dNil)))) (dCall m_law_bent (dCons (dVar 0) (dCons (dVar 1) (dCons (dVar 4) dNil))))))
   (sSeq (sFor (iSeq (dBin addD (dVar 6) (dSl (dCall m_law_bent (dCons (dVar 0) (dCons (dVar 1) (dCons (dVar 5) dNil)))) none (some (dC (.int 60)))))) (gNm 7)
    b_law_k34_l3)
   (sSeq (sSet 8 (dBin addD (dBin addD (dVar 3) (dC (.str [32]))) (dCall m_law_name_2 (dCons (dVar 0) (dCons (dVar 1) dNil)))))
   (sSeq (sFor (iSeq (dCall m_law_texts (dCons (dVar 0) (dCons (dVar 1) (dCons (dVar 8) dNil))))) (gNm 7)
    b_law_k34_l2)
   (sFor (iSeq (dTup (dCons (dC (.int 1)) (dCons (dC (.int 12)) (dCons (dC (.int 13)) (dCons (dC (.int 30)) (dCons (dC (.int 31)) dNil))))))) (gNm 9)
    b_law_k34_l1)))))))))))
def b_law_k34 : SS :=
  (sSeq (sSet 1 (dLst dNil))
  (sSeq (sFor (iRng1 (dCons (dC (.int 4)) dNil)) (gNm 2)
   b_law_k34_l4)
  (sRet (dC (.bl true)))))
def m_law_k34 : Fn := gcF (runF 11 1 b_law_k34)
end
end DL


set_option maxRecDepth 100000
set_option maxHeartbeats 0
namespace DL.K34
open PySem PySem.Spec PyProof.Rows L2 DL
/-! ### the text -/
def topS (i : Nat) : Stmt := PySem.Challenge.pw_pagenames_k34_whole_things_bent.main.body.getD i (.Pass ⟨0, 0, 0, 0⟩)
abbrev st_is_name : Stmt := topS 5
def d_is_name : He.DefD := ⟨("is_name", none), "is_name", "is_name", defArgs st_is_name, defBody st_is_name, defScope st_is_name, [], []⟩
theorem sc_is_name : FnScope ["thing", "sign"] ["thing"] (defScope st_is_name) := ⟨rfl, rfl, rfl, by decide +kernel, rfl, by decide +kernel, by decide +kernel⟩
abbrev st_is_title : Stmt := topS 6
def d_is_title : He.DefD := ⟨("is_title", none), "is_title", "is_title", defArgs st_is_title, defBody st_is_title, defScope st_is_title, [], []⟩
theorem sc_is_title : FnScope ["thing", "sign"] ["thing"] (defScope st_is_title) := ⟨rfl, rfl, rfl, by decide +kernel, rfl, by decide +kernel, by decide +kernel⟩
abbrev st_is_address : Stmt := topS 9
def d_is_address : He.DefD := ⟨("is_address", none), "is_address", "is_address", defArgs st_is_address, defBody st_is_address, defScope st_is_address, [], []⟩
theorem sc_is_address : FnScope ["thing", "one"] ["thing"] (defScope st_is_address) := ⟨rfl, rfl, rfl, by decide +kernel, rfl, by decide +kernel, by decide +kernel⟩
abbrev st_are_rows : Stmt := topS 11
def d_are_rows : He.DefD := ⟨("are_rows", none), "are_rows", "are_rows", defArgs st_are_rows, defBody st_are_rows, defScope st_are_rows, [], []⟩
theorem sc_are_rows : FnScope ["thing", "row"] ["thing"] (defScope st_are_rows) := ⟨rfl, rfl, rfl, by decide +kernel, rfl, by decide +kernel, by decide +kernel⟩
abbrev st_law_draw : Stmt := topS 13
def d_law_draw : He.DefD := ⟨("_law_draw", none), "_law_draw", "_law_draw", defArgs st_law_draw, defBody st_law_draw, defScope st_law_draw, [], []⟩
theorem sc_law_draw : FnScope ["_law_script", "_law_town", "_law_many", "_law_k", "_law_cell", "_law_number", "_law_more"] ["_law_script", "_law_town", "_law_many"] (defScope st_law_draw) := ⟨rfl, rfl, rfl, by decide +kernel, rfl, by decide +kernel, by decide +kernel⟩
abbrev st_law_pick : Stmt := topS 14
def d_law_pick : He.DefD := ⟨("_law_pick", none), "_law_pick", "_law_pick", defArgs st_law_pick, defBody st_law_pick, defScope st_law_pick, [], []⟩
theorem sc_law_pick : FnScope ["_law_script", "_law_town", "_law_some"] ["_law_script", "_law_town", "_law_some"] (defScope st_law_pick) := ⟨rfl, rfl, rfl, by decide +kernel, rfl, by decide +kernel, by decide +kernel⟩
abbrev st_law_name : Stmt := topS 15
def d_law_name : He.DefD := ⟨("_law_name", none), "_law_name", "_law_name", defArgs st_law_name, defBody st_law_name, defScope st_law_name, [], []⟩
theorem sc_law_name : FnScope ["_law_script", "_law_town", "_law_found", "_law_k", "_law_sign"] ["_law_script", "_law_town"] (defScope st_law_name) := ⟨rfl, rfl, rfl, by decide +kernel, rfl, by decide +kernel, by decide +kernel⟩
abbrev st_law_is_name : Stmt := topS 16
def d_law_is_name : He.DefD := ⟨("_law_is_name", none), "_law_is_name", "_law_is_name", defArgs st_law_is_name, defBody st_law_is_name, defScope st_law_is_name, [], []⟩
theorem sc_law_is_name : FnScope ["_law_thing", "_law_words", "_law_word"] ["_law_thing"] (defScope st_law_is_name) := ⟨rfl, rfl, rfl, by decide +kernel, rfl, by decide +kernel, by decide +kernel⟩
abbrev st_law_is_title : Stmt := topS 17
def d_law_is_title : He.DefD := ⟨("_law_is_title", none), "_law_is_title", "_law_is_title", defArgs st_law_is_title, defBody st_law_is_title, defScope st_law_is_title, [], []⟩
theorem sc_law_is_title : FnScope ["_law_thing"] ["_law_thing"] (defScope st_law_is_title) := ⟨rfl, rfl, rfl, by decide +kernel, rfl, by decide +kernel, by decide +kernel⟩
abbrev st_law_is_address : Stmt := topS 18
def d_law_is_address : He.DefD := ⟨("_law_is_address", none), "_law_is_address", "_law_is_address", defArgs st_law_is_address, defBody st_law_is_address, defScope st_law_is_address, [], []⟩
theorem sc_law_is_address : FnScope ["_law_thing", "_law_one"] ["_law_thing"] (defScope st_law_is_address) := ⟨rfl, rfl, rfl, by decide +kernel, rfl, by decide +kernel, by decide +kernel⟩
abbrev st_law_are_rows : Stmt := topS 19
def d_law_are_rows : He.DefD := ⟨("_law_are_rows", none), "_law_are_rows", "_law_are_rows", defArgs st_law_are_rows, defBody st_law_are_rows, defScope st_law_are_rows, [], []⟩
theorem sc_law_are_rows : FnScope ["_law_thing", "_law_row"] ["_law_thing"] (defScope st_law_are_rows) := ⟨rfl, rfl, rfl, by decide +kernel, rfl, by decide +kernel, by decide +kernel⟩
abbrev st_law_texts : Stmt := topS 20
def d_law_texts : He.DefD := ⟨("_law_texts", none), "_law_texts", "_law_texts", defArgs st_law_texts, defBody st_law_texts, defScope st_law_texts, [], []⟩
theorem sc_law_texts : FnScope ["_law_script", "_law_town", "_law_text", "_law_at", "_law_found", "_law_sign"] ["_law_script", "_law_town", "_law_text"] (defScope st_law_texts) := ⟨rfl, rfl, rfl, by decide +kernel, rfl, by decide +kernel, by decide +kernel⟩
abbrev st_law_bent : Stmt := topS 21
def d_law_bent : He.DefD := ⟨("_law_bent", none), "_law_bent", "_law_bent", defArgs st_law_bent, defBody st_law_bent, defScope st_law_bent, [], []⟩
theorem sc_law_bent : FnScope ["_law_script", "_law_town", "_law_thing", "_law_found", "_law_at", "_law_part", "_law_bad"] ["_law_script", "_law_town", "_law_thing"] (defScope st_law_bent) := ⟨rfl, rfl, rfl, by decide +kernel, rfl, by decide +kernel, by decide +kernel⟩
abbrev st_law_hold : Stmt := topS 22
def d_law_hold : He.DefD := ⟨("_law_hold", none), "_law_hold", "_law_hold", defArgs st_law_hold, defBody st_law_hold, defScope st_law_hold, [], []⟩
theorem sc_law_hold : FnScope ["_law_thing"] ["_law_thing"] (defScope st_law_hold) := ⟨rfl, rfl, rfl, by decide +kernel, rfl, by decide +kernel, by decide +kernel⟩
abbrev st_law : Stmt := topS 23
def d_law : He.DefD := ⟨("law", none), "law", "law", defArgs st_law, defBody st_law, defScope st_law, [], []⟩
theorem sc_law : FnScope ["_law_script", "_law_town", "_law_k", "_law_name_here", "_law_address", "_law_rows", "_law_bads", "_law_bad", "_law_title", "_law_size", "_law_j"] ["_law_script"] (defScope st_law) := ⟨rfl, rfl, rfl, by decide +kernel, rfl, by decide +kernel, by decide +kernel⟩
def fn : List He.DefD := [d_is_name, d_is_title, d_is_address, d_are_rows, d_law_draw, d_law_pick, d_law_name, d_law_is_name, d_law_is_title, d_law_is_address, d_law_are_rows, d_law_texts, d_law_bent, d_law_hold, d_law]
def fa : List He.Fa := [.str "LETTERS" "abcdefghijklmnopqrstuvwxyz", .str "FIGURES" "0123456789", .free "all", .free "isinstance", .free "str", .free "len", .int "NAME_MOST" 12, .int "TITLE_MOST" 30, .free "tuple", .int "DEEP_MOST" 4, .glo "is_name", .free "set", .glo "is_address", .glo "_law_draw", .free "range", .glo "_law_pick", .glo "_law_is_name", .free "dict", .glo "_law_is_address", .free "enumerate", .glo "_law_bent", .free "list", .glo "_law_texts", .glo "are_rows", .glo "_law_are_rows", .glo "is_title", .glo "_law_is_title", .glo "_law_name", .glo "_law_hold", .glo "law"]
section
variable {K : PySem.W.Frag} {mg : Str → Option Value} {h : Heap}
theorem ok_is_name (c : He.SaysD fa fn K) (KX : K.In h) (G : h.Ns mainGlobals mg) : OkF K mg (He.ga K "is_name") 1 ["thing"] m_is_name := by
  refine okF_mk (c.def_ 0 (d := d_is_name) rfl) sc_is_name (fun _ _ _ _ _ _ us hl => match us, hl with | [_], _ => rfl) (fun P w base cdv A outer s H E hr tk hp => ?_)
  exact (show DSs _ _ _ b_is_name from (dss_cons (ds_if (DW.dt (dw_or (dt_not (dt_tru (de_isi (de_var 0) rfl (He.free_ok KX G (c.fact 3 (f := .free "isinstance") rfl)) rfl (He.free_ok KX G (c.fact 4 (f := .free "str") rfl)) (by decide +kernel)))) (dw_or1 (dt_not (dt_chain opr_le opr_le de_int (de_callB callr_len rfl (He.free_ok KX G (c.fact 5 (f := .free "len") rfl)) (by decide +kernel) (da_cons (de_var 0) da_nil)) (de_gint rfl (He.int_ok KX G (c.fact 6 (f := .int "NAME_MOST" 12) rfl))))))))
   (dss_one (ds_ret de_bl))
   dss_nil)
  (dss_cons (ds_if (dt_not (dt_tru (de_callB (callr_all rfl) rfl (He.free_ok KX G (c.fact 2 (f := .free "all") rfl)) (by decide +kernel) (da_cons (de_lc (own := [("sign", 1)]) rfl sc_is_name.nd (di_seq (de_var 0)) (blkOk_by (by kernel_rfl)) (fun _ _ _ _ _ => (dg_nm 1 sc_is_name.nd)) (fun _ _ _ _ _ => dts_nil) (fun _ _ _ _ _ => (de_cmp (opr_in hr.units) (de_var 1) (de_bin opr_add (de_bin opr_add (de_gstr rfl (He.str_ok KX G (c.fact 0 (f := .str "LETTERS" "abcdefghijklmnopqrstuvwxyz") rfl)) (by kernel_rfl)) (de_gstr rfl (He.str_ok KX G (c.fact 1 (f := .str "FIGURES" "0123456789") rfl)) (by kernel_rfl))) (de_str (by kernel_rfl)))))) da_nil))))
   (dss_one (ds_ret de_bl))
   dss_nil)
  (dss_one (ds_ret (de_and (de_cmp (opr_ne hr.units) (de_ix (de_var 0) de_int) (de_str (by kernel_rfl))) (de_and (de_cmp (opr_ne hr.units) (de_ix (de_var 0) (de_un unr_neg de_int)) (de_str (by kernel_rfl))) (de_one (de_cmp (opr_notIn hr.units) (de_str (by kernel_rfl)) (de_var 0))))))))))
theorem ok_is_title (c : He.SaysD fa fn K) (KX : K.In h) (G : h.Ns mainGlobals mg) : OkF K mg (He.ga K "is_title") 1 ["thing"] m_is_title := by
  refine okF_mk (c.def_ 1 (d := d_is_title) rfl) sc_is_title (fun _ _ _ _ _ _ us hl => match us, hl with | [_], _ => rfl) (fun P w base cdv A outer s H E hr tk hp => ?_)
  exact (show DSs _ _ _ b_is_title from (dss_cons (ds_if (DW.dt (dw_or (dt_not (dt_tru (de_isi (de_var 0) rfl (He.free_ok KX G (c.fact 3 (f := .free "isinstance") rfl)) rfl (He.free_ok KX G (c.fact 4 (f := .free "str") rfl)) (by decide +kernel)))) (dw_or1 (dt_not (dt_chain opr_le opr_le de_int (de_callB callr_len rfl (He.free_ok KX G (c.fact 5 (f := .free "len") rfl)) (by decide +kernel) (da_cons (de_var 0) da_nil)) (de_gint rfl (He.int_ok KX G (c.fact 7 (f := .int "TITLE_MOST" 30) rfl))))))))
   (dss_one (ds_ret de_bl))
   dss_nil)
  (dss_one (ds_ret (de_and (de_callB (callr_all rfl) rfl (He.free_ok KX G (c.fact 2 (f := .free "all") rfl)) (by decide +kernel) (da_cons (de_lc (own := [("sign", 1)]) rfl sc_is_title.nd (di_seq (de_var 0)) (blkOk_by (by kernel_rfl)) (fun _ _ _ _ _ => (dg_nm 1 sc_is_title.nd)) (fun _ _ _ _ _ => dts_nil) (fun _ _ _ _ _ => (de_chain opr_le opr_le (de_str (by kernel_rfl)) (de_var 1) (de_str (by kernel_rfl))))) da_nil)) (de_and (de_cmp (opr_ne hr.units) (de_ix (de_var 0) de_int) (de_str (by kernel_rfl))) (de_one (de_cmp (opr_ne hr.units) (de_ix (de_var 0) (de_un unr_neg de_int)) (de_str (by kernel_rfl))))))))))
theorem ok_is_address (c : He.SaysD fa fn K) (KX : K.In h) (G : h.Ns mainGlobals mg) : OkF K mg (He.ga K "is_address") 2 ["thing"] m_is_address := by
  refine okF_mk (c.def_ 2 (d := d_is_address) rfl) sc_is_address (fun _ _ _ _ _ _ us hl => match us, hl with | [_], _ => rfl) (fun P w base cdv A outer s H E hr tk hp => ?_)
  exact (show DSs _ _ _ b_is_address from (dss_one (ds_ret (de_and (de_isi (de_var 0) rfl (He.free_ok KX G (c.fact 3 (f := .free "isinstance") rfl)) rfl (He.free_ok KX G (c.fact 8 (f := .free "tuple") rfl)) (by decide +kernel)) (de_and (de_chain opr_le opr_le de_int (de_callB callr_len rfl (He.free_ok KX G (c.fact 5 (f := .free "len") rfl)) (by decide +kernel) (da_cons (de_var 0) da_nil)) (de_gint rfl (He.int_ok KX G (c.fact 9 (f := .int "DEEP_MOST" 4) rfl)))) (de_one (de_callB (callr_all rfl) rfl (He.free_ok KX G (c.fact 2 (f := .free "all") rfl)) (by decide +kernel) (da_cons (de_lc (own := [("one", 1)]) rfl sc_is_address.nd (di_seq (de_var 0)) (blkOk_by (by kernel_rfl)) (fun _ _ _ _ _ => (dg_nm 1 sc_is_address.nd)) (fun _ _ _ _ _ => dts_nil) (fun _ _ _ _ _ => (de_callF takes0 (ok_is_name c KX G) hr (by decide) rfl (He.glo_ok KX G (c.fact 10 (f := .glo "is_name") rfl)) (da_cons (de_var 1) da_nil)))) da_nil))))))))
theorem ok_are_rows (c : He.SaysD fa fn K) (KX : K.In h) (G : h.Ns mainGlobals mg) : OkF K mg (He.ga K "are_rows") 3 ["thing"] m_are_rows := by
  refine okF_mk (c.def_ 3 (d := d_are_rows) rfl) sc_are_rows (fun _ _ _ _ _ _ us hl => match us, hl with | [_], _ => rfl) (fun P w base cdv A outer s H E hr tk hp => ?_)
  exact (show DSs _ _ _ b_are_rows from (dss_cons (ds_if (DW.dt (dw_or (dt_not (dt_tru (de_isi (de_var 0) rfl (He.free_ok KX G (c.fact 3 (f := .free "isinstance") rfl)) rfl (He.free_ok KX G (c.fact 8 (f := .free "tuple") rfl)) (by decide +kernel)))) (dw_or1 (dt_not (dt_tru (de_callB (callr_all rfl) rfl (He.free_ok KX G (c.fact 2 (f := .free "all") rfl)) (by decide +kernel) (da_cons (de_lc (own := [("row", 1)]) rfl sc_are_rows.nd (di_seq (de_var 0)) (blkOk_by (by kernel_rfl)) (fun _ _ _ _ _ => (dg_nm 1 sc_are_rows.nd)) (fun _ _ _ _ _ => dts_nil) (fun _ _ _ _ _ => (de_and (de_isi (de_var 1) rfl (He.free_ok KX G (c.fact 3 (f := .free "isinstance") rfl)) rfl (He.free_ok KX G (c.fact 8 (f := .free "tuple") rfl)) (by decide +kernel)) (de_one (de_cmp (opr_eq hr.units) (de_callB callr_len rfl (He.free_ok KX G (c.fact 5 (f := .free "len") rfl)) (by decide +kernel) (da_cons (de_var 1) da_nil)) de_int))))) da_nil)))))))
   (dss_one (ds_ret de_bl))
   dss_nil)
  (dss_cons (ds_if (dt_not (dt_tru (de_callB (callr_all rfl) rfl (He.free_ok KX G (c.fact 2 (f := .free "all") rfl)) (by decide +kernel) (da_cons (de_lc (own := [("row", 1)]) rfl sc_are_rows.nd (di_seq (de_var 0)) (blkOk_by (by kernel_rfl)) (fun _ _ _ _ _ => (dg_nm 1 sc_are_rows.nd)) (fun _ _ _ _ _ => dts_nil) (fun _ _ _ _ _ => (de_and (de_callF takes0 (ok_is_address c KX G) hr (by decide) rfl (He.glo_ok KX G (c.fact 12 (f := .glo "is_address") rfl)) (da_cons (de_ix (de_var 1) de_int) da_nil)) (de_one (de_callF takes0 (ok_is_address c KX G) hr (by decide) rfl (He.glo_ok KX G (c.fact 12 (f := .glo "is_address") rfl)) (da_cons (de_ix (de_var 1) de_int) da_nil)))))) da_nil))))
   (dss_one (ds_ret de_bl))
   dss_nil)
  (dss_one (ds_ret (de_cmp (opr_eq hr.units) (de_lenSet rfl hr.units rfl (He.free_ok KX G (c.fact 5 (f := .free "len") rfl)) rfl (He.free_ok KX G (c.fact 11 (f := .free "set") rfl)) (da_cons (de_lc (own := [("row", 1)]) rfl sc_are_rows.nd (di_seq (de_var 0)) (blkOk_by (by kernel_rfl)) (fun _ _ _ _ _ => (dg_nm 1 sc_are_rows.nd)) (fun _ _ _ _ _ => dts_nil) (fun _ _ _ _ _ => (de_ix (de_var 1) de_int))) da_nil) (by decide +kernel) (by decide +kernel)) (de_callB callr_len rfl (He.free_ok KX G (c.fact 5 (f := .free "len") rfl)) (by decide +kernel) (da_cons (de_var 0) da_nil))))))))
theorem ok_law_draw (c : He.SaysD fa fn K) (KX : K.In h) (G : h.Ns mainGlobals mg) : OkF K mg (He.ga K "_law_draw") 1 ["_law_script", "_law_town", "_law_many"] m_law_draw_2 := by
  refine okF_mk (c.def_ 4 (d := d_law_draw) rfl) sc_law_draw (fun _ _ _ _ _ _ us hl => match us, hl with | [_, _, _], _ => rfl) (fun P w base cdv A outer s H E hr tk hp => ?_)
  exact (show DSs _ _ _ b_law_draw_2 from (dss_cons (ds_expr (de_mt guard_lst PySem.F.plainAttrs_list PySem.F.slot_list_append PySem.F.type_list_append mt_appendD (de_var 1) (da_cons de_int da_nil)))
  (dss_cons (ds_set 3 sc_law_draw.nd (de_callB callr_len rfl (He.free_ok KX G (c.fact 5 (f := .free "len") rfl)) (by decide +kernel) (da_cons (de_var 1) da_nil)))
  (dss_cons (ds_set 4 sc_law_draw.nd de_int)
  (dss_cons (ds_if (dt_tru (de_var 0))
   (dss_one (ds_set 4 sc_law_draw.nd (de_ix (de_var 0) (de_bin opr_mod (de_var 3) (de_callB callr_len rfl (He.free_ok KX G (c.fact 5 (f := .free "len") rfl)) (by decide +kernel) (da_cons (de_var 0) da_nil))))))
   dss_nil)
  (dss_cons (ds_set 5 sc_law_draw.nd (de_bin opr_mod (de_bin opr_add (de_var 4) (de_bin opr_mul de_int (de_var 3))) de_int))
  (dss_cons (ds_set 5 sc_law_draw.nd (de_bin opr_mod (de_bin opr_mul (de_bin opr_mod (de_bin opr_mul (de_var 5) (de_var 5)) de_int) de_int) de_int))
  (dss_cons (ds_set 6 sc_law_draw.nd (de_bin opr_mod (de_bin opr_mul (de_bin opr_mod (de_bin opr_mul (de_var 5) (de_var 5)) de_int) de_int) de_int))
  (dss_one (ds_ret (de_bin opr_mod (de_bin opr_add (de_bin opr_mul (de_bin opr_fdiv (de_var 5) de_int) de_int) (de_bin opr_fdiv (de_var 6) de_int)) (de_var 2))))))))))))
theorem ok_law_pick (c : He.SaysD fa fn K) (KX : K.In h) (G : h.Ns mainGlobals mg) : OkF K mg (He.ga K "_law_pick") 2 ["_law_script", "_law_town", "_law_some"] m_law_pick_2 := by
  refine okF_mk (c.def_ 5 (d := d_law_pick) rfl) sc_law_pick (fun _ _ _ _ _ _ us hl => match us, hl with | [_, _, _], _ => rfl) (fun P w base cdv A outer s H E hr tk hp => ?_)
  exact (show DSs _ _ _ b_law_pick_2 from (dss_one (ds_ret (de_ix (de_var 2) (de_callF tk (ok_law_draw c KX G) hr (by decide) rfl (He.glo_ok KX G (c.fact 13 (f := .glo "_law_draw") rfl)) (da_cons (de_var 0) (da_cons (de_var 1) (da_cons (de_callB callr_len rfl (He.free_ok KX G (c.fact 5 (f := .free "len") rfl)) (by decide +kernel) (da_cons (de_var 2) da_nil)) da_nil))))))))
theorem ok_law_name (c : He.SaysD fa fn K) (KX : K.In h) (G : h.Ns mainGlobals mg) : OkF K mg (He.ga K "_law_name") 3 ["_law_script", "_law_town"] m_law_name_2 := by
  refine okF_mk (c.def_ 6 (d := d_law_name) rfl) sc_law_name (fun _ _ _ _ _ _ us hl => match us, hl with | [_, _], _ => rfl) (fun P w base cdv A outer s H E hr tk hp => ?_)
  exact (show DSs _ _ _ b_law_name_2 from (dss_cons (ds_set 2 sc_law_name.nd (de_callF tk (ok_law_pick c KX G) hr (by decide) rfl (He.glo_ok KX G (c.fact 15 (f := .glo "_law_pick") rfl)) (da_cons (de_var 0) (da_cons (de_var 1) (da_cons (de_str (by kernel_rfl)) da_nil)))))
  (dss_cons (ds_for hp rfl (di_rng1 rfl (He.free_ok KX G (c.fact 14 (f := .free "range") rfl)) (da_cons (de_callF tk (ok_law_draw c KX G) hr (by decide) rfl (He.glo_ok KX G (c.fact 13 (f := .glo "_law_draw") rfl)) (da_cons (de_var 0) (da_cons (de_var 1) (da_cons de_int da_nil)))) da_nil)) (dg_nm 3 sc_law_name.nd)
   (dss_cons (ds_set 4 sc_law_name.nd (de_callF tk (ok_law_pick c KX G) hr (by decide) rfl (He.glo_ok KX G (c.fact 15 (f := .glo "_law_pick") rfl)) (da_cons (de_var 0) (da_cons (de_var 1) (da_cons (de_str (by kernel_rfl)) da_nil)))))
   (dss_one (ds_set 2 sc_law_name.nd (de_bin opr_add (de_var 2) (de_if (DW.dt (dw_or (dt_cmp (opr_ne hr.units) (de_var 4) (de_str (by kernel_rfl))) (dw_or1 (dt_cmp (opr_ne hr.units) (de_ix (de_var 2) (de_un unr_neg de_int)) (de_str (by kernel_rfl)))))) (de_var 4) (de_str (by kernel_rfl))))))))
  (dss_one (ds_ret (de_or (de_mt guard_str PySem.F.plainAttrs_str PySem.F.slot_str_rstrip PySem.F.type_str_rstrip (mtS1 mt_rstripChars) (de_var 2) (da_cons (de_str (by kernel_rfl)) da_nil)) (de_one (de_str (by kernel_rfl)))))))))
theorem ok_law_is_name (c : He.SaysD fa fn K) (KX : K.In h) (G : h.Ns mainGlobals mg) : OkF K mg (He.ga K "_law_is_name") 1 ["_law_thing"] m_law_is_name_2 := by
  refine okF_mk (c.def_ 7 (d := d_law_is_name) rfl) sc_law_is_name (fun _ _ _ _ _ _ us hl => match us, hl with | [_], _ => rfl) (fun P w base cdv A outer s H E hr tk hp => ?_)
  exact (show DSs _ _ _ b_law_is_name_2 from (dss_cons (ds_if (DW.dt (dw_or (dt_not (dt_tru (de_isi (de_var 0) rfl (He.free_ok KX G (c.fact 3 (f := .free "isinstance") rfl)) rfl (He.free_ok KX G (c.fact 4 (f := .free "str") rfl)) (by decide +kernel)))) (dw_or1 (dt_not (dt_chain opr_le opr_le de_int (de_callB callr_len rfl (He.free_ok KX G (c.fact 5 (f := .free "len") rfl)) (by decide +kernel) (da_cons (de_var 0) da_nil)) de_int)))))
   (dss_one (ds_ret de_bl))
   dss_nil)
  (dss_cons (ds_set 1 sc_law_is_name.nd (de_mt guard_str PySem.F.plainAttrs_str PySem.F.slot_str_split PySem.F.type_str_split mt_splitD (de_var 0) (da_cons (de_str (by kernel_rfl)) da_nil)))
  (dss_one (ds_ret (de_callB (callr_all rfl) rfl (He.free_ok KX G (c.fact 2 (f := .free "all") rfl)) (by decide +kernel) (da_cons (de_lc (own := [("_law_word", 2)]) rfl sc_law_is_name.nd (di_seq (de_var 1)) (blkOk_by (by kernel_rfl)) (fun _ _ _ _ _ => (dg_nm 2 sc_law_is_name.nd)) (fun _ _ _ _ _ => dts_nil) (fun _ _ _ _ _ => (de_and (de_cmp (opr_ne hr.units) (de_var 2) (de_str (by kernel_rfl))) (de_one (de_cmp (opr_eq hr.units) (de_mt guard_str PySem.F.plainAttrs_str PySem.F.slot_str_strip PySem.F.type_str_strip (mtS1 mt_stripChars) (de_var 2) (da_cons (de_str (by kernel_rfl)) da_nil)) (de_str (by kernel_rfl))))))) da_nil)))))))
theorem ok_law_is_title (c : He.SaysD fa fn K) (KX : K.In h) (G : h.Ns mainGlobals mg) : OkF K mg (He.ga K "_law_is_title") 1 ["_law_thing"] m_law_is_title_2 := by
  refine okF_mk (c.def_ 8 (d := d_law_is_title) rfl) sc_law_is_title (fun _ _ _ _ _ _ us hl => match us, hl with | [_], _ => rfl) (fun P w base cdv A outer s H E hr tk hp => ?_)
  exact (show DSs _ _ _ b_law_is_title_2 from (dss_one (ds_ret (de_and (de_isi (de_var 0) rfl (He.free_ok KX G (c.fact 3 (f := .free "isinstance") rfl)) rfl (He.free_ok KX G (c.fact 4 (f := .free "str") rfl)) (by decide +kernel)) (de_and (de_chain opr_le opr_le de_int (de_callB callr_len rfl (He.free_ok KX G (c.fact 5 (f := .free "len") rfl)) (by decide +kernel) (da_cons (de_var 0) da_nil)) de_int) (de_one (de_cmp (opr_eq hr.units) (de_mt guard_str PySem.F.plainAttrs_str PySem.F.slot_str_strip PySem.F.type_str_strip (mtS1 mt_stripChars) (de_var 0) (da_cons (de_str (by kernel_rfl)) da_nil)) (de_var 0))))))))
theorem ok_law_is_address (c : He.SaysD fa fn K) (KX : K.In h) (G : h.Ns mainGlobals mg) : OkF K mg (He.ga K "_law_is_address") 2 ["_law_thing"] m_law_is_address_2 := by
  refine okF_mk (c.def_ 9 (d := d_law_is_address) rfl) sc_law_is_address (fun _ _ _ _ _ _ us hl => match us, hl with | [_], _ => rfl) (fun P w base cdv A outer s H E hr tk hp => ?_)
  exact (show DSs _ _ _ b_law_is_address_2 from (dss_one (ds_ret (de_and (de_isi (de_var 0) rfl (He.free_ok KX G (c.fact 3 (f := .free "isinstance") rfl)) rfl (He.free_ok KX G (c.fact 8 (f := .free "tuple") rfl)) (by decide +kernel)) (de_and (de_chain opr_le opr_le de_int (de_callB callr_len rfl (He.free_ok KX G (c.fact 5 (f := .free "len") rfl)) (by decide +kernel) (da_cons (de_var 0) da_nil)) de_int) (de_one (de_callB (callr_all rfl) rfl (He.free_ok KX G (c.fact 2 (f := .free "all") rfl)) (by decide +kernel) (da_cons (de_lc (own := [("_law_one", 1)]) rfl sc_law_is_address.nd (di_seq (de_var 0)) (blkOk_by (by kernel_rfl)) (fun _ _ _ _ _ => (dg_nm 1 sc_law_is_address.nd)) (fun _ _ _ _ _ => dts_nil) (fun _ _ _ _ _ => (de_callF takes0 (ok_law_is_name c KX G) hr (by decide) rfl (He.glo_ok KX G (c.fact 16 (f := .glo "_law_is_name") rfl)) (da_cons (de_var 1) da_nil)))) da_nil))))))))
theorem ok_law_are_rows (c : He.SaysD fa fn K) (KX : K.In h) (G : h.Ns mainGlobals mg) : OkF K mg (He.ga K "_law_are_rows") 3 ["_law_thing"] m_law_are_rows := by
  refine okF_mk (c.def_ 10 (d := d_law_are_rows) rfl) sc_law_are_rows (fun _ _ _ _ _ _ us hl => match us, hl with | [_], _ => rfl) (fun P w base cdv A outer s H E hr tk hp => ?_)
  exact (show DSs _ _ _ b_law_are_rows from (dss_cons (ds_if (dt_not (dt_tru (de_isi (de_var 0) rfl (He.free_ok KX G (c.fact 3 (f := .free "isinstance") rfl)) rfl (He.free_ok KX G (c.fact 8 (f := .free "tuple") rfl)) (by decide +kernel))))
   (dss_one (ds_ret de_bl))
   dss_nil)
  (dss_cons (ds_for hp rfl (di_seq (de_var 0)) (dg_nm 1 sc_law_are_rows.nd)
   (dss_one (ds_if (DW.dt (dw_or (dt_not (dt_tru (de_isi (de_var 1) rfl (He.free_ok KX G (c.fact 3 (f := .free "isinstance") rfl)) rfl (He.free_ok KX G (c.fact 8 (f := .free "tuple") rfl)) (by decide +kernel)))) (dw_or (dt_cmp (opr_ne hr.units) (de_callB callr_lenE rfl (He.free_ok KX G (c.fact 5 (f := .free "len") rfl)) (by decide +kernel) (da_cons (de_var 1) da_nil)) de_int) (dw_or (dt_not (dt_tru (de_callF tk (ok_law_is_address c KX G) hr (by decide) rfl (He.glo_ok KX G (c.fact 18 (f := .glo "_law_is_address") rfl)) (da_cons (de_ixE hr.units (de_var 1) de_int) da_nil)))) (dw_or1 (dt_not (dt_tru (de_callF tk (ok_law_is_address c KX G) hr (by decide) rfl (He.glo_ok KX G (c.fact 18 (f := .glo "_law_is_address") rfl)) (da_cons (de_ixE hr.units (de_var 1) de_int) da_nil)))))))))
    (dss_one (ds_ret de_bl))
    dss_nil)))
  (dss_one (ds_ret (de_cmp (opr_eq hr.units) (de_callB callr_lenE rfl (He.free_ok KX G (c.fact 5 (f := .free "len") rfl)) (by decide +kernel) (da_cons (de_callTy (callr_dictT rfl hr.units) rfl (He.free_ok KX G (c.fact 17 (f := .free "dict") rfl)) (by decide +kernel) (da_cons (de_lc (own := [("_law_row", 1)]) rfl sc_law_are_rows.nd (di_seq (de_var 0)) (blkOk_by (by kernel_rfl)) (fun _ _ _ _ _ => (dg_nm 1 sc_law_are_rows.nd)) (fun _ _ _ _ _ => dts_nil) (fun _ _ _ _ _ => (de_tup (da_cons (de_ixE hr.units (de_var 1) de_int) (da_cons de_int da_nil))))) da_nil)) da_nil)) (de_callB callr_lenE rfl (He.free_ok KX G (c.fact 5 (f := .free "len") rfl)) (by decide +kernel) (da_cons (de_var 0) da_nil))))))))
theorem ok_law_texts (c : He.SaysD fa fn K) (KX : K.In h) (G : h.Ns mainGlobals mg) : OkF K mg (He.ga K "_law_texts") 2 ["_law_script", "_law_town", "_law_text"] m_law_texts := by
  refine okF_mk (c.def_ 11 (d := d_law_texts) rfl) sc_law_texts (fun _ _ _ _ _ _ us hl => match us, hl with | [_, _, _], _ => rfl) (fun P w base cdv A outer s H E hr tk hp => ?_)
  exact (show DSs _ _ _ b_law_texts from (dss_cons (ds_set 3 sc_law_texts.nd (de_callF tk (ok_law_draw c KX G) hr (by decide) rfl (He.glo_ok KX G (c.fact 13 (f := .glo "_law_draw") rfl)) (da_cons (de_var 0) (da_cons (de_var 1) (da_cons (de_bin opr_add (de_callB callr_len rfl (He.free_ok KX G (c.fact 5 (f := .free "len") rfl)) (by decide +kernel) (da_cons (de_var 2) da_nil)) de_int) da_nil)))))
  (dss_cons (ds_setLc (own := [("_law_sign", 5)]) 4 rfl sc_law_texts.nd rfl rfl (sw_true rfl rfl rfl (by decide +kernel)) (di_seq (de_tup (da_cons (de_str (by kernel_rfl)) (da_cons (de_str (by kernel_rfl)) (da_cons (de_str (by kernel_rfl)) (da_cons (de_str (by kernel_rfl)) (da_cons (de_str (by kernel_rfl)) (da_cons (de_str (by kernel_rfl)) (da_cons (de_str (by kernel_rfl)) (da_cons (de_bin opr_mul (de_str (by kernel_rfl)) de_int) da_nil)))))))))) (blkOk_by (by kernel_rfl)) (fun _ _ _ _ _ => (dg_nm 5 sc_law_texts.nd)) (fun _ _ _ _ _ => dts_nil) (fun _ _ _ _ _ => (de_bin opr_add (de_bin opr_add (de_sl (de_var 2) dpo_none (dpo_some (de_var 3))) (de_var 5)) (de_sl (de_var 2) (dpo_some (de_var 3)) dpo_none))))
  (dss_one (ds_ret (de_bin opr_add (de_var 4) (de_lst (da_cons (de_sl (de_var 2) (dpo_some de_int) dpo_none) (da_cons (de_sl (de_var 2) dpo_none (dpo_some (de_un unr_neg de_int))) (da_cons (de_str (by kernel_rfl)) (da_cons (de_bin opr_add (de_var 2) (de_var 2)) (da_cons de_non (da_cons de_int (da_cons de_bl (da_cons (de_tup (da_cons (de_var 2) da_nil)) (da_cons (de_lst (da_cons (de_var 2) da_nil)) da_nil))))))))))))))))
theorem ok_law_bent_ (c : He.SaysD fa fn K) (KX : K.In h) (G : h.Ns mainGlobals mg) : ∀ k : Nat, OkF K mg (He.ga K "_law_bent") (3 + k) ["_law_script", "_law_town", "_law_thing"] (m_law_bent_ k)
  | 0 => okF_badB (c.def_ 12 (d := d_law_bent) rfl) (fun _ _ _ _ _ _ us hl => match us, hl with | [_, _, _], _ => rfl)
  | k + 1 => by
    have ih := ok_law_bent_ c KX G k
    refine okF_mk (c.def_ 12 (d := d_law_bent) rfl) sc_law_bent (fun _ _ _ _ _ _ us hl => match us, hl with | [_, _, _], _ => rfl) (fun P w base cdv A outer s H E hr tk hp => ?_)
    exact (show DSs _ _ _ (b_law_bent (m_law_bent_ k)) from (dss_cons (ds_if (dt_not (dt_tru (de_isi (de_var 2) rfl (He.free_ok KX G (c.fact 3 (f := .free "isinstance") rfl)) rfl (He.free_ok KX G (c.fact 8 (f := .free "tuple") rfl)) (by decide +kernel))))
   (dss_one (ds_ret (de_callF tk (ok_law_texts c KX G) hr (by show _ ≤ 3 + k; omega) rfl (He.glo_ok KX G (c.fact 22 (f := .glo "_law_texts") rfl)) (da_cons (de_var 0) (da_cons (de_var 1) (da_cons (de_var 2) da_nil))))))
   dss_nil)
  (dss_cons (ds_set 3 sc_law_bent.nd (de_lst (da_cons (de_callTy callr_list rfl (He.free_ok KX G (c.fact 21 (f := .free "list") rfl)) (by decide +kernel) (da_cons (de_var 2) da_nil)) (da_cons (de_rev (de_var 2)) (da_cons (de_sl (de_var 2) (dpo_some de_int) dpo_none) (da_cons (de_bin opr_add (de_var 2) (de_sl (de_var 2) dpo_none (dpo_some de_int))) (da_cons (de_tup (da_cons (de_var 2) da_nil)) (da_cons de_non (da_cons (de_tup da_nil) (da_cons (de_bin opr_add (de_var 2) (de_tup (da_cons de_non da_nil))) (da_cons (de_bin opr_mul (de_var 2) de_int) da_nil)))))))))))
  (dss_cons (ds_for hp rfl (di_enumA rfl (He.free_ok KX G (c.fact 19 (f := .free "enumerate") rfl)) (da_cons (de_var 2) da_nil)) (dg_tup rfl (dgs_cons (dg_nm 4 sc_law_bent.nd) (dgs_cons (dg_nm 5 sc_law_bent.nd) dgs_nil)))
   (dss_one (ds_for hp rfl (di_seq (de_sl (de_callF tk ih hr (Nat.le_refl _) rfl (He.glo_ok KX G (c.fact 20 (f := .glo "_law_bent") rfl)) (da_cons (de_var 0) (da_cons (de_var 1) (da_cons (de_var 5) da_nil)))) dpo_none (dpo_some de_int))) (dg_nm 6 sc_law_bent.nd)
    (dss_one (ds_expr (de_mt guard_lst PySem.F.plainAttrs_list PySem.F.slot_list_append PySem.F.type_list_append mt_appendD (de_var 3) (da_cons (de_bin opr_add (de_bin opr_add (de_sl (de_var 2) dpo_none (dpo_some (de_var 4))) (de_tup (da_cons (de_var 6) da_nil))) (de_sl (de_var 2) (dpo_some (de_bin opr_add (de_var 4) de_int)) dpo_none)) da_nil)))))))
  (dss_one (ds_ret (de_var 3)))))))
theorem ok_law_bent (c : He.SaysD fa fn K) (KX : K.In h) (G : h.Ns mainGlobals mg) : OkF K mg (He.ga K "_law_bent") 7 ["_law_script", "_law_town", "_law_thing"] m_law_bent := ok_law_bent_ c KX G 4
theorem ok_law_hold (c : He.SaysD fa fn K) (KX : K.In h) (G : h.Ns mainGlobals mg) : OkF K mg (He.ga K "_law_hold") 4 ["_law_thing"] m_law_hold := by
  refine okF_mk (c.def_ 13 (d := d_law_hold) rfl) sc_law_hold (fun _ _ _ _ _ _ us hl => match us, hl with | [_], _ => rfl) (fun P w base cdv A outer s H E hr tk hp => ?_)
  exact (show DSs _ _ _ b_law_hold from (dss_cons (ds_if (DW.dt (dw_or (dt_cmp (opr_ne hr.units) (de_callF tk (ok_is_name c KX G) hr (by decide) rfl (He.glo_ok KX G (c.fact 10 (f := .glo "is_name") rfl)) (da_cons (de_var 0) da_nil)) (de_callF tk (ok_law_is_name c KX G) hr (by decide) rfl (He.glo_ok KX G (c.fact 16 (f := .glo "_law_is_name") rfl)) (da_cons (de_var 0) da_nil))) (dw_or1 (dt_cmp (opr_ne hr.units) (de_callF tk (ok_is_title c KX G) hr (by decide) rfl (He.glo_ok KX G (c.fact 25 (f := .glo "is_title") rfl)) (da_cons (de_var 0) da_nil)) (de_callF tk (ok_law_is_title c KX G) hr (by decide) rfl (He.glo_ok KX G (c.fact 26 (f := .glo "_law_is_title") rfl)) (da_cons (de_var 0) da_nil))))))
   (dss_one (ds_ret de_bl))
   dss_nil)
  (dss_one (ds_ret (de_and (de_cmp (opr_eq hr.units) (de_callF tk (ok_is_address c KX G) hr (by decide) rfl (He.glo_ok KX G (c.fact 12 (f := .glo "is_address") rfl)) (da_cons (de_var 0) da_nil)) (de_callF tk (ok_law_is_address c KX G) hr (by decide) rfl (He.glo_ok KX G (c.fact 18 (f := .glo "_law_is_address") rfl)) (da_cons (de_var 0) da_nil))) (de_one (de_cmp (opr_eq hr.units) (de_callF tk (ok_are_rows c KX G) hr (by decide) rfl (He.glo_ok KX G (c.fact 23 (f := .glo "are_rows") rfl)) (da_cons (de_var 0) da_nil)) (de_callF tk (ok_law_are_rows c KX G) hr (by decide) rfl (He.glo_ok KX G (c.fact 24 (f := .glo "_law_are_rows") rfl)) (da_cons (de_var 0) da_nil)))))))))
theorem ok_law (c : He.SaysD fa fn K) (KX : K.In h) (G : h.Ns mainGlobals mg) : OkF K mg (He.ga K "law") 8 ["_law_script"] m_law_k34 := by
  refine okF_mk (c.def_ 14 (d := d_law) rfl) sc_law (fun _ _ _ _ _ _ us hl => match us, hl with | [_], _ => rfl) (fun P w base cdv A outer s H E hr tk hp => ?_)
  exact (show DSs _ _ _ b_law_k34 from (dss_cons (ds_set 1 sc_law.nd (de_lst da_nil))
  (dss_cons (ds_for hp rfl (di_rng1 rfl (He.free_ok KX G (c.fact 14 (f := .free "range") rfl)) (da_cons de_int da_nil)) (dg_nm 2 sc_law.nd)
   (dss_cons (ds_set 3 sc_law.nd (de_callF tk (ok_law_name c KX G) hr (by decide) rfl (He.glo_ok KX G (c.fact 27 (f := .glo "_law_name") rfl)) (da_cons (de_var 0) (da_cons (de_var 1) da_nil))))
   (dss_cons (ds_set 4 sc_law.nd (de_callTy callr_tuple rfl (He.free_ok KX G (c.fact 8 (f := .free "tuple") rfl)) (by decide +kernel) (da_cons (de_lc (own := [("_law_j", 10)]) rfl sc_law.nd (di_rng1 rfl (He.free_ok KX G (c.fact 14 (f := .free "range") rfl)) (da_cons (de_bin opr_add de_int (de_callF tk (ok_law_draw c KX G) hr (by decide) rfl (He.glo_ok KX G (c.fact 13 (f := .glo "_law_draw") rfl)) (da_cons (de_var 0) (da_cons (de_var 1) (da_cons de_int da_nil))))) da_nil)) (blkOk_by (by kernel_rfl)) (fun _ _ _ _ _ => (dg_nm 10 sc_law.nd)) (fun _ _ _ _ _ => dts_nil) (fun _ _ _ _ _ => (de_callF takes0 (ok_law_name c KX G) hr (by decide) rfl (He.glo_ok KX G (c.fact 27 (f := .glo "_law_name") rfl)) (da_cons (de_var 0) (da_cons (de_var 1) da_nil))))) da_nil)))
   (dss_cons (ds_set 5 sc_law.nd (de_tup (da_cons (de_tup (da_cons (de_var 4) (da_cons (de_tup (da_cons (de_var 3) da_nil)) da_nil))) (da_cons (de_tup (da_cons (de_tup (da_cons (de_var 3) (da_cons (de_var 3) da_nil))) (da_cons (de_var 4) da_nil))) da_nil))))
   (dss_cons (ds_if (DW.dt (dw_or (dt_not (dt_tru (de_callF tk (ok_is_name c KX G) hr (by decide) rfl (He.glo_ok KX G (c.fact 10 (f := .glo "is_name") rfl)) (da_cons (de_var 3) da_nil)))) (dw_or (dt_not (dt_tru (de_callF tk (ok_is_title c KX G) hr (by decide) rfl (He.glo_ok KX G (c.fact 25 (f := .glo "is_title") rfl)) (da_cons (de_var 3) da_nil)))) (dw_or1 (dt_not (dt_tru (de_callF tk (ok_is_address c KX G) hr (by decide) rfl (He.glo_ok KX G (c.fact 12 (f := .glo "is_address") rfl)) (da_cons (de_tup (da_cons (de_var 3) da_nil)) da_nil))))))))
    (dss_one (ds_ret de_bl))
    dss_nil)
   (dss_cons (ds_if (DW.dt (dw_or (dt_tru (de_callF tk (ok_is_address c KX G) hr (by decide) rfl (He.glo_ok KX G (c.fact 12 (f := .glo "is_address") rfl)) (da_cons (de_var 3) da_nil))) (dw_or1 (dt_not (dt_tru (de_callF tk (ok_is_address c KX G) hr (by decide) rfl (He.glo_ok KX G (c.fact 12 (f := .glo "is_address") rfl)) (da_cons (de_var 4) da_nil)))))))
    (dss_one (ds_ret de_bl))
    dss_nil)
   (dss_cons (ds_if (dt_cmp (opr_ne hr.units) (de_callF tk (ok_are_rows c KX G) hr (by decide) rfl (He.glo_ok KX G (c.fact 23 (f := .glo "are_rows") rfl)) (da_cons (de_var 5) da_nil)) (de_cmp (opr_ne hr.units) (de_var 4) (de_tup (da_cons (de_var 3) (da_cons (de_var 3) da_nil)))))
    (dss_one (ds_ret de_bl))
    dss_nil)
   (dss_cons (ds_set 6 sc_law.nd (de_bin opr_add (de_callF tk (ok_law_texts c KX G) hr (by decide) rfl (He.glo_ok KX G (c.fact 22 (f := .glo "_law_texts") rfl)) (da_cons (de_var 0) (da_cons (de_var 1) (da_cons (de_var 3) da_nil)))) (de_callF tk (ok_law_bent c KX G) hr (by decide) rfl (He.glo_ok KX G (c.fact 20 (f := .glo "_law_bent") rfl)) (da_cons (de_var 0) (da_cons (de_var 1) (da_cons (de_var 4) da_nil))))))
   (dss_cons (ds_for hp rfl (di_seq (de_bin opr_add (de_var 6) (de_sl (de_callF tk (ok_law_bent c KX G) hr (by decide) rfl (He.glo_ok KX G (c.fact 20 (f := .glo "_law_bent") rfl)) (da_cons (de_var 0) (da_cons (de_var 1) (da_cons (de_var 5) da_nil)))) dpo_none (dpo_some de_int)))) (dg_nm 7 sc_law.nd)
    (dss_one (ds_if (dt_not (dt_tru (de_callF tk (ok_law_hold c KX G) hr (by decide) rfl (He.glo_ok KX G (c.fact 28 (f := .glo "_law_hold") rfl)) (da_cons (de_var 7) da_nil))))
     (dss_one (ds_ret de_bl))
     dss_nil)))
   (dss_cons (ds_set 8 sc_law.nd (de_bin opr_add (de_bin opr_add (de_var 3) (de_str (by kernel_rfl))) (de_callF tk (ok_law_name c KX G) hr (by decide) rfl (He.glo_ok KX G (c.fact 27 (f := .glo "_law_name") rfl)) (da_cons (de_var 0) (da_cons (de_var 1) da_nil)))))
   (dss_cons (ds_for hp rfl (di_seq (de_callF tk (ok_law_texts c KX G) hr (by decide) rfl (He.glo_ok KX G (c.fact 22 (f := .glo "_law_texts") rfl)) (da_cons (de_var 0) (da_cons (de_var 1) (da_cons (de_var 8) da_nil))))) (dg_nm 7 sc_law.nd)
    (dss_one (ds_if (dt_cmp (opr_ne hr.units) (de_callF tk (ok_is_title c KX G) hr (by decide) rfl (He.glo_ok KX G (c.fact 25 (f := .glo "is_title") rfl)) (da_cons (de_var 7) da_nil)) (de_callF tk (ok_law_is_title c KX G) hr (by decide) rfl (He.glo_ok KX G (c.fact 26 (f := .glo "_law_is_title") rfl)) (da_cons (de_var 7) da_nil)))
     (dss_one (ds_ret de_bl))
     dss_nil)))
   (dss_one (ds_for hp rfl (di_seq (de_tup (da_cons de_int (da_cons de_int (da_cons de_int (da_cons de_int (da_cons de_int da_nil))))))) (dg_nm 9 sc_law.nd)
    (dss_one (ds_if (DW.dt (dw_or (dt_cmp (opr_ne hr.units) (de_callF tk (ok_is_name c KX G) hr (by decide) rfl (He.glo_ok KX G (c.fact 10 (f := .glo "is_name") rfl)) (da_cons (de_bin opr_mul (de_str (by kernel_rfl)) (de_var 9)) da_nil)) (de_cmp opr_le (de_var 9) de_int)) (dw_or1 (dt_cmp (opr_ne hr.units) (de_callF tk (ok_is_title c KX G) hr (by decide) rfl (He.glo_ok KX G (c.fact 25 (f := .glo "is_title") rfl)) (da_cons (de_bin opr_mul (de_str (by kernel_rfl)) (de_var 9)) da_nil)) (de_cmp opr_le (de_var 9) de_int)))))
     (dss_one (ds_ret de_bl))
     dss_nil)))))))))))))))
  (dss_one (ds_ret de_bl)))))
end
end DL.K34


set_option maxRecDepth 100000
set_option maxHeartbeats 0
namespace DL.K34
open PySem PySem.Spec PyProof.Rows L2 DL
/-! ### the head -/
abbrev Rw : PySem.W.OpenRow := PySem.W.OpenLaw.row PySem.Challenge.rw_pagenames_k34_whole_things_bent
abbrev hk : PySem.W.Hook := He.hookD 5 fa fn
def ob (s : PySem.W.SharedT) : He.AlD := He.obsDG 5 fa fn (HandSHeadRun.getT s)
theorem ob_eq (s : PySem.W.SharedT) : ob s = hk.obs s.abs := He.obsDG_eq (HandSHeadRun.getT_eq s)
theorem run (w : World) : HandSHeadRun.RunEq Rw (PySem.W.view Rw.prog [23]) hk ob 4000 (["LETTERS", "FIGURES", "NAME_MOST", "TITLE_MOST", "is_name", "is_title", "DEEP_MOST", "is_address", "are_rows", "_law_draw", "_law_pick", "_law_name", "_law_is_name", "_law_is_title", "_law_is_address", "_law_are_rows", "_law_texts", "_law_bent", "_law_hold"]) w := by
  intro os
  kernel_rfl
end DL.K34
open PySem PySem.W PySem.Calls PyProof.Rows
theorem DL.K34.law_ends (hlaw : ∀ ns : List Int, ns.length ≤ 63 → ∃ h', DL.m_law_k34 [.ref 0] [.scr (ns.map DL.D.int)] = .ok (.bl true) h') : PySem.Challenge.rw_pagenames_k34_whole_things_bent.Holds := by
  w_on; o_law
  refine HandSHeadRun.head_any (r := OpenLaw.row PySem.Challenge.rw_pagenames_k34_whole_things_bent) (q := view (OpenLaw.row PySem.Challenge.rw_pagenames_k34_whole_things_bent).prog [23]) (H := DL.K34.hk) (ob := DL.K34.ob) (M := 4000) (loose := ["LETTERS", "FIGURES", "NAME_MOST", "TITLE_MOST", "is_name", "is_title", "DEEP_MOST", "is_address", "are_rows", "_law_draw", "_law_pick", "_law_name", "_law_is_name", "_law_is_title", "_law_is_address", "_law_are_rows", "_law_texts", "_law_bent", "_law_hold"]) (d := HandSHeadRun.topDef (OpenLaw.row PySem.Challenge.rw_pagenames_k34_whole_things_bent).prog 23) (kwd := []) DL.K34.ob_eq
    (by kernel_rfl) (fun s => by kernel_rfl) DL.K34.run (by kernel_rfl) (by kernel_rfl) (by kernel_rfl) (by rfl) (by first | assumption | decide +kernel) (by decide +kernel) ⟨rfl, rfl, rfl, rfl, rfl, by decide +kernel⟩ ?hw ?hc
  case hw => w_witness2
  case hc =>
    exact DL.walk_law (k := 8) (x := "_law_script") (F := DL.m_law_k34) rfl (by kernel_rfl) ⟨rfl, by decide, by decide⟩ (by kernel_rfl) (fun c KX G => ⟨DL.K34.ok_law c KX G, He.glo_ok KX G (c.fact 29 (f := .glo "law") rfl)⟩) hlaw


set_option maxRecDepth 100000
namespace DL
open PySem PySem.Spec PyProof.Rows L2

/-! ## reckoning with mirrors -/
@[simp] theorem R.bind_ok {d : D} {h : AH} {k : D → AH → R} : (R.ok d h).bind k = k d h := id rfl
@[simp] theorem R.bind_exc {x : Str} {h : AH} {k : D → AH → R} : (R.exc x h).bind k = .exc x h := id rfl
@[simp] theorem R.bindA_ok {d : D} {h : AH} {k : D → AH → RA} : (R.ok d h).bindA k = k d h := id rfl
@[simp] theorem R.bindT_ok {d : D} {h : AH} {k : D → AH → RT} : (R.ok d h).bindT k = k d h := id rfl
@[simp] theorem R.bindI_ok {d : D} {h : AH} {k : D → AH → RI} : (R.ok d h).bindI k = k d h := id rfl
@[simp] theorem R.bindS_ok {d : D} {h : AH} {σ : Lc} {k : D → AH → RS} : (R.ok d h).bindS σ k = k d h := id rfl
@[simp] theorem R.bindS_exc {x : Str} {h : AH} {σ : Lc} {k : D → AH → RS} : (R.exc x h).bindS σ k = .exc x σ h := id rfl
@[simp] theorem RA.bind_ok {d : List D} {h : AH} {k : List D → AH → R} : (RA.ok d h).bind k = k d h := id rfl
@[simp] theorem RA.bindA_ok {d : List D} {h : AH} {k : List D → AH → RA} : (RA.ok d h).bindA k = k d h := id rfl
@[simp] theorem RA.bindI_ok {d : List D} {h : AH} {k : List D → AH → RI} : (RA.ok d h).bindI k = k d h := id rfl
@[simp] theorem RT.bind_ok {d : Bool} {h : AH} {k : Bool → AH → R} : (RT.ok d h).bind k = k d h := id rfl
@[simp] theorem RT.bindT_ok {d : Bool} {h : AH} {k : Bool → AH → RT} : (RT.ok d h).bindT k = k d h := id rfl
@[simp] theorem RT.bindS_ok {d : Bool} {h : AH} {σ : Lc} {k : Bool → AH → RS} : (RT.ok d h).bindS σ k = k d h := id rfl
@[simp] theorem RS.bind_nx {l : Lc} {h : AH} {k : Lc → AH → RS} : (RS.nx l h).bind k = k l h := id rfl
@[simp] theorem RS.bind_rt {d : D} {h : AH} {k : Lc → AH → RS} : (RS.rt d h).bind k = .rt d h := id rfl
@[simp] theorem RS.bind_bk {d : Lc} {h : AH} {k : Lc → AH → RS} : (RS.bk d h).bind k = .bk d h := id rfl
@[simp] theorem RS.bind_ct {d : Lc} {h : AH} {k : Lc → AH → RS} : (RS.ct d h).bind k = .ct d h := id rfl
@[simp] theorem RS.bind_exc {x : Str} {d : Lc} {h : AH} {k : Lc → AH → RS} : (RS.exc x d h).bind k = .exc x d h := id rfl
@[simp] theorem ofO_some {p : D × AH} : ofO (some p) = .ok p.1 p.2 := id rfl
@[simp] theorem ofT_some {b : Bool} {h : AH} : ofT (some b) h = .ok b h := id rfl
section
variable {σ : Lc} {h : AH}
@[simp] theorem dVar_at {i : Nat} {d : D} (e : σ[i]? = some (some d)) : dVar i σ h = .ok d h := by simp [dVar, e]
@[simp] theorem dC_eq {d : D} : dC d σ h = .ok d h := id rfl
@[simp] theorem dBin_eq {o : Op2} {fa fb : SE} : dBin o fa fb σ h = (fa σ h).bind fun x h1 => (fb σ h1).bind fun y h2 => ofO (o x y h2) := id rfl
@[simp] theorem dUn_eq {o : Op1} {fa : SE} : dUn o fa σ h = (fa σ h).bind fun x h1 => ofO (o x h1) := id rfl
@[simp] theorem dNil_eq : dNil σ h = .ok [] h := id rfl
@[simp] theorem dCons_eq {fa : SE} {fs : SA} : dCons fa fs σ h = (fa σ h).bindA fun d h1 => (fs σ h1).bindA fun ds h2 => .ok (d :: ds) h2 := id rfl
@[simp] theorem dCallB_eq {o : OpL} {fs : SA} : dCallB o fs σ h = (fs σ h).bind fun ds h1 => ofO (o ds h1) := id rfl
@[simp] theorem dCall_eq {F : Fn} {fs : SA} : dCall F fs σ h = (fs σ h).bind F := id rfl
@[simp] theorem dMt_eq {g : D → AH → Bool} {o : OpM} {fo : SE} {fs : SA} : dMt g o fo fs σ h = (fo σ h).bind fun x h1 => if g x h1 = true then (fs σ h1).bind fun ds h2 => ofO (o x ds h2) else .bad := id rfl
@[simp] theorem dTup_eq {fs : SA} : dTup fs σ h = (fs σ h).bind fun ds h1 => if ds.length ≤ 16777216 then .ok (.tup ds) h1 else .bad := id rfl
@[simp] theorem dLst_eq {fs : SA} : dLst fs σ h = (fs σ h).bind fun ds h1 => if ds.length ≤ 16777216 then .ok (.ref h1.length) (h1 ++ [.lst ds]) else .bad := id rfl
@[simp] theorem dIf_eq {ft : SB} {fa fb : SE} : dIf ft fa fb σ h = (ft σ h).bind fun b h1 => if b = true then fa σ h1 else fb σ h1 := id rfl
@[simp] theorem dTru_eq {f : SE} : dTru f σ h = (f σ h).bindT fun d h1 => ofT (truD d h1) h1 := id rfl
@[simp] theorem isB_eq' {f : SE} : isB f σ h = (f σ h).bindT isBk := id rfl
@[simp] theorem isBk_bl {b : Bool} : isBk (.bl b) h = .ok b h := id rfl
@[simp] theorem dAnd_eq {fa fb : SB} : dAnd fa fb σ h = (fa σ h).bindT fun b h1 => if b = true then fb σ h1 else .ok false h1 := id rfl
@[simp] theorem dOr_eq {fa fb : SB} : dOr fa fb σ h = (fa σ h).bindT fun b h1 => if b = true then .ok true h1 else fb σ h1 := id rfl
@[simp] theorem dNot_eq {fa : SB} : dNot fa σ h = (fa σ h).bindT fun b h1 => .ok (!b) h1 := id rfl
@[simp] theorem bYes_eq : bYes σ h = .ok true h := id rfl
@[simp] theorem dSl_eq {fa : SE} {lo hi : Option SE} : dSl fa lo hi σ h = (fa σ h).bind fun x h1 => (evP lo σ h1).bind fun l h2 => (evP hi σ h2).bind fun u h3 => ofO (slK x (toP l) (toP u) h3) := id rfl
@[simp] theorem evP_none : evP none σ h = .ok .non h := id rfl
@[simp] theorem evP_some {f : SE} : evP (some f) σ h = (f σ h).bind fun d h1 => match d with
    | .int i => .ok (.int i) h1
    | _ => .bad := id rfl
theorem evP_int {f : SE} {i : Int} {h1 : AH} (e : f σ h = .ok (.int i) h1) : evP (some f) σ h = .ok (.int i) h1 := by rw [evP_some, e]; rfl
@[simp] theorem toP_int {i : Int} : toP (.int i) = some i := id rfl
@[simp] theorem toP_non : toP .non = none := id rfl
@[simp] theorem sNil_eq : sNil σ h = .nx σ h := id rfl
@[simp] theorem sSeq_eq {s t : SS} : sSeq s t σ h = (s σ h).bind t := id rfl
@[simp] theorem sSet_eq {i : Nat} {f : SE} : sSet i f σ h = (f σ h).bindS σ fun d h1 => .nx (σ.set i (some d)) h1 := id rfl
@[simp] theorem sDrop_eq {f : SE} : sDrop f σ h = (f σ h).bindS σ fun _ h1 => .nx σ h1 := id rfl
@[simp] theorem sRet_eq {f : SE} : sRet f σ h = (f σ h).bindS σ fun d h1 => .rt d h1 := id rfl
@[simp] theorem sRetN_eq : sRetN σ h = .rt .non h := id rfl
@[simp] theorem sBrk_eq : sBrk σ h = .bk σ h := id rfl
@[simp] theorem sCnt_eq : sCnt σ h = .ct σ h := id rfl
@[simp] theorem sIf_eq {ft : SB} {s t : SS} : sIf ft s t σ h = (ft σ h).bindS σ fun b h1 => if b = true then s σ h1 else t σ h1 := id rfl
@[simp] theorem sPar_eq {i j : Nat} {fa fb : SE} : sPar i j fa fb σ h = (fa σ h).bindS σ fun x h1 => (fb σ h1).bindS σ fun y h2 => .nx ((σ.set i (some x)).set j (some y)) h2 := id rfl
@[simp] theorem dChn_eq {o o' : Op2} {fa fb fc : SE} : dChn o o' fa fb fc σ h = (fa σ h).bind fun x h1 => (fb σ h1).bind fun y h2 => (ofO (o x y h2)).bind fun z h3 => match z with
  | .bl b => if b = true then (fc σ h3).bind fun w h4 => ofO (o' y w h4) else .ok (.bl false) h3
  | _ => .bad := id rfl
@[simp] theorem dAndV_eq {fa fb : SE} : dAndV fa fb σ h = (fa σ h).bind fun d h1 => match truD d h1 with
  | some b => if b = true then fb σ h1 else .ok d h1
  | none => .bad := id rfl
@[simp] theorem dOrV_eq {fa fb : SE} : dOrV fa fb σ h = (fa σ h).bind fun d h1 => match truD d h1 with
  | some b => if b = true then .ok d h1 else fb σ h1
  | none => .bad := id rfl
@[simp] theorem dNotV_eq {fa : SE} : dNotV fa σ h = (fa σ h).bind fun d h1 => match d with
  | .bl b => .ok (.bl (!b)) h1
  | _ => .bad := id rfl
@[simp] theorem dIsi_eq {T : String} {fa : SE} : dIsi T fa σ h = (fa σ h).bind fun d h1 => match tyN d h1 with
  | some t => match kitB t T with
    | some b => .ok (.bl b) h1
    | none => .bad
  | none => .bad := id rfl
@[simp] theorem one_lt {a b : Nat} : ([a] < [b]) ↔ a < b := by simp [List.cons_lt_cons_iff]
@[simp] theorem tyN_non : tyN .non h = some "NoneType" := id rfl
@[simp] theorem tyN_bl {b : Bool} : tyN (.bl b) h = some "bool" := id rfl
@[simp] theorem tyN_int {b : Int} : tyN (.int b) h = some "int" := id rfl
@[simp] theorem tyN_str {b : List Nat} : tyN (.str b) h = some "str" := id rfl
@[simp] theorem tyN_tup {b : List D} : tyN (.tup b) h = some "tuple" := id rfl
theorem tyN_lst {n : Nat} {s : List D} (e : h[n]? = some (.lst s)) : tyN (.ref n) h = some "list" := by simp [tyN, e]
@[simp] theorem kitB_NoneType_bool : kitB "NoneType" "bool" = some false := by decide +kernel
@[simp] theorem kitB_NoneType_int : kitB "NoneType" "int" = some false := by decide +kernel
@[simp] theorem kitB_NoneType_str : kitB "NoneType" "str" = some false := by decide +kernel
@[simp] theorem kitB_NoneType_tuple : kitB "NoneType" "tuple" = some false := by decide +kernel
@[simp] theorem kitB_NoneType_list : kitB "NoneType" "list" = some false := by decide +kernel
@[simp] theorem kitB_NoneType_dict : kitB "NoneType" "dict" = some false := by decide +kernel
@[simp] theorem kitB_bool_bool : kitB "bool" "bool" = some true := by decide +kernel
@[simp] theorem kitB_bool_int : kitB "bool" "int" = some true := by decide +kernel
@[simp] theorem kitB_bool_str : kitB "bool" "str" = some false := by decide +kernel
@[simp] theorem kitB_bool_tuple : kitB "bool" "tuple" = some false := by decide +kernel
@[simp] theorem kitB_bool_list : kitB "bool" "list" = some false := by decide +kernel
@[simp] theorem kitB_bool_dict : kitB "bool" "dict" = some false := by decide +kernel
@[simp] theorem kitB_int_bool : kitB "int" "bool" = some false := by decide +kernel
@[simp] theorem kitB_int_int : kitB "int" "int" = some true := by decide +kernel
@[simp] theorem kitB_int_str : kitB "int" "str" = some false := by decide +kernel
@[simp] theorem kitB_int_tuple : kitB "int" "tuple" = some false := by decide +kernel
@[simp] theorem kitB_int_list : kitB "int" "list" = some false := by decide +kernel
@[simp] theorem kitB_int_dict : kitB "int" "dict" = some false := by decide +kernel
@[simp] theorem kitB_str_bool : kitB "str" "bool" = some false := by decide +kernel
@[simp] theorem kitB_str_int : kitB "str" "int" = some false := by decide +kernel
@[simp] theorem kitB_str_str : kitB "str" "str" = some true := by decide +kernel
@[simp] theorem kitB_str_tuple : kitB "str" "tuple" = some false := by decide +kernel
@[simp] theorem kitB_str_list : kitB "str" "list" = some false := by decide +kernel
@[simp] theorem kitB_str_dict : kitB "str" "dict" = some false := by decide +kernel
@[simp] theorem kitB_tuple_bool : kitB "tuple" "bool" = some false := by decide +kernel
@[simp] theorem kitB_tuple_int : kitB "tuple" "int" = some false := by decide +kernel
@[simp] theorem kitB_tuple_str : kitB "tuple" "str" = some false := by decide +kernel
@[simp] theorem kitB_tuple_tuple : kitB "tuple" "tuple" = some true := by decide +kernel
@[simp] theorem kitB_tuple_list : kitB "tuple" "list" = some false := by decide +kernel
@[simp] theorem kitB_tuple_dict : kitB "tuple" "dict" = some false := by decide +kernel
@[simp] theorem kitB_list_bool : kitB "list" "bool" = some false := by decide +kernel
@[simp] theorem kitB_list_int : kitB "list" "int" = some false := by decide +kernel
@[simp] theorem kitB_list_str : kitB "list" "str" = some false := by decide +kernel
@[simp] theorem kitB_list_tuple : kitB "list" "tuple" = some false := by decide +kernel
@[simp] theorem kitB_list_list : kitB "list" "list" = some true := by decide +kernel
@[simp] theorem kitB_list_dict : kitB "list" "dict" = some false := by decide +kernel
@[simp] theorem kitB_dict_bool : kitB "dict" "bool" = some false := by decide +kernel
@[simp] theorem kitB_dict_int : kitB "dict" "int" = some false := by decide +kernel
@[simp] theorem kitB_dict_str : kitB "dict" "str" = some false := by decide +kernel
@[simp] theorem kitB_dict_tuple : kitB "dict" "tuple" = some false := by decide +kernel
@[simp] theorem kitB_dict_list : kitB "dict" "list" = some false := by decide +kernel
@[simp] theorem kitB_dict_dict : kitB "dict" "dict" = some true := by decide +kernel
@[simp] theorem lits_eq {ds : List D} : lits ds σ h = .ok ds h := by
  induction ds with
  | nil => rfl
  | cons d ds ih => unfold lits; rw [dCons_eq, dC_eq, R.bindA_ok, ih]; rfl
/-! ### operations -/
@[simp] theorem addD_ii {i j : Int} : addD (.int i) (.int j) h = some (.int (i + j), h) := id rfl
theorem addD_ss {s t : List Nat} (hl : s.length + t.length ≤ 16777216) : addD (.str s) (.str t) h = some (.str (s ++ t), h) := by simp [addD, hl]
theorem addD_tt {s t : List D} (hl : s.length + t.length ≤ 16777216) : addD (.tup s) (.tup t) h = some (.tup (s ++ t), h) := by simp [addD, hl]
@[simp] theorem subD_ii {i j : Int} : subD (.int i) (.int j) h = some (.int (i - j), h) := id rfl
theorem modD_ii {i j : Int} (hj : 0 < j) : modD (.int i) (.int j) h = some (.int (i % j), h) := by simp [modD, hj]
theorem fdivD_ii {i j : Int} (hj : 0 < j) (h2 : j < 1073741824) : fdivD (.int i) (.int j) h = some (.int (i / j), h) := by simp [fdivD, hj, h2]
theorem mulD_l {i j : Int} (h1 : -(2 ^ 64) < i) (h2 : i < 2 ^ 64) : mulD (.int i) (.int j) h = some (.int (i * j), h) := by
  have : small64 i = true := by simp only [small64, Bool.and_eq_true, decide_eq_true_eq]; exact ⟨h1, h2⟩
  simp [mulD, this]
@[simp] theorem mulD_91 {a j : Int} : mulD (.int (a % 4294967291)) (.int j) h = some (.int (a % 4294967291 * j), h) :=
  mulD_l (by have := Int.emod_nonneg a (show (4294967291 : Int) ≠ 0 by decide); omega) (by have := Int.emod_lt_of_pos a (show (0 : Int) < 4294967291 by decide); omega)
@[simp] theorem mulD_79 {a j : Int} : mulD (.int (a % 4294967279)) (.int j) h = some (.int (a % 4294967279 * j), h) :=
  mulD_l (by have := Int.emod_nonneg a (show (4294967279 : Int) ≠ 0 by decide); omega) (by have := Int.emod_lt_of_pos a (show (0 : Int) < 4294967279 by decide); omega)
theorem mulD_r {i j : Int} (h1 : -(2 ^ 64) < j) (h2 : j < 2 ^ 64) : mulD (.int i) (.int j) h = some (.int (i * j), h) := by
  have : small64 j = true := by simp only [small64, Bool.and_eq_true, decide_eq_true_eq]; exact ⟨h1, h2⟩
  simp [mulD, this]
@[simp] theorem negD_i {i : Int} : negD (.int i) h = some (.int (-i), h) := id rfl
@[simp] theorem ltD_ii {i j : Int} : ltD (.int i) (.int j) h = some (.bl (decide (i < j)), h) := id rfl
@[simp] theorem gtD_ii {i j : Int} : gtD (.int i) (.int j) h = some (.bl (decide (j < i)), h) := id rfl
@[simp] theorem leD_ii {i j : Int} : leD (.int i) (.int j) h = some (.bl (decide (i ≤ j)), h) := id rfl
@[simp] theorem geD_ii {i j : Int} : geD (.int i) (.int j) h = some (.bl (decide (j ≤ i)), h) := id rfl
@[simp] theorem leD_ss {s t : List Nat} : leD (.str s) (.str t) h = some (.bl (!decide (t < s)), h) := id rfl
@[simp] theorem ltD_ss {s t : List Nat} : ltD (.str s) (.str t) h = some (.bl (decide (s < t)), h) := id rfl
@[simp] theorem gtD_ss {s t : List Nat} : gtD (.str s) (.str t) h = some (.bl (decide (t < s)), h) := id rfl
@[simp] theorem isD_non {neg : Bool} {d : D} : isD neg d .non h = some (.bl (xor neg (isN d)), h) := by cases d <;> rfl
@[simp] theorem isD_bl {neg a b : Bool} : isD neg (.bl a) (.bl b) h = some (.bl (xor neg (decide (a = b))), h) := id rfl
@[simp] theorem isN_non : isN .non = true := id rfl
@[simp] theorem isN_bl {b : Bool} : isN (.bl b) = false := id rfl
@[simp] theorem isN_int {b : Int} : isN (.int b) = false := id rfl
@[simp] theorem isN_str {b : List Nat} : isN (.str b) = false := id rfl
@[simp] theorem isN_tup {b : List D} : isN (.tup b) = false := id rfl
@[simp] theorem isN_ref {b : Nat} : isN (.ref b) = false := id rfl
theorem eqD_ss {neg : Bool} {s t : List Nat} : eqD neg (.str s) (.str t) h = some (.bl (xor neg (decide (s = t))), h) := by
  have e : (S s == S t) = decide (s = t) := by
    by_cases e : s = t
    · subst e; simp
    · rw [decide_eq_false e, beq_eq_false_iff_ne]
      exact fun z => e (S_inj z)
  simp only [eqD, toDat, D.dat, okD, PyData.plain, PyData.depth, PyData.eqv, e]
  simp
@[simp] theorem eqD_ss' {neg : Bool} {s t : List Nat} : eqD neg (.str s) (.str t) h = some (.bl (xor neg (decide (s = t))), h) := eqD_ss
@[simp] theorem eqD_ii {neg : Bool} {s t : Int} : eqD neg (.int s) (.int t) h = some (.bl (xor neg (decide (s = t))), h) := by
  have e : (s == t) = decide (s = t) := by
    by_cases e : s = t
    · subst e; simp
    · rw [decide_eq_false e, beq_eq_false_iff_ne]; exact e
  simp only [eqD, toDat, D.dat, okD, PyData.plain, PyData.depth, PyData.eqv, e]
  simp
@[simp] theorem eqD_bb {neg : Bool} {s t : Bool} : eqD neg (.bl s) (.bl t) h = some (.bl (xor neg (s == t)), h) := by
  simp only [eqD, toDat, D.dat, okD, PyData.plain, PyData.depth, PyData.eqv]
  simp
@[simp] theorem lenL_str {s : List Nat} (hl : s.length ≤ 16777216) : lenL [.str s] h = some (.int s.length, h) := by simp [lenL, lenD, hl]
@[simp] theorem lenL_tup {s : List D} : lenL [.tup s] h = some (.int s.length, h) := id rfl
theorem lenL_lst {n : Nat} {s : List D} (e : h[n]? = some (.lst s)) : lenL [.ref n] h = some (.int s.length, h) := by simp [lenL, lenD, e]
theorem lenL_scr {n : Nat} {s : List D} (e : h[n]? = some (.scr s)) : lenL [.ref n] h = some (.int s.length, h) := by simp [lenL, lenD, e]
@[simp] theorem truD_non : truD .non h = some false := id rfl
@[simp] theorem truD_bl {b : Bool} : truD (.bl b) h = some b := id rfl
@[simp] theorem truD_int {b : Int} : truD (.int b) h = some (b != 0) := id rfl
theorem truD_str {s : List Nat} (hl : s.length ≤ 16777216) : truD (.str s) h = some (!s.isEmpty) := by simp [truD, hl]
@[simp] theorem truD_tup {s : List D} : truD (.tup s) h = some (!s.isEmpty) := id rfl
theorem truD_lst {n : Nat} {s : List D} (e : h[n]? = some (.lst s)) : truD (.ref n) h = some (!s.isEmpty) := by simp [truD, e]
theorem truD_scr {n : Nat} {s : List D} (e : h[n]? = some (.scr s)) : truD (.ref n) h = some (!s.isEmpty) := by simp [truD, e]
@[simp] theorem gStr_str {s : List Nat} : gStr (.str s) h = true := id rfl
theorem gLst_lst {n : Nat} {s : List D} (e : h[n]? = some (.lst s)) : gLst (.ref n) h = true := by simp [gLst, e]
theorem mAppend_at {n : Nat} {s : List D} {d : D} (e : h[n]? = some (.lst s)) (hl : s.length < 16777216) : mAppend (.ref n) [d] h = some (.non, h.set n (.lst (s ++ [d]))) := by simp [mAppend, e, hl]
theorem ixD_lst {n : Nat} {s : List D} {i : Int} {d : D} (e : h[n]? = some (.lst s)) (a : atI s i = some d) : ixD (.ref n) (.int i) h = some (d, h) := by simp [ixD, e, a]
theorem ixD_scr {n : Nat} {s : List D} {i : Int} {d : D} (e : h[n]? = some (.scr s)) (a : atI s i = some d) : ixD (.ref n) (.int i) h = some (d, h) := by simp [ixD, e, a]
theorem ixD_tup {s : List D} {i : Int} {d : D} (a : atI s i = some d) : ixD (.tup s) (.int i) h = some (d, h) := by simp [ixD, a]
theorem ixD_str {s : List Nat} {i : Int} {c : Nat} (hl : s.length ≤ 16777216) (a : atI s i = some c) : ixD (.str s) (.int i) h = some (.str [c], h) := by simp [ixD, hl, a]
/-- an item within the bounds -/
theorem atI_in {α : Type} {xs : List α} {i : Int} (h0 : 0 ≤ i) (h1 : i < xs.length) : ∃ x, atI xs i = some x ∧ x ∈ xs := by
  have hi : i.toNat < xs.length := by omega
  refine ⟨xs[i.toNat], ?_, List.getElem_mem _⟩
  unfold atI ixN
  rw [if_pos h0, if_pos h1]
  simp [List.getElem?_eq_getElem hi]
theorem atI_get0 {α : Type} {x : α} {xs : List α} : atI (x :: xs) 0 = some x := by
  unfold atI ixN
  have : (0 : Int) < ((x :: xs).length : Int) := by simp only [List.length_cons]; omega
  simp [this]
end
/-! ### what a call leaves -/
mutual
theorem D.bel_mono {m n : Nat} (hm : m ≤ n) : ∀ d : D, d.bel m = true → d.bel n = true
  | .ref k, h => by simp only [D.bel, decide_eq_true_eq] at h ⊢; omega
  | .tup ds, h => by simp only [D.bel] at h ⊢; exact D.bels_mono hm ds h
  | .non, _ => rfl
  | .bl _, _ => rfl
  | .int _, _ => rfl
  | .str _, _ => rfl
theorem D.bels_mono {m n : Nat} (hm : m ≤ n) : ∀ ds : List D, D.bels m ds = true → D.bels n ds = true
  | [], _ => rfl
  | d :: ds, h => by
    simp only [D.bels, Bool.and_eq_true] at h ⊢
    exact ⟨D.bel_mono hm d h.1, D.bels_mono hm ds h.2⟩
end
theorem O.bel_mono0 {n : Nat} (o : O) (h : o.bel 0 = true) : o.bel n = true := by
  cases o with
  | lst ds => exact D.bels_mono (Nat.zero_le _) _ h
  | scr ds => exact D.bels_mono (Nat.zero_le _) _ h
  | dct kvs =>
    simp only [O.bel, bKV, List.all_eq_true, Bool.and_eq_true] at h ⊢
    exact fun p hp => ⟨D.bel_mono (Nat.zero_le _) _ (h p hp).1, D.bel_mono (Nat.zero_le _) _ (h p hp).2⟩
  | dcT kvs =>
    simp only [O.bel, bKV, List.all_eq_true, Bool.and_eq_true] at h ⊢
    exact fun p hp => ⟨D.bel_mono (Nat.zero_le _) _ (h p hp).1, D.bel_mono (Nat.zero_le _) _ (h p hp).2⟩
  | lck kvs =>
    simp only [O.bel, bKV, List.all_eq_true, Bool.and_eq_true] at h ⊢
    exact fun p hp => ⟨D.bel_mono (Nat.zero_le _) _ (h p hp).1, D.bel_mono (Nat.zero_le _) _ (h p hp).2⟩
  | lcT kvs =>
    simp only [O.bel, bKV, List.all_eq_true, Bool.and_eq_true] at h ⊢
    exact fun p hp => ⟨D.bel_mono (Nat.zero_le _) _ (h p hp).1, D.bel_mono (Nat.zero_le _) _ (h p hp).2⟩
  | ins C fs =>
    simp only [O.bel, bF, List.all_eq_true] at h ⊢
    exact fun p hp => D.bel_mono (Nat.zero_le _) _ (h p hp)
theorem gcable_app {h g : AH} : gcable h (h ++ g) := ⟨by simp, fun i hi => .inl (by rw [List.getElem?_append_left hi])⟩
theorem gcable_set {h g : AH} {t : Nat} {o : O} (ho : o.bel h.length = true) : gcable h (h.set t o ++ g) := ⟨by simp, fun i hi => by
  rw [List.getElem?_append_left (by simpa using hi)]
  by_cases e : t = i
  · subst e
    exact .inr ⟨o, by rw [List.getElem?_set_self hi], ho⟩
  · exact .inl (by rw [List.getElem?_set_ne e])⟩
theorem gcR_ok {h h' : AH} {d : D} (g : gcable h h') (b : d.bel h.length = true) : gcR h (.ok d h') = .ok d (h'.take h.length) := by
  dsimp only [gcR]
  rw [if_pos g, if_pos b]
theorem gcR_exc {h h' : AH} {x : Str} (g : gcable h h') : gcR h (.exc x h') = .exc x (h'.take h.length) := by
  dsimp only [gcR]
  rw [if_pos g]
theorem gcR_new {h h' : AH} {m : Nat} {o : O} (g : gcable h h') (hm : h.length ≤ m) (e : h'[m]? = some o) (b : o.bel h.length = true) (hs : isScr o = false) : gcR h (.ok (.ref m) h') = .ok (.ref h.length) (h'.take h.length ++ [o]) := by
  dsimp only [gcR]
  have hb : ¬ (D.ref m).bel h.length = true := by simp only [D.bel, decide_eq_true_eq]; omega
  rw [if_pos g, if_neg hb]
  simp [e, b, hs]
/-- a def that leaves all as it was and tells a plain value -/
theorem gc_ok {F : Fn} {ds : List D} {h g : AH} {d : D} (e : F ds h = .ok d (h ++ g)) (b : d.bel 0 = true) : gcF F ds h = .ok d h := by
  unfold gcF
  rw [e, gcR_ok gcable_app (D.bel_mono (Nat.zero_le _) d b), List.take_left']
  rfl
theorem gc_exc {F : Fn} {ds : List D} {h g : AH} {x : Str} (e : F ds h = .exc x (h ++ g)) : gcF F ds h = .exc x h := by
  unfold gcF
  rw [e, gcR_exc gcable_app, List.take_left']
  rfl
theorem gc_new {F : Fn} {ds : List D} {h g : AH} {m : Nat} {o : O} (e : F ds h = .ok (.ref m) (h ++ g)) (hm : h.length ≤ m) (eo : g[m - h.length]? = some o) (b : o.bel 0 = true) (hs : isScr o = false) : gcF F ds h = .ok (.ref h.length) (h ++ [o]) := by
  unfold gcF
  rw [e, gcR_new gcable_app hm (by rw [List.getElem?_append_right hm]; exact eo) (O.bel_mono0 o b) hs, List.take_left']
  rfl
theorem gc_set {F : Fn} {ds : List D} {h g : AH} {d : D} {t : Nat} {o : O} (e : F ds h = .ok d (h.set t o ++ g)) (b : d.bel 0 = true) (ho : o.bel 0 = true) : gcF F ds h = .ok d (h.set t o) := by
  unfold gcF
  rw [e, gcR_ok (gcable_set (O.bel_mono0 o ho)) (D.bel_mono (Nat.zero_le _) d b), List.take_left' (by simp)]
theorem runF_eq {n np : Nat} {t : SS} {ds : List D} {h : AH} (hl : ds.length = np) : runF n np t ds h = match t (ds.map some ++ List.replicate (n - np) none) h with
  | .nx _ h' => .ok .non h'
  | .rt d h' => .ok d h'
  | .exc x _ h' => .exc x h'
  | _ => .bad := if_pos hl
/-! ### heaps -/
theorem get_app {h g : AH} {n : Nat} {o : O} (e : h[n]? = some o) : (h ++ g)[n]? = some o := by
  rw [List.getElem?_append_left (List.getElem?_eq_some_iff.mp e).1]; exact e
@[simp] theorem get_new {h g : AH} (k : Nat) : (h ++ g)[h.length + k]? = g[k]? := by
  rw [List.getElem?_append_right (Nat.le_add_right _ _), Nat.add_sub_cancel_left]
@[simp] theorem get_new0 {h g : AH} : (h ++ g)[h.length]? = g[0]? := get_new 0
@[simp] theorem set_new {h g : AH} (k : Nat) {o : O} : (h ++ g).set (h.length + k) o = h ++ g.set k o := by
  rw [List.set_append_right _ _ (Nat.le_add_right _ _), Nat.add_sub_cancel_left]
@[simp] theorem set_new0 {h g : AH} {o : O} : (h ++ g).set h.length o = h ++ g.set 0 o := set_new 0
/-! ### the law's own draws -/
def drawn (c k m : Int) : Int := ((c + 104729 * k) % 4294967291 * ((c + 104729 * k) % 4294967291) % 4294967279 * 48271 % 4294967291 / 64) % m
def T0 (k : Nat) : O := .lst (List.replicate k (.int 0))
theorem T0_bel (k : Nat) : (T0 k).bel 0 = true := by
  show D.bels 0 (List.replicate k (.int 0)) = true
  induction k with
  | zero => rfl
  | succ k ih => rw [List.replicate_succ]; simp only [D.bels, Bool.and_eq_true]; exact ⟨rfl, ih⟩
theorem T0_snoc (k : Nat) : O.lst (List.replicate k (.int 0) ++ [.int 0]) = T0 (k + 1) := by
  unfold T0
  rw [List.replicate_succ']
end DL


set_option maxRecDepth 100000
namespace DL
open PySem PySem.Spec PyProof.Rows L2

/-! ## loops and comprehensions -/
theorem compL_pure {gd : AH → Prop} {g : GF} {ft : SB} {fe : SE} {vs : List Nat} {σ : Lc} {h : AH} (p : D → Bool) (f : D → D) (hgd : ∀ acc, gd (h ++ [.lst acc])) : ∀ (items acc : List D), acc.length + items.length ≤ 16777216 →
    (∀ d ∈ items, ∀ acc, ∃ σ2, g d (wipeD σ vs) (h ++ [.lst acc]) = some σ2 ∧ ft σ2 (h ++ [.lst acc]) = .ok (p d) (h ++ [.lst acc]) ∧ (p d = true → fe σ2 (h ++ [.lst acc]) = .ok (f d) (h ++ [.lst acc]))) →
    compL gd g ft fe vs h.length items σ (h ++ [.lst acc]) = .ok (.ref h.length) (h ++ [.lst (acc ++ (items.filter p).map f)])
  | [], acc, _, _ => by
    unfold compL
    rw [if_pos (hgd acc)]
    simp
  | d :: ds, acc, hl, hb => by
    simp only [List.length_cons] at hl
    unfold compL
    rw [if_pos (hgd acc)]
    obtain ⟨σ2, e1, e2, e3⟩ := hb d (by simp) acc
    rw [e1]
    dsimp only
    rw [e2]
    dsimp only
    have rec_ := fun acc hl => compL_pure (gd := gd) (g := g) (ft := ft) (fe := fe) (vs := vs) (σ := σ) (h := h) p f hgd ds acc hl fun d hd => hb d (List.mem_cons_of_mem _ hd)
    by_cases hp : p d = true
    · rw [if_pos hp, e3 hp]
      dsimp only
      simp only [get_new0, List.getElem?_cons_zero]
      rw [if_pos (by omega)]
      simp only [set_new0, List.set_cons_zero]
      rw [rec_ (acc ++ [f d]) (by simp; omega), List.filter_cons_of_pos hp]
      simp
    · rw [if_neg hp, rec_ acc (by omega), List.filter_cons_of_neg hp]
theorem dComp_pure {fi : SI} {g : GF} {ft : SB} {fe : SE} {vs : List Nat} {σ : Lc} {h h1 : AH} {items : List D} {gd : AH → Prop} (hi : fi σ h = .ok items gd h1) (p : D → Bool) (f : D → D) (hgd : ∀ acc, gd (h1 ++ [.lst acc])) (hl : items.length ≤ 16777216)
    (hb : ∀ d ∈ items, ∀ acc, ∃ σ2, g d (wipeD σ vs) (h1 ++ [.lst acc]) = some σ2 ∧ ft σ2 (h1 ++ [.lst acc]) = .ok (p d) (h1 ++ [.lst acc]) ∧ (p d = true → fe σ2 (h1 ++ [.lst acc]) = .ok (f d) (h1 ++ [.lst acc]))) :
    dComp fi g ft fe vs σ h = .ok (.ref h1.length) (h1 ++ [.lst ((items.filter p).map f)]) := by
  unfold dComp
  rw [hi]
  dsimp only
  rw [compL_pure p f hgd items [] (by simpa using hl) hb]
  simp
/-- no test -/
theorem dComp_map {fi : SI} {g : GF} {fe : SE} {vs : List Nat} {σ : Lc} {h h1 : AH} {items : List D} {gd : AH → Prop} (hi : fi σ h = .ok items gd h1) (f : D → D) (hgd : ∀ acc, gd (h1 ++ [.lst acc])) (hl : items.length ≤ 16777216)
    (hb : ∀ d ∈ items, ∀ acc, ∃ σ2, g d (wipeD σ vs) (h1 ++ [.lst acc]) = some σ2 ∧ fe σ2 (h1 ++ [.lst acc]) = .ok (f d) (h1 ++ [.lst acc])) :
    dComp fi g bYes fe vs σ h = .ok (.ref h1.length) (h1 ++ [.lst (items.map f)]) := by
  rw [dComp_pure (ft := bYes) hi (fun _ => true) f hgd hl fun d hd acc => let ⟨σ2, a, b⟩ := hb d hd acc; ⟨σ2, a, rfl, fun _ => b⟩]
  rw [List.filter_eq_self.mpr (fun _ _ => rfl)]
/-- the same, over any list that the items are made of -/
theorem compL_A {α : Type} {gd : AH → Prop} {g : GF} {ft : SB} {fe : SE} {vs : List Nat} {σ : Lc} {h : AH} (ι : α → D) (p : α → Bool) (f : α → D) (hgd : ∀ acc, gd (h ++ [.lst acc])) : ∀ (xs : List α) (acc : List D), acc.length + xs.length ≤ 16777216 →
    (∀ x ∈ xs, ∀ acc, ∃ σ2, g (ι x) (wipeD σ vs) (h ++ [.lst acc]) = some σ2 ∧ ft σ2 (h ++ [.lst acc]) = .ok (p x) (h ++ [.lst acc]) ∧ (p x = true → fe σ2 (h ++ [.lst acc]) = .ok (f x) (h ++ [.lst acc]))) →
    compL gd g ft fe vs h.length (xs.map ι) σ (h ++ [.lst acc]) = .ok (.ref h.length) (h ++ [.lst (acc ++ (xs.filter p).map f)])
  | [], acc, _, _ => by
    show compL gd g ft fe vs h.length [] σ (h ++ [.lst acc]) = _
    unfold compL
    rw [if_pos (hgd acc)]
    simp
  | d :: ds, acc, hl, hb => by
    simp only [List.length_cons] at hl
    rw [List.map_cons]
    unfold compL
    rw [if_pos (hgd acc)]
    obtain ⟨σ2, e1, e2, e3⟩ := hb d (by simp) acc
    rw [e1]
    dsimp only
    rw [e2]
    dsimp only
    have rec_ := fun acc hl => compL_A (gd := gd) (g := g) (ft := ft) (fe := fe) (vs := vs) (σ := σ) (h := h) ι p f hgd ds acc hl fun d hd => hb d (List.mem_cons_of_mem _ hd)
    by_cases hp : p d = true
    · rw [if_pos hp, e3 hp]
      dsimp only
      simp only [get_new0, List.getElem?_cons_zero]
      rw [if_pos (by omega)]
      simp only [set_new0, List.set_cons_zero]
      rw [rec_ (acc ++ [f d]) (by simp; omega), List.filter_cons_of_pos hp]
      simp
    · rw [if_neg hp, rec_ acc (by omega), List.filter_cons_of_neg hp]
theorem dComp_A {α : Type} {fi : SI} {g : GF} {ft : SB} {fe : SE} {vs : List Nat} {σ : Lc} {h h1 : AH} {gd : AH → Prop} (xs : List α) (ι : α → D) (hi : fi σ h = .ok (xs.map ι) gd h1) (p : α → Bool) (f : α → D) (hgd : ∀ acc, gd (h1 ++ [.lst acc])) (hl : xs.length ≤ 16777216)
    (hb : ∀ x ∈ xs, ∀ acc, ∃ σ2, g (ι x) (wipeD σ vs) (h1 ++ [.lst acc]) = some σ2 ∧ ft σ2 (h1 ++ [.lst acc]) = .ok (p x) (h1 ++ [.lst acc]) ∧ (p x = true → fe σ2 (h1 ++ [.lst acc]) = .ok (f x) (h1 ++ [.lst acc]))) :
    dComp fi g ft fe vs σ h = .ok (.ref h1.length) (h1 ++ [.lst ((xs.filter p).map f)]) := by
  unfold dComp
  rw [hi]
  dsimp only
  rw [compL_A ι p f hgd xs [] (by simpa using hl) hb]
  simp
theorem dComp_mapA {α : Type} {fi : SI} {g : GF} {fe : SE} {vs : List Nat} {σ : Lc} {h h1 : AH} {gd : AH → Prop} (xs : List α) (ι : α → D) (hi : fi σ h = .ok (xs.map ι) gd h1) (f : α → D) (hgd : ∀ acc, gd (h1 ++ [.lst acc])) (hl : xs.length ≤ 16777216)
    (hb : ∀ x ∈ xs, ∀ acc, ∃ σ2, g (ι x) (wipeD σ vs) (h1 ++ [.lst acc]) = some σ2 ∧ fe σ2 (h1 ++ [.lst acc]) = .ok (f x) (h1 ++ [.lst acc])) :
    dComp fi g bYes fe vs σ h = .ok (.ref h1.length) (h1 ++ [.lst (xs.map f)]) := by
  rw [dComp_A (ft := bYes) xs ι hi (fun _ => true) f hgd hl fun d hd acc => let ⟨σ2, a, b⟩ := hb d hd acc; ⟨σ2, a, rfl, fun _ => b⟩]
  rw [List.filter_eq_self.mpr (fun _ _ => rfl)]
@[simp] theorem iSeq_eq {f : SE} {σ : Lc} {h : AH} : iSeq f σ h = (f σ h).bindI iK := id rfl
@[simp] theorem iK_tup {ds : List D} {h : AH} : iK (.tup ds) h = .ok ds (fun _ => True) h := id rfl
@[simp] theorem iK_str {s : List Nat} {h : AH} : iK (.str s) h = .ok (s.map fun c => .str [c]) (fun _ => True) h := id rfl
theorem iK_lst {n : Nat} {ds : List D} {h : AH} (e : h[n]? = some (.lst ds)) : iK (.ref n) h = .ok ds (fun h' => h'[n]? = some (.lst ds)) h := by simp [iK, e]
@[simp] theorem iRng1_eq {fs : SA} {σ : Lc} {h : AH} : iRng1 fs σ h = (fs σ h).bindI iRg1K := id rfl
theorem iRg1K_nat {n : Nat} {h : AH} (hn : n < 1000000) : iRg1K [.int n] h = .ok (iota 0 n) (fun _ => True) h := by
  have : small62 n = true := by simp only [small62, Bool.and_eq_true, decide_eq_true_eq]; omega
  simp [iRg1K, this]
theorem iRg1K_int {n : Int} {h : AH} (h0 : 0 ≤ n) (hn : n < 1000000) : iRg1K [.int n] h = .ok (iota 0 n.toNat) (fun _ => True) h := by
  have : small62 n = true := by simp only [small62, Bool.and_eq_true, decide_eq_true_eq]; omega
  simp [iRg1K, this]
@[simp] theorem gNm_eq {i : Nat} {d : D} {σ : Lc} {h : AH} : gNm i d σ h = some (σ.set i (some d)) := id rfl
@[simp] theorem wipeD_nil {σ : Lc} : wipeD σ [] = σ := id rfl
@[simp] theorem wipeD_cons {σ : Lc} {v : Nat} {vs : List Nat} : wipeD σ (v :: vs) = (wipeD σ vs).set v none := id rfl
/-- a for loop: I holds ahead of each turn; a turn goes on, or ends all by a P -/
theorem forL_inv {gd : AH → Prop} {g : GF} {body : SS} (I : Nat → Lc → AH → Prop) (P : RS → Prop) : ∀ (items : List D) (k : Nat) (σ : Lc) (h : AH), I k σ h → (∀ i σ h, I i σ h → gd h) →
    (∀ i σ h d, items[i]? = some d → I (k + i) σ h → ∃ σ', g d σ h = some σ' ∧ ((∃ σ2 h2, (body σ' h = .nx σ2 h2 ∨ body σ' h = .ct σ2 h2) ∧ I (k + i + 1) σ2 h2) ∨ ((∀ a b, body σ' h ≠ .nx a b) ∧ (∀ a b, body σ' h ≠ .ct a b) ∧ (∀ a b, body σ' h ≠ .bk a b) ∧ P (body σ' h)))) →
    (∃ σ' h', forL gd g body items σ h = .nx σ' h' ∧ I (k + items.length) σ' h') ∨ P (forL gd g body items σ h)
  | [], k, σ, h, i0, hg, _ => by
    unfold forL
    rw [if_pos (hg _ _ _ i0)]
    exact .inl ⟨σ, h, rfl, i0⟩
  | d :: ds, k, σ, h, i0, hg, hs => by
    unfold forL
    rw [if_pos (hg _ _ _ i0)]
    obtain ⟨σ', e1, e2⟩ := hs 0 σ h d rfl i0
    rw [e1]
    dsimp only
    have rec_ := fun σ2 h2 (i2 : I (k + 1) σ2 h2) => forL_inv (gd := gd) (g := g) (body := body) I P ds (k + 1) σ2 h2 i2 hg fun i σ h d' hd hI => by
      have := hs (i + 1) σ h d' (by simpa using hd) (by rw [show k + (i + 1) = k + 1 + i by omega]; exact hI)
      rw [show k + (i + 1) + 1 = k + 1 + i + 1 by omega] at this
      exact this
    rcases e2 with ⟨σ2, h2, e3 | e3, i2⟩ | ⟨n1, n2, n3, p⟩
    · rw [e3]
      dsimp only
      rcases rec_ σ2 h2 i2 with ⟨a, b, c, e⟩ | c
      · exact .inl ⟨a, b, c, by rw [List.length_cons, show k + (ds.length + 1) = k + 1 + ds.length by omega]; exact e⟩
      · exact .inr c
    · rw [e3]
      dsimp only
      rcases rec_ σ2 h2 i2 with ⟨a, b, c, e⟩ | c
      · exact .inl ⟨a, b, c, by rw [List.length_cons, show k + (ds.length + 1) = k + 1 + ds.length by omega]; exact e⟩
      · exact .inr c
    · refine .inr ?_
      cases q : body σ' h with
      | nx a b => exact absurd q (n1 a b)
      | ct a b => exact absurd q (n2 a b)
      | bk a b => exact absurd q (n3 a b)
      | rt a b => rw [q] at p; exact p
      | exc x a b => rw [q] at p; exact p
      | bad => rw [q] at p; exact p
/-- .. that never ends early -/
theorem forL_all {gd : AH → Prop} {g : GF} {body : SS} {items : List D} {σ : Lc} {h : AH} (I : Nat → Lc → AH → Prop) (i0 : I 0 σ h) (hg : ∀ i σ h, I i σ h → gd h)
    (hs : ∀ i σ h d, items[i]? = some d → I i σ h → ∃ σ' σ2 h2, g d σ h = some σ' ∧ (body σ' h = .nx σ2 h2 ∨ body σ' h = .ct σ2 h2) ∧ I (i + 1) σ2 h2) : ∃ σ' h', forL gd g body items σ h = .nx σ' h' ∧ I items.length σ' h' := by
  rcases forL_inv I (fun _ => False) items 0 σ h i0 hg fun i σ h d hd hI => by
      rw [Nat.zero_add] at hI ⊢
      obtain ⟨σ', σ2, h2, a, b, c⟩ := hs i σ h d hd hI
      exact ⟨σ', a, .inl ⟨σ2, h2, b, c⟩⟩ with ⟨a, b, c, e⟩ | c
  · exact ⟨a, b, c, by rw [Nat.zero_add] at e; exact e⟩
  · exact c.elim
@[simp] theorem sFor_eq {fi : SI} {g : GF} {body : SS} {σ : Lc} {h : AH} : sFor fi g body σ h = match fi σ h with
  | .ok items gd h1 => forL gd g body items σ h1
  | .exc x h1 => .exc x σ h1
  | .bad => .bad := id rfl
theorem forL_nil {gd : AH → Prop} {g : GF} {body : SS} {σ : Lc} {h : AH} (hg : gd h) : forL gd g body [] σ h = .nx σ h := by unfold forL; rw [if_pos hg]
theorem forL_cons {gd : AH → Prop} {g : GF} {body : SS} {d : D} {ds : List D} {σ σ' : Lc} {h : AH} (hg : gd h) (e : g d σ h = some σ') : forL gd g body (d :: ds) σ h = match body σ' h with
      | .nx σ2 h2 => forL gd g body ds σ2 h2
      | .ct σ2 h2 => forL gd g body ds σ2 h2
      | .bk σ2 h2 => .nx σ2 h2
      | r => r := by
  conv => lhs; unfold forL
  rw [if_pos hg, e]
  try rfl
/-- while, by a measure -/
theorem while_inv {ft : SB} {body : SS} (I : Lc → AH → Prop) (μ : Lc → AH → Nat) (Q : RS → Prop)
    (hs : ∀ σ h, I σ h → (∃ h1, ft σ h = .ok false h1 ∧ Q (.nx σ h1)) ∨ ∃ h1 σ2 h2, ft σ h = .ok true h1 ∧ (body σ h1 = .nx σ2 h2 ∨ body σ h1 = .ct σ2 h2) ∧ I σ2 h2 ∧ μ σ2 h2 < μ σ h) (hq : ¬ Q .bad) :
    ∀ σ h, I σ h → Q (sWhile ft body σ h) := by
  have key : ∀ n σ h, I σ h → μ σ h < n → ∃ m, Q (whileN ft body m σ h) := by
    intro n
    induction n with
    | zero => intro σ h _ hl; omega
    | succ n ih =>
      intro σ h i hl
      rcases hs σ h i with ⟨h1, e, q⟩ | ⟨h1, σ2, h2, e, eb, i2, l⟩
      · refine ⟨1, ?_⟩
        unfold whileN
        rw [e]
        exact q
      · obtain ⟨m, q⟩ := ih σ2 h2 i2 (by omega)
        refine ⟨m + 1, ?_⟩
        unfold whileN
        rw [e]
        rcases eb with eb | eb
        · simp only [RT.bindS_ok, if_true, eb]; exact q
        · simp only [RT.bindS_ok, if_true, eb]; exact q
  intro σ h i
  obtain ⟨m, q⟩ := key _ σ h i (Nat.lt_succ_self _)
  have hb : whileN ft body m σ h ≠ .bad := fun z => by rw [z] at q; exact hq q
  rw [sWhile_eq hb]
  exact q
/-! ### texts -/
def txs (ws : List (List Nat)) : List D := ws.map .str
theorem txs_bel (n : Nat) (ws : List (List Nat)) : D.bels n (txs ws) = true := by
  unfold txs
  induction ws with
  | nil => rfl
  | cons w ws ih => simp only [List.map_cons, D.bels, D.bel, ih, Bool.and_true]
@[simp] theorem txs_length {ws : List (List Nat)} : (txs ws).length = ws.length := List.length_map _
@[simp] theorem txs_isEmpty {ws : List (List Nat)} : (txs ws).isEmpty = ws.isEmpty := by cases ws <;> rfl
@[simp] theorem txs_nil : txs [] = [] := id rfl
@[simp] theorem txs_cons {w : List Nat} {ws : List (List Nat)} : txs (w :: ws) = .str w :: txs ws := id rfl
theorem txs_drop {n : Nat} {ws : List (List Nat)} : (txs ws).drop n = txs (ws.drop n) := by unfold txs; rw [List.map_drop]
theorem txs_dropLast {ws : List (List Nat)} : (txs ws).dropLast = txs ws.dropLast := by unfold txs; rw [List.map_dropLast]
theorem txs_app {ws us : List (List Nat)} : txs (ws ++ us) = txs ws ++ txs us := by unfold txs; rw [List.map_append]
theorem txs_mem {w : List Nat} {ws : List (List Nat)} : D.str w ∈ txs ws ↔ w ∈ ws := by
  unfold txs
  rw [List.mem_map]
  exact ⟨fun ⟨a, h, e⟩ => by cases e; exact h, fun h => ⟨w, h, rfl⟩⟩
theorem txs_get {ws : List (List Nat)} {i : Nat} {d : D} (h : (txs ws)[i]? = some d) : ∃ w, ws[i]? = some w ∧ d = .str w := by
  unfold txs at h
  rw [List.getElem?_map] at h
  cases e : ws[i]? with
  | none => rw [e] at h; cases h
  | some w => rw [e] at h; cases h; exact ⟨w, rfl, rfl⟩

theorem subStr_one {c : Nat} {t : List Nat} : subStr [c] t = decide (c ∈ t) := by
  unfold subStr
  have := PySem.StrLaws.found_one (S t) c
  rw [S_length] at this
  exact this
theorem inD_one {neg : Bool} {c : Nat} {t : List Nat} {h : AH} : inD neg (.str [c]) (.str t) h = some (.bl (xor neg (decide (c ∈ t))), h) := by
  simp only [inD, subStr_one]
theorem inD_str {neg : Bool} {s t : List Nat} {h : AH} : inD neg (.str s) (.str t) h = some (.bl (xor neg (subStr s t)), h) := rfl
theorem strsOf_map {ws : List (List Nat)} : strsOf (txs ws) = some (ws.map S) := by
  induction ws with
  | nil => rfl
  | cons w ws ih => simp only [txs_cons, List.map_cons, strsOf, ih, Option.map_some]
theorem joinL_nil : ∀ ps : List (List Nat), TL.joinL [] ps = ps.flatten
  | [] => rfl
  | [p] => by simp [TL.joinL]
  | p :: q :: r => by
    have := joinL_nil (q :: r)
    simp only [TL.joinL, List.append_nil] at this ⊢
    rw [this]; simp
theorem join_cps {sep : List Nat} {ws : List (List Nat)} : (Txt.join (S sep) (ws.map S)).cps.toList = TL.joinL sep ws := by
  rw [TL.join_eq, ← show TL.tl (PySem.Str.join (S sep) (ws.map S)) = (PySem.Str.join (S sep) (ws.map S)).cps.toList from rfl, TL.tl_join]
  congr 1
  rw [List.map_map]
  exact List.map_id' ws
def joinLen (sep : List Nat) (ws : List (List Nat)) : Nat := (ws.map (·.length)).sum + ws.length * sep.length
theorem mJoin_lst {sep : List Nat} {ws : List (List Nat)} {n : Nat} {h : AH} (e : h[n]? = some (.lst (txs ws))) (hl : joinLen sep ws ≤ 16777216) : mJoin (.str sep) [.ref n] h = some (.str (TL.joinL sep ws), h) := by
  have hl' : ((ws.map S).map (·.length)).sum + (ws.map S).length * sep.length ≤ 16777216 := by
    rw [List.map_map, List.length_map]
    have : (ws.map ((fun x => x.length) ∘ S)) = ws.map (·.length) := by
      apply List.map_congr_left
      intro a _
      exact S_length a
    rw [this]; exact hl
  simp only [mJoin, itemsD, e, Option.bind_some, strsOf_map, if_pos hl', join_cps]
theorem mJoin_tup {sep : List Nat} {ws : List (List Nat)} {h : AH} (hl : joinLen sep ws ≤ 16777216) : mJoin (.str sep) [.tup (txs ws)] h = some (.str (TL.joinL sep ws), h) := by
  have hl' : ((ws.map S).map (·.length)).sum + (ws.map S).length * sep.length ≤ 16777216 := by
    rw [List.map_map, List.length_map]
    have : (ws.map ((fun x => x.length) ∘ S)) = ws.map (·.length) := by
      apply List.map_congr_left
      intro a _
      exact S_length a
    rw [this]; exact hl
  simp only [mJoin, itemsD, Option.bind_some, strsOf_map, if_pos hl', join_cps]
/-- split at one sign -/
def splitC (c : Nat) (l : List Nat) : List (List Nat) := TL.spl [c] 0 [] l
theorem parts_split {c : Nat} (hc : c < 256) (s : List Nat) : parts (Txt.split (S s) (S [c])) = txs (splitC c s) := by
  have h := TL.split_spl (S s) (S [c]) (by simp) (TL.kind_ok (by simp [hc]))
  unfold splitC
  have h' : (Txt.split (S s) (S [c])).map (fun x : Str => x.cps.toList) = TL.spl [c] 0 [] s := h
  rw [← h', txs, List.map_map]
  rfl
theorem mSplit_one {c : Nat} (hc : c < 256) {s : List Nat} {h : AH} (hl : s.length ≤ 1000000) : mSplit (.str s) [.str [c]] h = some (.ref h.length, h ++ [.lst (txs (splitC c s))]) := by
  unfold mSplit
  dsimp only
  rw [if_pos ⟨by simp, by omega⟩, parts_split hc]
def wordsL (s : List Nat) : List (List Nat) := TL.wfin (s.foldl TL.wstep ([], []))
theorem parts_words (s : List Nat) : parts (Txt.words (S s)) = txs (wordsL s) := by
  have h := TL.words_tl (S s)
  have h' : (Txt.words (S s)).map (fun x : Str => x.cps.toList) = wordsL s := h
  rw [← h', txs, List.map_map]
  rfl
theorem mWords_eq {s : List Nat} {h : AH} (hl : s.length ≤ 1000000) : mWords (.str s) [] h = some (.ref h.length, h ++ [.lst (txs (wordsL s))]) := by
  unfold mWords
  dsimp only
  rw [if_pos (by omega), parts_words]
/-! ### cuts -/
theorem cut_hi {α : Type} {xs : List α} {k : Nat} : cut xs none (some (k : Int)) = xs.take k := by
  unfold cut
  rw [HT.sIx_none, HT.sIx_nat, List.drop_zero, Nat.sub_zero, ← List.take_eq_take_min]
theorem cut_lo {α : Type} {xs : List α} {k : Nat} : cut xs (some (k : Int)) none = xs.drop k := by
  unfold cut
  rw [HT.sIx_none, HT.sIx_nat]
  by_cases h : k ≤ xs.length
  · rw [Nat.min_eq_left h, List.take_of_length_le (by rw [List.length_drop]; omega)]
  · rw [Nat.min_eq_right (by omega), List.drop_eq_nil_of_le (show xs.length ≤ k by omega), List.drop_length]; simp
theorem cut_but1 {α : Type} {xs : List α} : cut xs none (some (-1 : Int)) = xs.dropLast := by
  unfold cut
  rw [HT.sIx_none, List.drop_zero, Nat.sub_zero, List.dropLast_eq_take]
  congr 1
  unfold HT.sIx
  simp
  omega
theorem slK_str {s : List Nat} {lo hi : Option Int} {h : AH} (hl : s.length ≤ 16777216) : slK (.str s) lo hi h = some (.str (cut s lo hi), h) := by simp [slK, hl]
@[simp] theorem slK_tup {s : List D} {lo hi : Option Int} {h : AH} : slK (.tup s) lo hi h = some (.tup (cut s lo hi), h) := id rfl
theorem slK_lst {n : Nat} {s : List D} {lo hi : Option Int} {h : AH} (e : h[n]? = some (.lst s)) : slK (.ref n) lo hi h = some (.ref h.length, h ++ [.lst (cut s lo hi)]) := by simp [slK, e]
end DL


set_option maxRecDepth 100000
namespace DL
open PySem PySem.Spec PyProof.Rows L2
def draw_head (z : Int) : SS → SS := fun t => (sSeq (sDrop (dMt gLst mAppend (dVar 1) (dCons (dC (.int 0)) dNil)))
  (sSeq (sSet 3 (dCallB lenL (dCons (dVar 1) dNil)))
  (sSeq (sSet 4 (dC (.int z)))
  (sSeq (sIf (dTru (dVar 0))
   (sSet 4 (dBin ixD (dVar 0) (dBin modD (dVar 3) (dCallB lenL (dCons (dVar 0) dNil)))))
   sNil) t))))
def draw_tail : SS := 
  (sSeq (sSet 5 (dBin modD (dBin addD (dVar 4) (dBin mulD (dC (.int 104729)) (dVar 3))) (dC (.int 4294967291))))
  (sSeq (sSet 5 (dBin modD (dBin mulD (dBin modD (dBin mulD (dVar 5) (dVar 5)) (dC (.int 4294967279))) (dC (.int 48271))) (dC (.int 4294967291))))
  (sRet (dBin modD (dBin fdivD (dVar 5) (dC (.int 64))) (dVar 2)))))
theorem draw_eq : b_law_draw = draw_head 0 draw_tail := rfl
theorem tail_spec {a b : D} {m k c : Int} (hm : 0 < m) {h : AH} : draw_tail [some a, some b, some (.int m), some (.int k), some (.int c), none] h = .rt (.int (drawn c k m)) h := by
  simp [draw_tail, drawn, mulD_l, modD_ii, fdivD_ii, hm]
theorem draw_nil {k : Nat} {m : Int} (hm : 0 < m) {h : AH} {s t : Nat} (ht0 : h[t]? = some (.lst (List.replicate k (.int 0)))) (hk : k < 1000000)
   (ht1 : (h.set t (T0 (k + 1)))[t]? = some (.lst (List.replicate (k + 1) (.int 0)))) (hs1 : (h.set t (T0 (k + 1)))[s]? = some (.scr [])) (z : Int)
 :    draw_head z draw_tail [some (.ref s), some (.ref t), some (.int m), none, none, none] h = .rt (.int (drawn z (k+1) m)) (h.set t (T0 (k + 1))) := by
  have : k < 16777216 := by omega
  simp only [draw_head, sSeq_eq]
  have e1 : sDrop (dMt gLst mAppend (dVar 1) (dCons (dC (.int 0)) dNil)) [some (.ref s), some (.ref t), some (.int m), none, none, none] h = .nx [some (.ref s), some (.ref t), some (.int m), none, none, none] (h.set t (T0 (k + 1))) := by
    simp [gLst_lst ht0, mAppend_at ht0, T0_snoc, this]
  rw [e1, RS.bind_nx]
  simp [lenL_lst ht1, truD_scr hs1, tail_spec hm]
theorem draw_spec {ns : List Int} {k : Nat} {m : Int} (hm : 0 < m) {h : AH} {s t : Nat} (hs : h[s]? = some (.scr (ns.map .int))) (ht : h[t]? = some (T0 k)) (hk : k < 1000000) :
    ∃ v : Int, 0 ≤ v ∧ v < m ∧ m_law_draw [.ref s, .ref t, .int m] h = .ok (.int v) (h.set t (T0 (k + 1))) := by
  have htl : t < h.length := (List.getElem?_eq_some_iff.mp ht).1
  have hne : s ≠ t := fun e => by rw [e, ht] at hs; cases hs
  have ht0 : h[t]? = some (.lst (List.replicate k (.int 0))) := ht
  have ht1 : (h.set t (T0 (k + 1)))[t]? = some (.lst (List.replicate (k + 1) (.int 0))) := by rw [List.getElem?_set_self htl]; rfl
  have hs1 : (h.set t (T0 (k + 1)))[s]? = some (.scr (ns.map .int)) := by rw [List.getElem?_set_ne (Ne.symm hne)]; exact hs
  have key : ∃ v : Int, 0 ≤ v ∧ v < m ∧ runF 6 3 b_law_draw [.ref s, .ref t, .int m] h = .ok (.int v) (h.set t (T0 (k + 1)) ++ []) := by
    have dr : ∀ c k' : Int, 0 ≤ drawn c k' m ∧ drawn c k' m < m := fun c k' => ⟨Int.emod_nonneg _ (by omega), Int.emod_lt_of_pos _ hm⟩
    by_cases hn : ns = []
    · subst hn
      refine ⟨drawn 0 (k + 1) m, (dr _ _).1, (dr _ _).2, ?_⟩
      have e := draw_nil hm ht0 hk ht1 hs1 0
      rw [← draw_eq] at e
      simp [runF, e]
    · have hl : 0 < ns.length := List.length_pos_iff.mpr hn
      have hl' : (0 : Int) < ns.length := by omega
      obtain ⟨d, hd, hmem⟩ := atI_in (xs := ns.map D.int) (i := ((k : Int) + 1) % (ns.length : Int)) (Int.emod_nonneg _ (by omega)) (by rw [List.length_map]; exact Int.emod_lt_of_pos _ hl')
      obtain ⟨z, _, rfl⟩ := List.mem_map.mp hmem
      refine ⟨drawn z (k + 1) m, (dr _ _).1, (dr _ _).2, ?_⟩
      rw [draw_eq]
      simp [runF, draw_head, gLst_lst ht0, mAppend_at ht0, T0_snoc, lenL_lst ht1, lenL_scr hs1, truD_scr hs1, modD_ii, hn, hl, ixD_scr hs1 hd, show k < 16777216 by omega, tail_spec hm]
  obtain ⟨v, h0, h1, e⟩ := key
  exact ⟨v, h0, h1, gc_set e rfl (T0_bel _)⟩
theorem pick_lst {ns : List Int} {k : Nat} {h : AH} {s t n : Nat} {ds : List D} (hs : h[s]? = some (.scr (ns.map .int))) (ht : h[t]? = some (T0 k)) (hk : k < 1000000) (hn : h[n]? = some (.lst ds)) (hne : ds ≠ []) (hnt : n ≠ t) (hb : ∀ d ∈ ds, d.bel 0 = true) :
    ∃ d ∈ ds, m_law_pick [.ref s, .ref t, .ref n] h = .ok d (h.set t (T0 (k + 1))) := by
  have hl : 0 < ds.length := List.length_pos_iff.mpr hne
  obtain ⟨v, h0, h1, e⟩ := draw_spec (m := ds.length) (by omega) hs ht hk
  obtain ⟨d, hd, hm⟩ := atI_in (xs := ds) h0 h1
  have hn1 : (h.set t (T0 (k + 1)))[n]? = some (.lst ds) := by rw [List.getElem?_set_ne (Ne.symm hnt)]; exact hn
  refine ⟨d, hm, gc_set (g := []) ?_ (hb d hm) (T0_bel _)⟩
  simp [runF, b_law_pick, lenL_lst hn, e, ixD_lst hn1 hd]

/-! ### the law's heap: the script, the town's ticks, what else there is -/
def W (ns : List Int) (k : Nat) (g : AH) : AH := .scr (ns.map .int) :: T0 k :: g
section
variable {ns : List Int} {k : Nat} {g x : AH}
@[simp] theorem W_app : W ns k g ++ x = W ns k (g ++ x) := rfl
@[simp] theorem W_len : (W ns k g).length = g.length + 2 := rfl
@[simp] theorem W_get {n : Nat} : (W ns k g)[n + 2]? = g[n]? := rfl
@[simp] theorem W_set {n : Nat} {o : O} : (W ns k g).set (n + 2) o = W ns k (g.set n o) := rfl
theorem W_new (j : Nat) : (W ns k (g ++ x))[g.length + j + 2]? = x[j]? := by rw [W_get, get_new]
theorem W_tick {j : Nat} : (W ns k g).set 1 (T0 j) = W ns j g := rfl
theorem W_scr : (W ns k g)[0]? = some (.scr (ns.map .int)) := rfl
theorem W_T0 : (W ns k g)[1]? = some (T0 k) := rfl
theorem draw_W {m : Int} (hm : 0 < m) (hk : k < 1000000) : ∃ v : Int, 0 ≤ v ∧ v < m ∧ m_law_draw [.ref 0, .ref 1, .int m] (W ns k g) = .ok (.int v) (W ns (k + 1) g) :=
  draw_spec hm W_scr W_T0 hk
theorem pick_W {n : Nat} {ds : List D} (hk : k < 1000000) (hn : g[n]? = some (.lst ds)) (hne : ds ≠ []) (hb : ∀ d ∈ ds, d.bel 0 = true) : ∃ d ∈ ds, m_law_pick [.ref 0, .ref 1, .ref (n + 2)] (W ns k g) = .ok d (W ns (k + 1) g) :=
  pick_lst W_scr W_T0 hk hn hne (by omega) hb
theorem gcable_W {j : Nat} : gcable (W ns k g) (W ns j (g ++ x)) := by
  exact gcable_set (h := W ns k g) (g := x) (t := 1) (o := T0 j) (O.bel_mono0 _ (T0_bel j))
theorem take_W {j : Nat} : (W ns j (g ++ x)).take (W ns k g).length = W ns j g := by
  show (O.scr (ns.map .int) :: T0 j :: (g ++ x)).take (g.length + 1 + 1) = _
  rw [List.take_succ_cons, List.take_succ_cons, List.take_left' rfl]
  rfl
/-- a def that draws and tells a plain value -/
theorem gc_W {F : Fn} {ds : List D} {d : D} {j : Nat} (e : F ds (W ns k g) = .ok d (W ns j (g ++ x))) (b : d.bel 0 = true) : gcF F ds (W ns k g) = .ok d (W ns j g) := by
  unfold gcF
  rw [e, gcR_ok gcable_W (D.bel_mono (Nat.zero_le _) d b), take_W]
/-- .. and tells a new list of plain values -/
theorem gc_W_new {F : Fn} {ds : List D} {m j : Nat} {o : O} (e : F ds (W ns k g) = .ok (.ref (m + 2)) (W ns j (g ++ x))) (hm : g.length ≤ m) (eo : x[m - g.length]? = some o) (b : o.bel 0 = true) (hs : isScr o = false) : gcF F ds (W ns k g) = .ok (.ref (g.length + 2)) (W ns j (g ++ [o])) := by
  unfold gcF
  rw [e, gcR_new gcable_W (by rw [W_len]; omega) (o := o) (by rw [W_get, List.getElem?_append_right hm]; exact eo) (O.bel_mono0 o b) hs, take_W]
  rfl
end
end DL


set_option maxRecDepth 100000
namespace DL
open PySem PySem.Spec PyProof.Rows L2

/-! ## names, plain -/
def up (c : Nat) : Bool := decide (65 ≤ c) && decide (c ≤ 90)
def alnum (c : Nat) : Bool := (decide (97 ≤ c) && decide (c ≤ 122)) || (decide (48 ≤ c) && decide (c ≤ 57))
def signName (c : Nat) : List Nat := if up c = true then [c + 32] else if alnum c = true then [c] else if c = 39 then [] else if c = 38 then [45, 97, 110, 100, 45] else [45]
def ne (w : List Nat) : Bool := !w.isEmpty
def wordsOf (t : List Nat) : List (List Nat) := (splitC 45 (t.flatMap signName)).filter ne
def grow : List Nat → List (List Nat) → List Nat
  | n, [] => n
  | n, w :: ws => if 12 < n.length + 1 + w.length then n else grow (n ++ 45 :: w) ws
def madeL : List (List Nat) → List Nat
  | [] => [112, 97, 103, 101]
  | w :: ws => if 12 < w.length then w.take 12 else grow w ws
def made (t : List Nat) : List Nat := madeL (wordsOf t)

/-! ### signs -/
section
variable {c : Nat} {h : AH}
theorem inD_oneP {neg : Bool} {t : List Nat} (p : Bool) (hp : c ∈ t ↔ p = true) : inD neg (.str [c]) (.str t) h = some (.bl (xor neg p), h) := by
  rw [inD_one]
  have : decide (c ∈ t) = p := by rw [Bool.eq_iff_iff, decide_eq_true_iff]; exact hp
  rw [this]
@[simp] theorem in_up {neg : Bool} : inD neg (.str [c]) (.str [65, 66, 67, 68, 69, 70, 71, 72, 73, 74, 75, 76, 77, 78, 79, 80, 81, 82, 83, 84, 85, 86, 87, 88, 89, 90]) h = some (.bl (xor neg (up c)), h) := inD_oneP _ (by
  simp only [up, List.mem_cons, List.mem_nil_iff, Bool.and_eq_true, decide_eq_true_eq, or_false]
  omega)
@[simp] theorem in_small {neg : Bool} : inD neg (.str [c]) (.str [97, 98, 99, 100, 101, 102, 103, 104, 105, 106, 107, 108, 109, 110, 111, 112, 113, 114, 115, 116, 117, 118, 119, 120, 121, 122, 48, 49, 50, 51, 52, 53, 54, 55, 56, 57]) h = some (.bl (xor neg (alnum c)), h) := inD_oneP _ (by
  simp only [alnum, List.mem_cons, List.mem_nil_iff, Bool.and_eq_true, Bool.or_eq_true, decide_eq_true_eq, or_false]
  omega)
def nameC (c : Nat) : Bool := alnum c || decide (c = 45)
@[simp] theorem in_nm {neg : Bool} : inD neg (.str [c]) (.str [97, 98, 99, 100, 101, 102, 103, 104, 105, 106, 107, 108, 109, 110, 111, 112, 113, 114, 115, 116, 117, 118, 119, 120, 121, 122, 48, 49, 50, 51, 52, 53, 54, 55, 56, 57, 45]) h = some (.bl (xor neg (nameC c)), h) := inD_oneP _ (by
  simp only [nameC, alnum, List.mem_cons, List.mem_nil_iff, Bool.and_eq_true, Bool.or_eq_true, decide_eq_true_eq, or_false]
  omega)
@[simp] theorem add_sd : addD (.str [97, 98, 99, 100, 101, 102, 103, 104, 105, 106, 107, 108, 109, 110, 111, 112, 113, 114, 115, 116, 117, 118, 119, 120, 121, 122]) (.str [48, 49, 50, 51, 52, 53, 54, 55, 56, 57]) h = some (.str [97, 98, 99, 100, 101, 102, 103, 104, 105, 106, 107, 108, 109, 110, 111, 112, 113, 114, 115, 116, 117, 118, 119, 120, 121, 122, 48, 49, 50, 51, 52, 53, 54, 55, 56, 57], h) := rfl
@[simp] theorem add_nm : addD (.str [97, 98, 99, 100, 101, 102, 103, 104, 105, 106, 107, 108, 109, 110, 111, 112, 113, 114, 115, 116, 117, 118, 119, 120, 121, 122, 48, 49, 50, 51, 52, 53, 54, 55, 56, 57]) (.str [45]) h = some (.str [97, 98, 99, 100, 101, 102, 103, 104, 105, 106, 107, 108, 109, 110, 111, 112, 113, 114, 115, 116, 117, 118, 119, 120, 121, 122, 48, 49, 50, 51, 52, 53, 54, 55, 56, 57, 45], h) := rfl
theorem index_up (hc : up c = true) : mSIndex (.str [65, 66, 67, 68, 69, 70, 71, 72, 73, 74, 75, 76, 77, 78, 79, 80, 81, 82, 83, 84, 85, 86, 87, 88, 89, 90]) [.str [c]] h = some (.int ((c - 65 : Nat) : Int), h) := by
  have key : ∀ i < 26, Builtin.Str.occurrences (S [65, 66, 67, 68, 69, 70, 71, 72, 73, 74, 75, 76, 77, 78, 79, 80, 81, 82, 83, 84, 85, 86, 87, 88, 89, 90]) (S [i + 65]) 0 26 1 = [i] := by decide +kernel
  simp only [up, Bool.and_eq_true, decide_eq_true_eq] at hc
  have e := key (c - 65) (by omega)
  rw [show c - 65 + 65 = c by omega] at e
  unfold mSIndex
  dsimp only
  rw [show ([65, 66, 67, 68, 69, 70, 71, 72, 73, 74, 75, 76, 77, 78, 79, 80, 81, 82, 83, 84, 85, 86, 87, 88, 89, 90] : List Nat).length = 26 from rfl, e]
theorem small_at (hc : up c = true) : ixD (.str [97, 98, 99, 100, 101, 102, 103, 104, 105, 106, 107, 108, 109, 110, 111, 112, 113, 114, 115, 116, 117, 118, 119, 120, 121, 122]) (.int ((c - 65 : Nat) : Int)) h = some (.str [c + 32], h) := by
  have key : ∀ i < 26, atI ([97, 98, 99, 100, 101, 102, 103, 104, 105, 106, 107, 108, 109, 110, 111, 112, 113, 114, 115, 116, 117, 118, 119, 120, 121, 122] : List Nat) ((i : Nat) : Int) = some (i + 97) := by decide +kernel
  simp only [up, Bool.and_eq_true, decide_eq_true_eq] at hc
  have e := key (c - 65) (by omega)
  rw [show c - 65 + 97 = c + 32 by omega] at e
  exact ixD_str (by decide) e
end
@[simp] theorem m_sign {c : Nat} {h : AH} : m_sign_name [.str [c]] h = .ok (.str (signName c)) h := by
  refine gc_ok (g := []) ?_ rfl
  unfold signName
  by_cases h1 : up c = true
  · simp [b_sign_name, runF, h1, index_up h1, small_at h1]
  · rw [Bool.not_eq_true] at h1
    by_cases h2 : alnum c = true
    · simp [b_sign_name, runF, h1, h2]
    · rw [Bool.not_eq_true] at h2
      by_cases h3 : c = 39
      · subst h3
        simp [b_sign_name, runF, h1, h2]
      · by_cases h4 : c = 38
        · subst h4
          simp [b_sign_name, runF, h1, h2]
        · simp [b_sign_name, runF, h1, h2, h3, h4]
theorem sign_len {c : Nat} : (signName c).length ≤ 5 := by
  unfold signName
  split
  · simp
  split
  · simp
  split
  · simp
  split <;> simp
theorem flatMap_len {α β : Type} {f : α → List β} {m : Nat} (hf : ∀ a, (f a).length ≤ m) : ∀ t : List α, (t.flatMap f).length ≤ m * t.length
  | [] => by simp
  | a :: t => by
    have := flatMap_len hf t
    have := hf a
    simp only [List.flatMap_cons, List.length_append, List.length_cons, Nat.mul_succ]
    omega
theorem split_len (c : Nat) : ∀ (l : List Nat), (splitC c l).length ≤ l.length + 1 := by
  have key : ∀ (l acc : List Nat), (TL.spl [c] 0 acc l).length ≤ l.length + 1 := by
    intro l
    induction l with
    | nil => intro acc; rw [TL.spl_nil]; simp
    | cons a l ih =>
      intro acc
      cases e : TL.pre [c] (a :: l) with
      | true => rw [TL.spl_hit e]; have := ih []; simp only [List.length_cons, List.length_nil, Nat.sub_self] at this ⊢; omega
      | false => rw [TL.spl_miss e]; have := ih (acc ++ [a]); simp only [List.length_cons] at this ⊢; omega
  exact fun l => key l []
theorem split_mem_len (c : Nat) {l w : List Nat} (h : w ∈ splitC c l) : w.length ≤ l.length := by
  have key : ∀ (l acc : List Nat), ∀ w ∈ TL.spl [c] 0 acc l, w.length ≤ acc.length + l.length := by
    intro l
    induction l with
    | nil => intro acc w h; rw [TL.spl_nil, List.mem_singleton] at h; subst h; simp
    | cons a l ih =>
      intro acc w h
      cases e : TL.pre [c] (a :: l) with
      | true =>
        rw [TL.spl_hit e, List.mem_cons] at h
        rcases h with rfl | h
        · simp
        · have := ih [] w h; simp only [List.length_cons, List.length_nil] at this ⊢; omega
      | false => rw [TL.spl_miss e] at h; have := ih (acc ++ [a]) w h; simp only [List.length_cons, List.length_append, List.length_nil] at this ⊢; omega
  have := key l [] w h
  simpa using this
theorem joinLen_nil : ∀ ws : List (List Nat), joinLen [] ws = ws.flatten.length
  | [] => rfl
  | w :: ws => by
    have := joinLen_nil ws
    simp only [joinLen, List.map_cons, List.sum_cons, List.length_nil, Nat.mul_zero, Nat.add_zero, List.flatten_cons, List.length_append] at this ⊢
    rw [this]

theorem m_words {t : List Nat} {h : AH} (ht : t.length ≤ 10000) : m_words_of [.str t] h = .ok (.ref h.length) (h ++ [.lst (txs (wordsOf t))]) := by
  have hf : (t.flatMap signName).length ≤ 5 * t.length := flatMap_len (fun _ => sign_len) t
  have e1 : b_words_of_c2 [some (.str t), none, none, none] h = .ok (.ref h.length) (h ++ [.lst (txs (t.map signName))]) := by
    rw [b_words_of_c2, dComp_mapA t (fun c => .str [c]) (gd := fun _ => True) (h1 := h) (by simp) (fun c => .str (signName c)) (fun _ => trivial) (by omega)]
    · unfold txs; rw [List.map_map]; rfl
    · intro c _ acc
      exact ⟨_, rfl, by simp⟩
  have ej : mJoin (.str []) [.ref h.length] (h ++ [.lst (txs (t.map signName))]) = some (.str (t.flatMap signName), h ++ [.lst (txs (t.map signName))]) := by
    rw [mJoin_lst (ws := t.map signName) (by simp), joinL_nil, List.flatMap_def]
    rw [joinLen_nil, ← List.flatMap_def]
    omega
  have es := mSplit_one (c := 45) (by decide) (s := t.flatMap signName) (h := h ++ [.lst (txs (t.map signName))]) (by omega)
  have hlen : (splitC 45 (t.flatMap signName)).length ≤ 16777216 := by
    have := split_len 45 (t.flatMap signName)
    omega
  have hpl : ∀ w ∈ splitC 45 (t.flatMap signName), w.length ≤ 16777216 := fun w hw => by
    have := split_mem_len 45 hw
    omega
  have ew : wordsOf t = (splitC 45 (t.flatMap signName)).filter ne := rfl
  revert e1 ej es hlen hpl ew
  generalize t.flatMap signName = u at hf ⊢
  generalize splitC 45 u = ps
  generalize wordsOf t = ws
  intro e1 ej es hlen hpl ew
  subst ew
  have e2 : iSeq (dMt gStr mSplit (dVar 1) (dCons (dC (.str [45])) dNil)) [some (.str t), some (.str u), none, none] (h ++ [.lst (txs (t.map signName))]) = .ok (ps.map .str) (fun h' => h'[h.length + 1]? = some (.lst (txs ps))) (h ++ [.lst (txs (t.map signName))] ++ [.lst (txs ps)]) := by
    simp [es]
    rw [iK_lst (ds := txs ps) (by simp)]
    rfl
  refine gc_new (m := h.length + 2) (g := [.lst (txs (t.map signName)), .lst (txs ps), .lst (txs (ps.filter ne))]) (o := .lst (txs (ps.filter ne))) ?_ (by omega) (by simp) (txs_bel _ _) rfl
  have e3 : b_words_of_c1 [some (.str t), some (.str u), none, none] (h ++ [.lst (txs (t.map signName))]) = .ok (.ref (h.length + 2)) (h ++ [.lst (txs (t.map signName)), .lst (txs ps), .lst (txs (ps.filter ne))]) := by
    rw [b_words_of_c1, dComp_A ps .str e2 ne .str (fun acc => by simp) (by omega)]
    · simp [txs]
    · intro w hw acc
      exact ⟨_, rfl, by simp [truD_str (hpl w hw), ne], by simp⟩
  simp [runF, b_words_of, e1, ej, e3]
end DL


set_option maxRecDepth 100000
namespace DL
open PySem PySem.Spec PyProof.Rows L2

/-! ### made -/
theorem wordsOf_mem {t w : List Nat} (h : w ∈ wordsOf t) : w ≠ [] ∧ w.length ≤ 5 * t.length := by
  unfold wordsOf at h
  rw [List.mem_filter] at h
  refine ⟨fun e => ?_, Nat.le_trans (split_mem_len 45 h.1) (flatMap_len (fun _ => sign_len) t)⟩
  rw [e] at h
  exact absurd h.2 (by decide)
theorem m_madeOf {t : List Nat} {h : AH} (ht : t.length ≤ 10000) : m_made [.str t] h = .ok (.str (made t)) h := by
  have hm : ∀ w ∈ wordsOf t, w.length ≤ 5 * t.length := fun w hw => (wordsOf_mem hw).2
  unfold made
  have hw := m_words (h := h) ht
  have hlen : (wordsOf t).length ≤ 16777216 := by
    have := split_len 45 (t.flatMap signName)
    have : (t.flatMap signName).length ≤ 5 * t.length := flatMap_len (fun _ => sign_len) t
    have : (wordsOf t).length ≤ (splitC 45 (t.flatMap signName)).length := List.length_filter_le _ _
    omega
  revert hm hw hlen
  generalize wordsOf t = ws
  intro hm hw hlen
  cases ws with
  | nil =>
    refine gc_ok (g := [.lst []]) ?_ rfl
    simp [runF, b_made, hw, truD_lst (h := h ++ [O.lst []]) (n := h.length) (s := []) (by simp)]
    rfl
  | cons w ws =>
    have hw1 := hm w (by simp)
    have e0 : ∀ x, (h ++ O.lst (.str w :: txs ws) :: x)[h.length]? = some (.lst (.str w :: txs ws)) := fun x => by simp
    have lp : ∀ (us : List (List Nat)) (n : List Nat) (σ3 : Option D), (∀ u ∈ us, u.length ≤ 5 * t.length) → n.length ≤ 12 →
        ((∃ d σ', forL (fun h' => h'[h.length + 1]? = some (.lst (txs ws))) (gNm 3) b_made_l1 (txs us) [some (.str t), some (.ref h.length), some (.str n), σ3] (h ++ [O.lst (.str w :: txs ws), .lst (txs ws)]) = d ∧ (d = .rt (.str (if 12 < w.length then n else grow n us)) (h ++ [O.lst (.str w :: txs ws), .lst (txs ws)]) ∨ d = .nx [some (.str t), some (.ref h.length), some (.str (if 12 < w.length then n else grow n us)), σ'] (h ++ [O.lst (.str w :: txs ws), .lst (txs ws)])))) := by
      intro us
      induction us with
      | nil =>
        intro n σ3 _ _
        refine ⟨_, σ3, rfl, .inr ?_⟩
        rw [txs_nil, forL_nil (by simp)]
        split <;> rfl
      | cons u us ih =>
        intro n σ3 hu hn
        have hu1 := hu u (by simp)
        rw [txs_cons, forL_cons (σ' := [some (.str t), some (.ref h.length), some (.str n), some (.str u)]) (by simp) rfl]
        by_cases h1 : 12 < w.length
        · have : (12 : Int) < w.length := by omega
          refine ⟨_, none, rfl, .inl ?_⟩
          simp [b_made_l1, ixD_lst (e0 _) atI_get0, lenL_str (s := w) (by omega), this, h1]
        · have h1' : ¬ (12 : Int) < w.length := by omega
          by_cases h2 : 12 < n.length + 1 + u.length
          · have : (12 : Int) < (n.length : Int) + 1 + u.length := by omega
            refine ⟨_, none, rfl, .inl ?_⟩
            simp [b_made_l1, ixD_lst (e0 _) atI_get0, lenL_str (s := w) (by omega), lenL_str (s := n) (by omega), lenL_str (s := u) (by omega), this, h1, h2, h1', grow]
          · have h2' : ¬ (12 : Int) < (n.length : Int) + 1 + u.length := by omega
            have := ih (n ++ 45 :: u) (some (.str u)) (fun x hx => hu x (by simp [hx])) (by simp; omega)
            simp [b_made_l1, ixD_lst (e0 _) atI_get0, lenL_str (s := w) (by omega), lenL_str (s := n) (by omega), lenL_str (s := u) (by omega), h1, h2, h1', h2', grow, addD_ss (s := n) (t := [45]) (by simp; omega), addD_ss (s := n ++ [45]) (t := u) (by simp; omega)] at this ⊢
            exact this
    have er : ∀ d : RS, (d = .rt (.str (madeL (w :: ws))) (h ++ [O.lst (.str w :: txs ws), .lst (txs ws)]) ∨ ∃ σ', d = .nx [some (.str t), some (.ref h.length), some (.str (madeL (w :: ws))), σ'] (h ++ [O.lst (.str w :: txs ws), .lst (txs ws)])) → (match d.bind (sRet (dVar 2)) with
  | .nx _ h' => R.ok .non h'
  | .rt d h' => .ok d h'
  | .exc x _ h' => .exc x h'
  | _ => .bad) = .ok (.str (madeL (w :: ws))) (h ++ [O.lst (.str w :: txs ws), .lst (txs ws)]) := by
      rintro d (rfl | ⟨σ', rfl⟩)
      · rfl
      · rfl
    have hc := cut_hi (xs := w) (k := 12)
    refine gc_ok (g := [O.lst (.str w :: txs ws), .lst (txs ws)]) ?_ rfl
    have hmade : (if 12 < w.length then w.take 12 else grow (w.take 12) ws) = madeL (w :: ws) := by
      unfold madeL
      by_cases h1 : 12 < w.length
      · simp [h1]
      · simp [h1, List.take_of_length_le (show w.length ≤ 12 by omega)]
    obtain ⟨d, σ', e, hd⟩ := lp ws (w.take 12) none (fun u hu => hm u (by simp [hu])) (by simp; omega)
    rw [hmade] at hd
    rw [← er d (hd.imp id fun e => ⟨_, e⟩), ← e]
    have hsl : ∀ x, slK (.str w) none (some (12 : Int)) x = some (.str (w.take 12), x) := fun x => by
      rw [slK_str (by omega)]
      show some (D.str (cut w none (some ((12 : Nat) : Int))), x) = _
      rw [cut_hi]
    have hsl1 : slK (.ref h.length) (some (1 : Int)) none (h ++ [O.lst (.str w :: txs ws)]) = some (.ref (h.length + 1), h ++ [O.lst (.str w :: txs ws), .lst (txs ws)]) := by
      rw [slK_lst (e0 _)]
      show some (_, _ ++ [O.lst (cut _ (some ((1 : Nat) : Int)) none)]) = _
      rw [cut_lo]
      simp
    simp [runF, b_made, hw, truD_lst (e0 _), ixD_lst (e0 _) atI_get0, hsl, hsl1]
    rw [iK_lst (ds := txs ws) (by simp)]
    try rfl
end DL


set_option maxRecDepth 100000
namespace DL
open PySem PySem.Spec PyProof.Rows L2

/-! ### the law's own made -/
def sp45 (d : Nat) : Nat := if d = 45 then 32 else d
theorem sign_C {c d : Nat} (h : d ∈ signName c) : nameC d = true := by
  unfold signName at h
  split at h
  · rename_i hu
    simp only [up, Bool.and_eq_true, decide_eq_true_eq] at hu
    simp only [List.mem_singleton] at h
    simp only [nameC, alnum, Bool.or_eq_true, Bool.and_eq_true, decide_eq_true_eq]; omega
  split at h
  · rename_i ha
    simp only [List.mem_singleton] at h
    simp [nameC, h, ha]
  split at h
  · simp at h
  split at h
  · simp only [List.mem_cons, List.mem_nil_iff, or_false] at h
    simp only [nameC, alnum, Bool.or_eq_true, Bool.and_eq_true, decide_eq_true_eq]; omega
  · simp only [List.mem_singleton] at h
    simp [nameC, h]
theorem lower_up {c : Nat} (hc : up c = true) {h : AH} : mS0 5592405 Txt.lower (.str [c]) [] h = some (.str [c + 32], h) := by
  have key : ∀ i < 26, un1 Txt.lower [i + 65] = [i + 97] := by decide +kernel
  simp only [up, Bool.and_eq_true, decide_eq_true_eq] at hc
  have e := key (c - 65) (by omega)
  rw [show c - 65 + 65 = c by omega, show c - 65 + 97 = c + 32 by omega] at e
  unfold mS0
  simp [e]
theorem body_law_made {t acc : List Nat} {c : Nat} {x y : Option D} {h : AH} (ha : acc.length ≤ 100000) :
    b_law_made_l2 [some (.str t), some (.str acc), some (.str [c]), y] h = .nx [some (.str t), some (.str (acc ++ (signName c).map sp45)), some (.str [c]), y] h := by
  have a1 : ∀ u : List Nat, u.length ≤ 5 → addD (.str acc) (.str u) h = some (.str (acc ++ u), h) := fun u hu => addD_ss (by omega)
  unfold signName
  by_cases h1 : up c = true
  · have h1' := h1
    simp only [up, Bool.and_eq_true, decide_eq_true_eq] at h1
    simp [b_law_made_l2, h1', show ¬ c < 65 by omega, show ¬ 90 < c by omega, lower_up h1', a1, sp45, show ¬ c + 32 = 45 by omega]
  · by_cases h2 : alnum c = true
    · have h2' := h2
      have h1' := h1
      simp only [up, Bool.and_eq_true, decide_eq_true_eq] at h1
      simp only [alnum, Bool.and_eq_true, Bool.or_eq_true, decide_eq_true_eq] at h2
      by_cases hl : 97 ≤ c
      · simp [b_law_made_l2, h1', h2', show ¬ c < 65 by omega, show 90 < c by omega, show ¬ c < 97 by omega, show ¬ 122 < c by omega, a1, sp45, show ¬ c = 45 by omega]
      · simp [b_law_made_l2, h1', h2', show c < 65 by omega, show c < 97 by omega, show ¬ c < 48 by omega, show ¬ 57 < c by omega, a1, sp45, show ¬ c = 45 by omega]
    · have h2' := h2
      have h1' := h1
      simp only [up, Bool.and_eq_true, decide_eq_true_eq] at h1
      simp only [alnum, Bool.and_eq_true, Bool.or_eq_true, decide_eq_true_eq] at h2
      have q1 : (isB (dChn leD leD (dC (.str [65])) (dVar 2) (dC (.str [90]))) [some (.str t), some (.str acc), some (.str [c]), y] h) = .ok false h := by
        by_cases z : c < 65
        · simp [z]
        · simp [z, show 90 < c by omega]
      have q2 : (isB (dChn leD leD (dC (.str [97])) (dVar 2) (dC (.str [122]))) [some (.str t), some (.str acc), some (.str [c]), y] h) = .ok false h := by
        by_cases z : c < 97
        · simp [z]
        · simp [z, show 122 < c by omega]
      have q3 : (isB (dChn leD leD (dC (.str [48])) (dVar 2) (dC (.str [57]))) [some (.str t), some (.str acc), some (.str [c]), y] h) = .ok false h := by
        by_cases z : c < 48
        · simp [z]
        · simp [z, show 57 < c by omega]
      unfold b_law_made_l2
      rw [sIf_eq, q1, RT.bindS_ok]
      simp only [Bool.false_eq_true, if_false]
      rw [sIf_eq, dOr_eq, q2, RT.bindT_ok]
      simp only [Bool.false_eq_true, if_false]
      rw [q3, RT.bindS_ok]
      simp only [Bool.false_eq_true, if_false, h1', h2']
      by_cases h3 : c = 39
      · subst h3
        simp
      · by_cases h4 : c = 38
        · subst h4
          simp [a1, sp45]
        · simp [h3, h4, a1, sp45]
theorem loop_law_made {t0 : List Nat} {y : Option D} {h : AH} : ∀ (t acc : List Nat) (x : Option D), acc.length + 5 * t.length ≤ 100000 →
    ∃ x', forL (fun _ => True) (gNm 2) b_law_made_l2 (t.map fun c => .str [c]) [some (.str t0), some (.str acc), x, y] h = .nx [some (.str t0), some (.str (acc ++ (t.flatMap signName).map sp45)), x', y] h
  | [], acc, x, _ => ⟨x, by rw [List.map_nil, forL_nil trivial]; simp⟩
  | c :: t, acc, x, hl => by
    rw [List.length_cons] at hl
    have h5 : ((signName c).map sp45).length ≤ 5 := by rw [List.length_map]; exact sign_len
    obtain ⟨x', e⟩ := loop_law_made (t0 := t0) (y := y) (h := h) t (acc ++ (signName c).map sp45) (some (.str [c])) (by rw [List.length_append]; omega)
    refine ⟨x', ?_⟩
    rw [List.map_cons, forL_cons (σ' := [some (.str t0), some (.str acc), some (.str [c]), y]) trivial rfl, body_law_made (x := x) (by omega)]
    dsimp only
    rw [e]
    simp
/-- words of a text whose blanks are the lines of another one -/
theorem words_sp : ∀ (l : List Nat) (ws : List (List Nat)) (u : List Nat), (∀ c ∈ l, nameC c = true) → TL.wfin ((l.map sp45).foldl TL.wstep (ws, u)) = ws ++ (TL.spl [45] 0 u l).filter ne
  | [], ws, u, _ => by
    rw [TL.spl_nil]
    unfold TL.wfin
    cases u with
    | nil => simp [ne]
    | cons a u => simp [ne]
  | c :: l, ws, u, h => by
    have hc := h c (by simp)
    have ih := fun ws u => words_sp l ws u fun d hd => h d (List.mem_cons_of_mem _ hd)
    rw [List.map_cons, List.foldl_cons]
    by_cases e : c = 45
    · subst e
      have hs : Unicode.isSpace 32 = true := by decide +kernel
      rw [TL.spl_hit (by rfl)]
      cases u with
      | nil =>
        have : TL.wstep (ws, []) (sp45 45) = (ws, []) := by
          unfold TL.wstep
          rw [show sp45 45 = 32 from rfl, if_pos hs]
          rfl
        rw [this, ih]
        simp [ne]
      | cons a u =>
        have : TL.wstep (ws, a :: u) (sp45 45) = (ws ++ [a :: u], []) := by
          unfold TL.wstep
          rw [show sp45 45 = 32 from rfl, if_pos hs]
          simp
        rw [this, ih]
        simp [ne]
    · have hs : Unicode.isSpace c = false := by
        have key : ∀ i < 128, alnum i = true → Unicode.isSpace i = false := by decide +kernel
        simp only [nameC, Bool.or_eq_true, decide_eq_true_eq, e, or_false] at hc
        refine key c ?_ hc
        simp only [alnum, Bool.and_eq_true, Bool.or_eq_true, decide_eq_true_eq] at hc
        omega
      have e1 : sp45 c = c := by simp [sp45, e]
      have : TL.wstep (ws, u) (sp45 c) = (ws, u ++ [c]) := by
        unfold TL.wstep
        rw [e1, hs]
        simp
      rw [this, ih, TL.spl_miss (TL.pre_of_head [] l e)]
theorem words_made (t : List Nat) : wordsL ((t.flatMap signName).map sp45) = wordsOf t := by
  unfold wordsL wordsOf splitC
  rw [words_sp _ [] [] fun c hc => ?_]
  · simp
  · obtain ⟨d, _, hd⟩ := List.mem_flatMap.mp hc
    exact sign_C hd
/-! the longest beginning that fits -/
def lens (ws : List (List Nat)) : Nat := (ws.map fun w => w.length + 1).sum
theorem grow_over : ∀ (ws : List (List Nat)) (n u : List Nat), 12 < n.length + lens (ws ++ [u]) → grow n (ws ++ [u]) = grow n ws
  | [], n, u, h => by
    simp only [lens, List.nil_append, List.map_cons, List.map_nil, List.sum_cons, List.sum_nil] at h
    simp only [List.nil_append, grow]
    rw [if_pos (by omega)]
  | w :: ws, n, u, h => by
    simp only [List.cons_append, grow]
    split
    · rfl
    · refine grow_over ws _ u ?_
      simp only [lens, List.cons_append, List.map_cons, List.sum_cons, List.length_append, List.length_cons] at h ⊢
      omega
theorem grow_fit : ∀ (ws : List (List Nat)) (n : List Nat), n.length + lens ws ≤ 12 → grow n ws = n ++ ws.flatMap (45 :: ·)
  | [], n, h => by simp [grow]
  | w :: ws, n, h => by
    simp only [lens, List.map_cons, List.sum_cons] at h
    simp only [grow]
    rw [if_neg (by omega), grow_fit ws _ (by simp only [lens, List.length_append, List.length_cons]; omega)]
    simp
theorem joinL_cons (w : List Nat) : ∀ ws : List (List Nat), TL.joinL [45] (w :: ws) = w ++ ws.flatMap (45 :: ·)
  | [] => by simp [TL.joinL]
  | u :: ws => by
    have := joinL_cons u ws
    simp only [TL.joinL] at this ⊢
    rw [this]
    simp
theorem joinL_len (w : List Nat) (ws : List (List Nat)) : (TL.joinL [45] (w :: ws)).length = w.length + lens ws := by
  rw [joinL_cons, List.length_append]
  congr 1
  induction ws with
  | nil => rfl
  | cons u ws ih => simp only [List.flatMap_cons, List.length_append, List.length_cons, ih, lens, List.map_cons, List.sum_cons]
theorem lens_mono {ws us : List (List Nat)} : lens (ws ++ us) = lens ws + lens us := by simp [lens]
end DL


set_option maxRecDepth 100000
namespace DL
open PySem PySem.Spec PyProof.Rows L2

theorem lst_sum_le {α : Type} {f : α → Nat} {m : Nat} : ∀ {ws : List α}, (∀ w ∈ ws, f w ≤ m) → (ws.map f).sum ≤ ws.length * m
  | [], _ => by simp
  | w :: ws, h => by
    have := lst_sum_le (ws := ws) fun x hx => h x (List.mem_cons_of_mem _ hx)
    have := h w (by simp)
    simp only [List.map_cons, List.sum_cons, List.length_cons, Nat.succ_mul]
    omega
theorem joinLen_le {sep : List Nat} {ws : List (List Nat)} {m : Nat} (h : ∀ w ∈ ws, w.length ≤ m) : joinLen sep ws ≤ ws.length * (m + sep.length) := by
  unfold joinLen
  have := lst_sum_le (f := fun w : List Nat => w.length) h
  rw [Nat.mul_add]
  omega
theorem m_law_madeOf {t : List Nat} {h : AH} (ht : t.length ≤ 500) : m_law_made [.str t] h = .ok (.str (made t)) h := by
  have hm : ∀ w ∈ wordsOf t, w.length ≤ 5 * t.length := fun w hw => (wordsOf_mem hw).2
  have hfl : (t.flatMap signName).length ≤ 5 * t.length := flatMap_len (fun _ => sign_len) t
  have hwl : (wordsOf t).length ≤ 5 * t.length + 1 := by
    have := split_len 45 (t.flatMap signName)
    have : (wordsOf t).length ≤ (splitC 45 (t.flatMap signName)).length := List.length_filter_le _ _
    omega
  have hspl : ((t.flatMap signName).map sp45).length ≤ 1000000 := by rw [List.length_map]; omega
  obtain ⟨x', el⟩ := loop_law_made (t0 := t) (y := none) (h := h) t [] none (by simp; omega)
  rw [List.nil_append] at el
  have ew := mWords_eq (h := h) hspl
  rw [words_made] at ew
  revert el ew
  generalize (t.flatMap signName).map sp45 = u
  intro el ew
  unfold made
  revert hm hwl ew
  generalize wordsOf t = ws
  intro hm hwl ew
  have hj : ∀ us : List (List Nat), (∀ u ∈ us, u ∈ ws) → us.length ≤ ws.length → joinLen [45] us ≤ 16777216 := fun us hu hl => by
    have a := joinLen_le (sep := [45]) (ws := us) (m := 2500) fun x hx => by have := hm x (hu x hx); omega
    have b : us.length * (2500 + [45].length) ≤ 2501 * 2501 := Nat.mul_le_mul (by omega) (by simp)
    omega
  cases ws with
  | nil =>
    refine gc_ok (g := [.lst []]) ?_ rfl
    simp [runF, b_law_made, el, ew, truD_lst (h := h ++ [O.lst []]) (n := h.length) (s := []) (by simp)]
    rfl
  | cons w ws =>
    have hw1 := hm w (by simp)
    have e0 : ∀ x, (h ++ O.lst (.str w :: txs ws) :: x)[h.length]? = some (.lst (.str w :: txs ws)) := fun x => by simp
    by_cases h1 : 12 < w.length
    · refine gc_ok (g := [O.lst (.str w :: txs ws)]) ?_ rfl
      have : (12 : Int) < w.length := by omega
      have hsl : ∀ x, slK (.str w) none (some (12 : Int)) x = some (.str (w.take 12), x) := fun x => by
        rw [slK_str (by omega)]
        show some (D.str (cut w none (some ((12 : Nat) : Int))), x) = _
        rw [cut_hi]
      simp [runF, b_law_made, el, ew, truD_lst (e0 _), ixD_lst (e0 _) atI_get0, this, hsl, lenL_str (s := w) (by omega), madeL, h1]
    · have h1' : ¬ (12 : Int) < w.length := by omega
      have key : (fun r => ∃ σ g n, r = RS.nx σ (h ++ g) ∧ σ[3]? = some (some (D.ref (h.length + n))) ∧ ∃ us, g[n]? = some (.lst (txs (w :: us))) ∧ (∀ x ∈ us, x ∈ ws) ∧ us.length ≤ ws.length ∧ TL.joinL [45] (w :: us) = grow w ws)
          (sWhile b_law_made_t1 b_law_made_l1 [some (.str t), some (.str u), x', some (.ref h.length)] (h ++ [O.lst (.str w :: txs ws)])) := by
        refine while_inv (fun (σ : Lc) (hh : AH) => ∃ us g n, σ = [some (.str t), some (.str u), x', some (.ref (h.length + n))] ∧ hh = h ++ g ∧ g[n]? = some (.lst (txs (w :: us))) ∧ (∀ x ∈ us, x ∈ ws) ∧ us.length ≤ ws.length ∧ grow w ws = grow w us)
          (fun (σ : Lc) (hh : AH) => match σ[3]? with | some (some (D.ref n)) => (match hh[n]? with | some (O.lst ds) => ds.length | _ => 0) | _ => 0) (fun r => ∃ σ g n, r = RS.nx σ (h ++ g) ∧ σ[3]? = some (some (D.ref (h.length + n))) ∧ ∃ us, g[n]? = some (.lst (txs (w :: us))) ∧ (∀ x ∈ us, x ∈ ws) ∧ us.length ≤ ws.length ∧ TL.joinL [45] (w :: us) = grow w ws) ?_ (by rintro ⟨_, _, _, e, _⟩; cases e) _ _ ⟨ws, [O.lst (.str w :: txs ws)], 0, rfl, rfl, rfl, fun x hx => hx, Nat.le_refl _, rfl⟩
        rintro σ hh ⟨us, g, n, rfl, rfl, hg, hu, hl, hgr⟩
        have hgl := hj (w :: us) (fun x hx => by rcases List.mem_cons.mp hx with rfl | hx; exact List.mem_cons_self; exact List.mem_cons_of_mem _ (hu x hx)) (by simp; omega)
        have hg' : (h ++ g)[h.length + n]? = some (.lst (txs (w :: us))) := by rw [get_new]; exact hg
        have ej := mJoin_lst (h := h ++ g) hg' hgl
        have jl := joinL_len w us
        have jl2 : (TL.joinL [45] (w :: us)).length ≤ 16777216 := by
          have : joinLen [45] (w :: us) = w.length + lens us + 1 := by
            simp only [joinLen, lens, List.map_cons, List.sum_cons, List.length_cons, List.length_nil]
            have : ∀ us : List (List Nat), (us.map fun w => w.length + 1).sum = (us.map (·.length)).sum + us.length := by
              intro us
              induction us with
              | nil => rfl
              | cons a us ih => simp only [List.map_cons, List.sum_cons, List.length_cons, ih]; omega
            rw [this]; omega
          omega
        have et : b_law_made_t1 [some (.str t), some (.str u), x', some (.ref (h.length + n))] (h ++ g) = .ok (decide (12 < (TL.joinL [45] (w :: us)).length)) (h ++ g) := by
          simp [b_law_made_t1, ej, lenL_str jl2]
          omega
        by_cases h2 : 12 < w.length + lens us
        · refine .inr ⟨h ++ g, [some (.str t), some (.str u), x', some (.ref (h.length + g.length))], h ++ (g ++ [.lst (txs (w :: us).dropLast)]), ?_, .inl ?_, ?_, ?_⟩
          · rw [et, jl, decide_eq_true h2]
          · have hsl : slK (.ref (h.length + n)) none (some (-1 : Int)) (h ++ g) = some (.ref (h.length + g.length), h ++ (g ++ [.lst (txs (w :: us).dropLast)])) := by
              rw [slK_lst hg', cut_but1, txs_dropLast]
              simp
            simp only [b_law_made_l1, sSet_eq, dSl_eq, dVar_at (σ := [some (.str t), some (.str u), x', some (.ref (h.length + n))]) (i := 3) rfl, R.bind_ok, evP_none, evP_some, dUn_eq, dC_eq, negD_i, ofO_some, toP_non, toP_int, hsl, R.bindS_ok, List.set_cons_succ, List.set_cons_zero]
          · have hne : us ≠ [] := fun e => by subst e; simp [lens] at h2; omega
            rcases List.eq_nil_or_concat us with e | ⟨vs, v, e⟩
            · exact absurd e hne
            · rw [List.concat_eq_append] at e
              subst e
              refine ⟨vs, g ++ [.lst (txs (w :: (vs ++ [v])).dropLast)], g.length, rfl, rfl, ?_, fun x hx => hu x (by simp [hx]), ?_, ?_⟩
              · rw [get_new0, ← List.cons_append, List.dropLast_concat]; rfl
              · simp only [List.length_append] at hl; omega
              · rw [hgr, grow_over vs w v h2]
          · have e1 : (h ++ g)[h.length + n]? = some (.lst (txs (w :: us))) := hg'
            have e2 : (h ++ (g ++ [O.lst (txs (w :: us).dropLast)]))[h.length + g.length]? = some (.lst (txs (w :: us).dropLast)) := by rw [get_new, get_new0]; rfl
            simp only [List.getElem?_cons_succ, List.getElem?_cons_zero, e1, e2, txs_length, List.length_dropLast, List.length_cons]
            omega
        · refine .inl ⟨h ++ g, ?_, _, g, n, rfl, rfl, us, hg, hu, hl, ?_⟩
          · rw [et, jl, decide_eq_false h2]
          · rw [hgr, grow_fit us w (by omega), joinL_cons]
      obtain ⟨σ, g, n, e, es, us, hg, hu, hl, hj2⟩ := key
      refine gc_ok (g := g) ?_ rfl
      have hgl := hj (w :: us) (fun x hx => by rcases List.mem_cons.mp hx with rfl | hx; exact List.mem_cons_self; exact List.mem_cons_of_mem _ (hu x hx)) (by simp; omega)
      have hg' : (h ++ g)[h.length + n]? = some (.lst (txs (w :: us))) := by rw [get_new]; exact hg
      have ej := mJoin_lst (h := h ++ g) hg' hgl
      rw [hj2] at ej
      have gl : gLst (.ref (h.length + n)) (h ++ g) = true := gLst_lst hg'
      simp [runF, b_law_made, el, ew, truD_lst (e0 _), ixD_lst (e0 _) atI_get0, h1', lenL_str (s := w) (by omega), e, es, ej, madeL, h1]
end DL


set_option maxRecDepth 100000
namespace DL
open PySem PySem.Spec PyProof.Rows L2
noncomputable instance : DecidableEq D := fun a b => Classical.propDecidable (a = b)

/-! ## equality of values without truths and things on the heap -/
def okN : Nat → D → Bool
  | _, .non => true
  | _, .int _ => true
  | _, .str _ => true
  | n + 1, .tup ds => ds.all (okN n)
  | _, _ => false
theorem okN_plain : ∀ (n : Nat) (d : D), okN n d = true → d.dat.plain = true
  | _, .non, _ => rfl
  | _, .int _, _ => rfl
  | _, .str _, _ => rfl
  | n + 1, .tup ds, h => by
    simp only [okN, List.all_eq_true] at h
    simp only [D.dat, PyData.plain]
    induction ds with
    | nil => rfl
    | cons d ds ih =>
      simp only [D.dats, PyData.plainAll, Bool.and_eq_true]
      exact ⟨okN_plain n d (h d (by simp)), ih fun x hx => h x (by simp [hx])⟩
  | 0, .tup _, h => by simp [okN] at h
  | _, .bl _, h => by simp [okN] at h
  | _, .ref _, h => by simp [okN] at h
theorem okNs_plain {n : Nat} {ds : List D} (h : ∀ d ∈ ds, okN n d = true) : PyData.plainAll (D.dats ds) = true := by
  induction ds with
  | nil => rfl
  | cons d ds ih =>
    simp only [D.dats, PyData.plainAll, Bool.and_eq_true]
    exact ⟨okN_plain n d (h d (by simp)), ih fun x hx => h x (by simp [hx])⟩
theorem okN_depth : ∀ (n : Nat) (d : D), okN n d = true → d.dat.depth ≤ n
  | _, .non, _ => by simp [D.dat, PyData.depth]
  | _, .int _, _ => by simp [D.dat, PyData.depth]
  | _, .str _, _ => by simp [D.dat, PyData.depth]
  | n + 1, .tup ds, h => by
    simp only [okN, List.all_eq_true] at h
    simp only [D.dat, PyData.depth]
    have : PyData.depthAll (D.dats ds) ≤ n := by
      induction ds with
      | nil => exact Nat.zero_le _
      | cons d ds ih =>
        simp only [D.dats, PyData.depthAll]
        have := okN_depth n d (h d (by simp))
        have := ih fun x hx => h x (by simp [hx])
        omega
    omega
  | 0, .tup _, h => by simp [okN] at h
  | _, .bl _, h => by simp [okN] at h
  | _, .ref _, h => by simp [okN] at h
theorem okNs_depth {n : Nat} {ds : List D} (h : ∀ d ∈ ds, okN n d = true) : PyData.depthAll (D.dats ds) ≤ n := by
  induction ds with
  | nil => exact Nat.zero_le _
  | cons d ds ih =>
    simp only [D.dats, PyData.depthAll]
    have := okN_depth n d (h d (by simp))
    have := ih fun x hx => h x (by simp [hx])
    omega
theorem beq_S {s t : List Nat} : (S s == S t) = decide (s = t) := by
  by_cases e : s = t
  · subst e; simp
  · rw [decide_eq_false e, beq_eq_false_iff_ne]
    exact fun z => e (S_inj z)
theorem okN_eqv : ∀ (n : Nat) (a b : D), okN n a = true → okN n b = true → (PyData.eqv a.dat b.dat = true ↔ a = b)
  | n + 1, .tup xs, .tup ys, ha, hb => by
    simp only [okN, List.all_eq_true] at ha hb
    simp only [D.dat, PyData.eqv, D.tup.injEq]
    induction xs generalizing ys with
    | nil => cases ys <;> simp [D.dats, PyData.eqvAll]
    | cons x xs ih =>
      cases ys with
      | nil => simp [D.dats, PyData.eqvAll]
      | cons y ys =>
        simp only [D.dats, PyData.eqvAll, Bool.and_eq_true, List.cons.injEq]
        rw [okN_eqv n x y (ha x (by simp)) (hb y (by simp)), ih ys (fun d hd => ha d (by simp [hd])) (fun d hd => hb d (by simp [hd]))]
  | _, .non, b, _, hb => by cases b <;> simp [D.dat, PyData.eqv, okN] at hb ⊢
  | _, .int i, b, _, hb => by cases b <;> simp [D.dat, PyData.eqv, okN] at hb ⊢
  | _, .str i, b, _, hb => by cases b <;> simp [D.dat, PyData.eqv, okN, beq_S] at hb ⊢
  | n + 1, .tup xs, .non, _, hb => by simp [D.dat, PyData.eqv]
  | n + 1, .tup xs, .int _, _, hb => by simp [D.dat, PyData.eqv]
  | n + 1, .tup xs, .str _, _, hb => by simp [D.dat, PyData.eqv]
  | _, .tup xs, .bl _, _, hb => by simp [okN] at hb
  | _, .tup xs, .ref _, _, hb => by simp [okN] at hb
  | 0, .tup _, _, h, _ => by simp [okN] at h
  | _, .bl _, _, h, _ => by simp [okN] at h
  | _, .ref _, _, h, _ => by simp [okN] at h
theorem okNs_eqv {n : Nat} : ∀ {xs ys : List D}, (∀ d ∈ xs, okN n d = true) → (∀ d ∈ ys, okN n d = true) → (PyData.eqvAll (D.dats xs) (D.dats ys) = true ↔ xs = ys)
  | [], [], _, _ => by simp [D.dats, PyData.eqvAll]
  | [], _ :: _, _, _ => by simp [D.dats, PyData.eqvAll]
  | _ :: _, [], _, _ => by simp [D.dats, PyData.eqvAll]
  | x :: xs, y :: ys, ha, hb => by
    simp only [D.dats, PyData.eqvAll, Bool.and_eq_true, List.cons.injEq]
    rw [okN_eqv n x y (ha x (by simp)) (hb y (by simp)), okNs_eqv (fun d hd => ha d (by simp [hd])) (fun d hd => hb d (by simp [hd]))]
theorem toDat_okN {h : AH} {d : D} {n : Nat} (hd : okN n d = true) : toDat h d = d.dat := by cases d <;> first | rfl | (simp [okN] at hd)
theorem eqD_okN {neg : Bool} {a b : D} {h : AH} (n : Nat) (hn : n ≤ 60) (ha : okN n a = true) (hb : okN n b = true) : eqD neg a b h = some (.bl (xor neg (decide (a = b))), h) := by
  have e : PyData.eqv a.dat b.dat = decide (a = b) := by rw [Bool.eq_iff_iff, decide_eq_true_iff]; exact okN_eqv n a b ha hb
  unfold eqD okD
  rw [toDat_okN ha, toDat_okN hb, okN_plain n a ha, okN_plain n b hb, decide_eq_true (Nat.le_trans (okN_depth n a ha) hn), e]
  rfl
/-- what a list on the heap holds -/
def isLs (h : AH) (k : Nat) (ds : List D) : Prop := h[k]? = some (.lst ds) ∨ h[k]? = some (.scr ds)
theorem toDat_ls {h : AH} {k : Nat} {ds : List D} (e : isLs h k ds) : toDat h (.ref k) = .list (D.dats ds) := by
  rcases e with e | e <;> simp [toDat, e]
theorem eqD_ls {neg : Bool} {j k : Nat} {xs ys : List D} {h : AH} (n : Nat) (hn : n < 60) (ex : isLs h j xs) (ey : isLs h k ys) (ha : ∀ d ∈ xs, okN n d = true) (hb : ∀ d ∈ ys, okN n d = true) : eqD neg (.ref j) (.ref k) h = some (.bl (xor neg (decide (xs = ys))), h) := by
  have e : PyData.eqvAll (D.dats xs) (D.dats ys) = decide (xs = ys) := by rw [Bool.eq_iff_iff, decide_eq_true_iff]; exact okNs_eqv ha hb
  unfold eqD okD
  rw [toDat_ls ex, toDat_ls ey]
  have d1 : (PyData.list (D.dats xs)).depth ≤ 60 := by
    simp only [PyData.depth]
    have := okNs_depth ha
    omega
  rw [decide_eq_true d1]
  simp only [PyData.plain, okNs_plain ha, okNs_plain hb, PyData.eqv, e, Bool.and_self, if_true]
theorem isIn_okN {n : Nat} {d : D} {ds : List D} (hd : okN n d = true) (h : ∀ x ∈ ds, okN n x = true) : isIn d.dat (D.dats ds) = decide (d ∈ ds) := by
  induction ds with
  | nil => simp [isIn, D.dats]
  | cons x xs ih =>
    have e : PyData.eqv x.dat d.dat = decide (x = d) := by rw [Bool.eq_iff_iff, decide_eq_true_iff]; exact okN_eqv n x d (h x (by simp)) hd
    have i := ih fun y hy => h y (by simp [hy])
    simp only [isIn, D.dats, List.any_cons] at i ⊢
    rw [i, e, Bool.eq_iff_iff]
    simp only [Bool.or_eq_true, decide_eq_true_eq, List.mem_cons]
    exact or_congr_left eq_comm
theorem inD_lst {neg : Bool} {d : D} {k : Nat} {ds : List D} {h : AH} (n : Nat) (hn : n ≤ 60) (e : h[k]? = some (.lst ds)) (hd : okN n d = true) (hs : ∀ x ∈ ds, okN n x = true) : inD neg d (.ref k) h = some (.bl (xor neg (decide (d ∈ ds))), h) := by
  have : inD neg d (.ref k) h = if (PyData.plainAll (D.dats ds) && d.dat.plain && decide (d.dat.depth ≤ 60)) = true then some (.bl (xor neg (isIn d.dat (D.dats ds))), h) else none := by
    cases d <;> simp [inD, itemsD, e]
  rw [this, okNs_plain hs, okN_plain n d hd, decide_eq_true (Nat.le_trans (okN_depth n d hd) hn), isIn_okN hd hs]
  rfl
theorem inD_tup {neg : Bool} {d : D} {ds : List D} {h : AH} (n : Nat) (hn : n ≤ 60) (hd : okN n d = true) (hs : ∀ x ∈ ds, okN n x = true) : inD neg d (.tup ds) h = some (.bl (xor neg (decide (d ∈ ds))), h) := by
  have : inD neg d (.tup ds) h = if (PyData.plainAll (D.dats ds) && d.dat.plain && decide (d.dat.depth ≤ 60)) = true then some (.bl (xor neg (isIn d.dat (D.dats ds))), h) else none := by
    cases d <;> simp [inD, itemsD]
  rw [this, okNs_plain hs, okN_plain n d hd, decide_eq_true (Nat.le_trans (okN_depth n d hd) hn), isIn_okN hd hs]
  rfl
theorem txs_okN {n : Nat} {ws : List (List Nat)} : ∀ d ∈ txs ws, okN n d = true := by
  intro d hd
  obtain ⟨w, _, rfl⟩ := List.mem_map.mp hd
  cases n <;> rfl
theorem inD_txs {neg : Bool} {w : List Nat} {k : Nat} {ws : List (List Nat)} {h : AH} (e : h[k]? = some (.lst (txs ws))) : inD neg (.str w) (.ref k) h = some (.bl (xor neg (decide (w ∈ ws))), h) := by
  rw [inD_lst 0 (by omega) e rfl txs_okN]
  simp only [txs_mem]
theorem inD_txt {neg : Bool} {w : List Nat} {ws : List (List Nat)} {h : AH} : inD neg (.str w) (.tup (txs ws)) h = some (.bl (xor neg (decide (w ∈ ws))), h) := by
  rw [inD_tup 0 (by omega) rfl txs_okN]
  simp only [txs_mem]
end DL


set_option maxRecDepth 100000
namespace DL
open PySem PySem.Spec PyProof.Rows L2

theorem addD_ll {a b : Nat} {xs ys : List D} {h : AH} (ea : h[a]? = some (.lst xs)) (eb : h[b]? = some (.lst ys)) (hl : xs.length + ys.length ≤ 16777216) : addD (.ref a) (.ref b) h = some (.ref h.length, h ++ [.lst (xs ++ ys)]) := by
  simp [addD, ea, eb, hl]
def bls (bs : List Bool) : List D := bs.map .bl
theorem allBl_bls (bs : List Bool) : allBl (bls bs) = some bs := by
  unfold bls
  induction bs with
  | nil => rfl
  | cons b bs ih => simp [allBl, ih]
theorem allL_bls {n : Nat} {bs : List Bool} {h : AH} (e : h[n]? = some (.lst (bls bs))) : allL [.ref n] h = some (.bl (bs.all id), h) := by simp [allL, e, allBl_bls]
theorem anyL_bls {n : Nat} {bs : List Bool} {h : AH} (e : h[n]? = some (.lst (bls bs))) : anyL [.ref n] h = some (.bl (bs.any id), h) := by simp [anyL, e, allBl_bls]
/-- all(p for ..) -/
theorem all_A {α : Type} {fi : SI} {g : GF} {fe : SE} {vs : List Nat} {σ : Lc} {h h1 : AH} {gd : AH → Prop} (xs : List α) (ι : α → D) (hi : fi σ h = .ok (xs.map ι) gd h1) (p : α → Bool) (hgd : ∀ acc, gd (h1 ++ [.lst acc])) (hl : xs.length ≤ 16777216)
    (hb : ∀ x ∈ xs, ∀ acc, ∃ σ2, g (ι x) (wipeD σ vs) (h1 ++ [.lst acc]) = some σ2 ∧ fe σ2 (h1 ++ [.lst acc]) = .ok (.bl (p x)) (h1 ++ [.lst acc])) :
    dCallB allL (dCons (dComp fi g bYes fe vs) dNil) σ h = .ok (.bl (xs.all p)) (h1 ++ [.lst (bls (xs.map p))]) := by
  rw [dCallB_eq, dCons_eq, dComp_mapA xs ι hi (fun x => .bl (p x)) hgd hl hb]
  have e : xs.map (fun x => D.bl (p x)) = bls (xs.map p) := by unfold bls; rw [List.map_map]; rfl
  rw [e]
  simp [allL_bls (bs := xs.map p) (n := h1.length) (h := h1 ++ [.lst (bls (xs.map p))]) (by simp)]
theorem any_A {α : Type} {fi : SI} {g : GF} {fe : SE} {vs : List Nat} {σ : Lc} {h h1 : AH} {gd : AH → Prop} (xs : List α) (ι : α → D) (hi : fi σ h = .ok (xs.map ι) gd h1) (p : α → Bool) (hgd : ∀ acc, gd (h1 ++ [.lst acc])) (hl : xs.length ≤ 16777216)
    (hb : ∀ x ∈ xs, ∀ acc, ∃ σ2, g (ι x) (wipeD σ vs) (h1 ++ [.lst acc]) = some σ2 ∧ fe σ2 (h1 ++ [.lst acc]) = .ok (.bl (p x)) (h1 ++ [.lst acc])) :
    dCallB anyL (dCons (dComp fi g bYes fe vs) dNil) σ h = .ok (.bl (xs.any p)) (h1 ++ [.lst (bls (xs.map p))]) := by
  rw [dCallB_eq, dCons_eq, dComp_mapA xs ι hi (fun x => .bl (p x)) hgd hl hb]
  have e : xs.map (fun x => D.bl (p x)) = bls (xs.map p) := by unfold bls; rw [List.map_map]; rfl
  rw [e]
  simp [anyL_bls (bs := xs.map p) (n := h1.length) (h := h1 ++ [.lst (bls (xs.map p))]) (by simp)]
@[simp] theorem iZp_eq {fs : SA} {σ : Lc} {h : AH} : iZp fs σ h = (fs σ h).bindI iZpK := id rfl
theorem iZpK_tt {xs ys : List D} {h : AH} (hz : plainPs (pairs xs ys)) : iZpK [.tup xs, .tup ys] h = .ok (pairs xs ys) (fun _ => True) h := if_pos hz
theorem zip_diag {α : Type} : ∀ {xs : List α} {p : α × α}, p ∈ xs.zip xs → p.1 = p.2 ∧ p.2 ∈ xs
  | [], p, h => by simp at h
  | x :: xs, p, h => by
    rw [List.zip_cons_cons] at h
    rcases List.mem_cons.mp h with rfl | h
    · exact ⟨rfl, by simp⟩
    · obtain ⟨h1, h2⟩ := zip_diag h
      exact ⟨h1, by simp [h2]⟩
theorem plainPs_self {xs : List D} : plainPs (pairs xs xs) := by
  intro x y h
  unfold pairs at h
  obtain ⟨p, hp, e⟩ := List.mem_map.mp h
  have := (zip_diag hp).1
  injection e with e
  simp only [List.cons.injEq, and_true] at e
  rw [← e.1, ← e.2, this]
  exact nz_same
theorem iZpK_ll {m n : Nat} {xs ys : List D} {h : AH} (hz : plainPs (pairs xs ys)) (e1 : h[m]? = some (.lst xs)) (e2 : h[n]? = some (.lst ys)) : iZpK [.ref m, .ref n] h = .ok (pairs xs ys) (fun h' => h'[m]? = some (.lst xs) ∧ h'[n]? = some (.lst ys)) h := by simp [iZpK, e1, e2, hz]
@[simp] theorem gTp_tup {n : Nat} {gs : GFs} {ds : List D} {σ : Lc} {h : AH} : gTp n gs (.tup ds) σ h = if ds.length = n then gs ds σ h else none := id rfl
@[simp] theorem gsNil_eq {σ : Lc} {h : AH} : gsNil [] σ h = some σ := id rfl
@[simp] theorem gsCons_eq {g : GF} {gs : GFs} {d : D} {r : List D} {σ : Lc} {h : AH} : gsCons g gs (d :: r) σ h = (g d σ h).bind fun σ' => gs r σ' h := id rfl
/-! ### one text in another -/
theorem subStr_iff {s t : List Nat} : subStr s t = true ↔ ∃ p q, t = p ++ s ++ q := by
  unfold subStr
  have := PySem.StrLaws.found_iff (S t) (S s)
  rw [S_length, S_length] at this
  rw [this]
  have e : ∀ i, PySem.Builtin.Str.subAt (S t) (S s) i = ((t.drop i).take s.length == s) := fun i => by
    rw [PySem.StrLaws.subAt_eq, S_length]
  constructor
  · rintro ⟨i, h1, h2⟩
    rw [e, beq_iff_eq] at h2
    refine ⟨t.take i, (t.drop i).drop s.length, ?_⟩
    conv => lhs; rw [← List.take_append_drop i t, ← List.take_append_drop s.length (t.drop i), h2]
    simp
  · rintro ⟨p, q, rfl⟩
    refine ⟨p.length, by simp, ?_⟩
    rw [e, beq_iff_eq]
    simp
end DL


set_option maxRecDepth 100000
namespace DL
open PySem PySem.Spec PyProof.Rows L2

/-! ### names -/
/-- a line at the head (p: what stands ahead counts as one), at the end, or behind another one -/
def bad : Bool → List Nat → Bool
  | p, [] => p
  | p, c :: l => if c = 45 then p || bad true l else bad false l
def isNm (s : List Nat) : Bool := decide (1 ≤ s.length) && decide (s.length ≤ 12) && s.all nameC && !bad true s
theorem bad_spl : ∀ (l acc : List Nat), ([] : List Nat) ∈ TL.spl [45] 0 acc l ↔ bad acc.isEmpty l = true
  | [], acc => by
    rw [TL.spl_nil, List.mem_singleton]
    unfold bad
    cases acc <;> simp
  | c :: l, acc => by
    unfold bad
    by_cases e : c = 45
    · subst e
      rw [TL.spl_hit (by rfl), List.mem_cons, if_pos rfl]
      show _ ∨ ([] : List Nat) ∈ TL.spl [45] 0 [] l ↔ _
      rw [bad_spl l []]
      cases acc <;> simp
    · rw [TL.spl_miss (TL.pre_of_head [] l e), if_neg e, bad_spl l]
      have : (acc ++ [c]).isEmpty = false := by cases acc <;> rfl
      rw [this]
theorem bad_split {s : List Nat} : ([] : List Nat) ∈ splitC 45 s ↔ bad true s = true := bad_spl s []
theorem bad_iff : ∀ (s : List Nat), s ≠ [] → (bad false s = true ↔ s.getLast? = some 45 ∨ ∃ p q, s = p ++ [45, 45] ++ q)
  | [], h => absurd rfl h
  | [c], _ => by
    have no : ¬ ∃ p q, [c] = p ++ [45, 45] ++ q := by
      rintro ⟨p, q, e⟩
      have := congrArg List.length e
      simp at this
      omega
    by_cases e : c = 45 <;> simp [bad, e, no] <;> (first | done | exact fun x y h => no ⟨x, y, by simpa using h⟩)
  | c :: d :: l, _ => by
    have ih := bad_iff (d :: l) (by simp)
    have last : (c :: d :: l).getLast? = (d :: l).getLast? := by simp
    rw [last]
    have dd : (∃ p q, c :: d :: l = p ++ [45, 45] ++ q) ↔ (c = 45 ∧ d = 45) ∨ ∃ p q, d :: l = p ++ [45, 45] ++ q := by
      constructor
      · rintro ⟨p, q, e⟩
        cases p with
        | nil => simp at e; exact .inl ⟨e.1, e.2.1⟩
        | cons a p => simp at e; exact .inr ⟨p, q, by simpa using e.2⟩
      · rintro (⟨rfl, rfl⟩ | ⟨p, q, e⟩)
        · exact ⟨[], l, rfl⟩
        · exact ⟨c :: p, q, by rw [e]; rfl⟩
    rw [dd]
    by_cases e : c = 45
    · have h1 : bad false (c :: d :: l) = bad true (d :: l) := by simp [bad, e]
      rw [h1]
      by_cases e2 : d = 45
      · simp [bad, e, e2]
      · have h2 : bad true (d :: l) = bad false (d :: l) := by simp [bad, e2]
        rw [h2, ih]
        simp [e2]
    · have h1 : bad false (c :: d :: l) = bad false (d :: l) := by simp [bad, e]
      rw [h1, ih]
      simp [e]
theorem bad_true {c : Nat} {l : List Nat} : bad true (c :: l) = (decide (c = 45) || bad false (c :: l)) := by
  by_cases e : c = 45 <;> simp [bad, e]
theorem atI_last {α : Type} {s : List α} {z : α} (e : s.getLast? = some z) : atI s (-1) = some z := by
  have hne : s ≠ [] := fun x => by rw [x] at e; simp at e
  have hl : 0 < s.length := List.length_pos_iff.mpr hne
  have hx : ixN s.length (-1) = some (s.length - 1) := by
    unfold ixN
    rw [if_neg (by decide), if_pos (by omega)]
    congr 1
    omega
  unfold atI
  rw [hx, List.getLast?_eq_getElem?] at *
  exact e
theorem m_is_nameOf {s : List Nat} {h : AH} (hl : s.length ≤ 16777216) : m_is_name [.str s] h = .ok (.bl (isNm s)) h := by
  unfold isNm
  by_cases h1 : s = []
  · subst h1
    refine gc_ok (g := []) ?_ rfl
    simp [runF, b_is_name]
  · by_cases h2 : s.length ≤ 12
    · have h0 : 1 ≤ s.length := by cases s with
        | nil => exact absurd rfl h1
        | cons a s => simp
      have q0 : (1 : Int) ≤ s.length := by omega
      have q2 : (s.length : Int) ≤ 12 := by omega
      have ea : dCallB allL (dCons b_is_name_c1 dNil) [some (.str s), none] h = .ok (.bl (s.all nameC)) (h ++ [.lst (bls (s.map nameC))]) := by
        refine all_A s (fun c => .str [c]) (gd := fun _ => True) (by simp) nameC (fun _ => trivial) hl fun c _ acc => ⟨_, rfl, ?_⟩
        simp
      refine gc_ok (g := [.lst (bls (s.map nameC))]) ?_ rfl
      rw [decide_eq_true h0, decide_eq_true h2]
      simp only [dCallB_eq, dCons_eq, dNil_eq, RA.bindA_ok] at ea
      by_cases h3 : s.all nameC = true
      · rw [h3] at ea ⊢
        obtain ⟨c, r, es⟩ : ∃ c r, s = c :: r := by cases s with
          | nil => exact absurd rfl h1
          | cons a s => exact ⟨a, s, rfl⟩
        obtain ⟨z, ez⟩ : ∃ z, s.getLast? = some z := by
          cases e : s.getLast? with
          | none => rw [List.getLast?_eq_none_iff] at e; exact absurd e h1
          | some z => exact ⟨z, rfl⟩
        have a0 : atI s 0 = some c := by rw [es]; exact atI_get0
        have em : atI s (-1) = some z := atI_last ez
        have bi := bad_iff s h1
        rw [ez] at bi
        have bt : bad true s = (decide (c = 45) || bad false s) := by rw [es]; exact bad_true
        rw [bt]
        have sb : subStr [45, 45] s = true ↔ ∃ p q, s = p ++ [45, 45] ++ q := subStr_iff
        have ein : ∀ g : AH, inD true (.str [45, 45]) (.str s) g = some (.bl (!subStr [45, 45] s), g) := fun g => by simp [inD]
        have fin : bad false s = (decide (z = 45) || subStr [45, 45] s) := by
          rw [Bool.eq_iff_iff, bi, Bool.or_eq_true, sb, decide_eq_true_iff]
          simp
        rw [fin]
        simp [runF, b_is_name, lenL_str hl, q0, q2, ea, ixD_str hl a0, ixD_str hl em, ein]
        by_cases e1 : c = 45 <;> by_cases e2 : z = 45 <;> simp [e1, e2]
      · rw [Bool.not_eq_true] at h3
        rw [h3] at ea ⊢
        simp [runF, b_is_name, lenL_str hl, q0, q2, ea]
    · refine gc_ok (g := []) ?_ rfl
      have q2 : ¬ (s.length : Int) ≤ 12 := by omega
      have q0 : (1 : Int) ≤ s.length := by omega
      simp [runF, b_is_name, lenL_str hl, q0, q2, h2]
theorem m_law_is_nameOf {s : List Nat} {h : AH} (hl : s.length ≤ 16777216) : m_law_is_name [.str s] h = .ok (.bl (isNm s)) h := by
  unfold isNm
  by_cases h1 : s = []
  · subst h1
    refine gc_ok (g := []) ?_ rfl
    simp [runF, b_law_is_name]
  · by_cases h2 : s.length ≤ 12
    · have h0 : 1 ≤ s.length := by cases s with
        | nil => exact absurd rfl h1
        | cons a s => simp
      have q0 : (1 : Int) ≤ s.length := by omega
      have q2 : (s.length : Int) ≤ 12 := by omega
      have ea : dCallB allL (dCons b_law_is_name_c1 dNil) [some (.str s), none] h = .ok (.bl (s.all nameC)) (h ++ [.lst (bls (s.map nameC))]) := by
        refine all_A s (fun c => .str [c]) (gd := fun _ => True) (by simp) nameC (fun _ => trivial) hl fun c _ acc => ⟨_, rfl, ?_⟩
        simp
      rw [decide_eq_true h0, decide_eq_true h2]
      simp only [dCallB_eq, dCons_eq, dNil_eq, RA.bindA_ok] at ea
      by_cases h3 : s.all nameC = true
      · rw [h3] at ea ⊢
        refine gc_ok (g := [.lst (bls (s.map nameC)), .lst (txs (splitC 45 s))]) ?_ rfl
        have es := mSplit_one (c := 45) (by decide) (s := s) (h := h ++ [.lst (bls (s.map nameC))]) (by omega)
        have ein : inD true (.str []) (.ref (h.length + 1)) (h ++ [.lst (bls (s.map nameC)), .lst (txs (splitC 45 s))]) = some (.bl (!bad true s), h ++ [.lst (bls (s.map nameC)), .lst (txs (splitC 45 s))]) := by
          rw [inD_txs (ws := splitC 45 s) (by simp)]
          have : decide (([] : List Nat) ∈ splitC 45 s) = bad true s := by rw [Bool.eq_iff_iff, decide_eq_true_iff, bad_split]
          rw [this]
          simp
        simp only [List.append_assoc, List.singleton_append, List.length_append, List.length_singleton] at es
        simp [runF, b_law_is_name, lenL_str hl, q0, q2, ea, es, ein]
      · rw [Bool.not_eq_true] at h3
        rw [h3] at ea ⊢
        refine gc_ok (g := [.lst (bls (s.map nameC))]) ?_ rfl
        simp [runF, b_law_is_name, lenL_str hl, q0, q2, ea]
    · refine gc_ok (g := []) ?_ rfl
      have q2 : ¬ (s.length : Int) ≤ 12 := by omega
      have q0 : (1 : Int) ≤ s.length := by omega
      simp [runF, b_law_is_name, lenL_str hl, q0, q2, h2]
end DL


set_option maxRecDepth 100000
namespace DL
open PySem PySem.Spec PyProof.Rows L2

/-! ### the law's own same -/
def okB : Nat → D → Bool
  | _, .non => true
  | _, .bl _ => true
  | _, .int _ => true
  | _, .str _ => true
  | n + 1, .tup ds => decide (ds.length ≤ 16777216) && ds.all (okB n)
  | _, _ => false
theorem zip_all {α : Type} [DecidableEq α] : ∀ {xs ys : List α}, xs.length = ys.length → ((xs.zip ys).all fun p => decide (p.1 = p.2)) = decide (xs = ys)
  | [], [], _ => by simp
  | x :: xs, [], h => by simp at h
  | [], y :: ys, h => by simp at h
  | x :: xs, y :: ys, h => by
    have ih := zip_all (xs := xs) (ys := ys) (by simpa using h)
    rw [List.zip_cons_cons, List.all_cons, ih, Bool.eq_iff_iff]
    simp
def isTup : D → Bool
  | .tup _ => true
  | _ => false
theorem same_spec : ∀ (n : Nat) (a b : D) (h : AH), okB n b = true → (∃ m, okB m a = true) → (a = b ∨ isTup b = false) → m_law_same_ (n + 1) [a, b] h = .ok (.bl (decide (a = b))) h
  | n, a, .non, h, _, ⟨m, ha⟩, _ => by
    refine gc_ok (g := []) ?_ rfl
    cases a <;> simp [runF, b_law_same]
  | n, a, .bl b, h, _, ⟨m, ha⟩, _ => by
    refine gc_ok (g := []) ?_ rfl
    cases a with
    | ref k => cases m <;> simp [okB] at ha
    | bl c => cases b <;> cases c <;> simp [runF, b_law_same]
    | _ => simp [runF, b_law_same]
  | n, a, .int b, h, _, ⟨m, ha⟩, _ => by
    refine gc_ok (g := []) ?_ rfl
    cases a <;> simp [runF, b_law_same]
    cases m <;> simp [okB] at ha
  | n, a, .str b, h, _, ⟨m, ha⟩, _ => by
    refine gc_ok (g := []) ?_ rfl
    cases a <;> simp [runF, b_law_same]
    cases m <;> simp [okB] at ha
  | n + 1, a, .tup ys, h, hb, _, hz => by
    have hab : a = .tup ys := hz.resolve_right (by simp [isTup])
    subst hab
    simp only [okB, Bool.and_eq_true, decide_eq_true_eq, List.all_eq_true] at hb
    have hpp : ∀ p ∈ ys.zip ys, p.1 = p.2 ∧ p.2 ∈ ys := fun p hp => zip_diag hp
    have ec : b_law_same_c1 (m_law_same_ (n + 1)) [some (.tup ys), some (.tup ys), none, none] h = .ok (.ref h.length) (h ++ [.lst (bls ((ys.zip ys).map fun p => decide (p.1 = p.2)))]) := by
      unfold b_law_same_c1
      rw [dComp_mapA (ys.zip ys) (fun p => .tup [p.1, p.2]) (gd := fun _ => True) (h1 := h) (by simp [iZpK_tt plainPs_self]; rfl) (fun p => .bl (decide (p.1 = p.2))) (fun _ => trivial) (by rw [List.length_zip]; omega)]
      · unfold bls; rw [List.map_map]; rfl
      · intro p hp acc
        obtain ⟨h1, h2⟩ := hpp p hp
        refine ⟨_, rfl, ?_⟩
        have := same_spec n p.1 p.2 (h ++ [.lst acc]) (hb.2 _ h2) ⟨n, by rw [h1]; exact hb.2 _ h2⟩ (.inl h1)
        simp [this]
    refine gc_ok (g := [.lst (bls ((ys.zip ys).map fun p => decide (p.1 = p.2)))]) ?_ rfl
    have ea := allL_bls (bs := (ys.zip ys).map fun p => decide (p.1 = p.2)) (n := h.length) (h := h ++ [.lst (bls ((ys.zip ys).map fun p => decide (p.1 = p.2)))]) (by simp)
    rw [List.all_map] at ea
    have ez := zip_all (xs := ys) (ys := ys) rfl
    have e3 : ((ys.zip ys).all (id ∘ fun p => decide (p.1 = p.2))) = true := by
      rw [show (id ∘ fun p : D × D => decide (p.1 = p.2)) = fun p => decide (p.1 = p.2) from rfl, ez, decide_eq_true rfl]
    rw [e3] at ea
    simp [runF, b_law_same, ec, -List.map_map, -decide_eq_true_eq]
    rw [ea]
    simp
  | 0, a, .tup ys, h, hb, _, _ => by simp [okB] at hb
  | _, a, .ref k, h, hb, _, _ => by simp [okB] at hb
theorem m_same {a b : D} {h : AH} (hb : okB 2 b = true) (m : Nat) (ha : okB m a = true) (hz : a = b ∨ isTup b = false) : m_law_same [a, b] h = .ok (.bl (decide (a = b))) h := same_spec 2 a b h hb ⟨m, ha⟩ hz
@[simp] theorem m_same_str {s t : List Nat} {h : AH} : m_law_same [.str s, .str t] h = .ok (.bl (decide (s = t))) h := by
  rw [m_same rfl 0 rfl (.inr rfl)]
  congr 3
  simp
@[simp] theorem m_same_bl {s t : Bool} {h : AH} : m_law_same [.bl s, .bl t] h = .ok (.bl (decide (s = t))) h := by
  rw [m_same rfl 0 rfl (.inr rfl)]
  congr 3
  simp
/-! ### a name made is a name -/
theorem bad_no45 : ∀ (p : Bool) (w : List Nat), (∀ c ∈ w, c ≠ 45) → bad p w = (p && w.isEmpty)
  | p, [], _ => by simp [bad]
  | p, c :: w, h => by
    have hc := h c (by simp)
    simp [bad, hc, bad_no45 false w fun d hd => h d (by simp [hd])]
theorem bad_app (w : List Nat) : ∀ (n : List Nat) (p : Bool), bad p (n ++ 45 :: w) = (bad p n || bad true w)
  | [], p => by simp [bad]
  | c :: n, p => by
    by_cases e : c = 45
    · simp [bad, e, bad_app w n, Bool.or_assoc]
    · simp [bad, e, bad_app w n]
/-- a word of a name -/
def gw (w : List Nat) : Prop := w ≠ [] ∧ ∀ c ∈ w, alnum c = true
theorem alnum_ne {c : Nat} (h : alnum c = true) : c ≠ 45 := by
  simp only [alnum, Bool.and_eq_true, Bool.or_eq_true, decide_eq_true_eq] at h
  omega
theorem gw_bad {w : List Nat} (h : gw w) : bad true w = false := by
  rw [bad_no45 true w fun c hc => alnum_ne (h.2 c hc)]
  cases w with
  | nil => exact absurd rfl h.1
  | cons a w => rfl
theorem gw_nm {w : List Nat} (h : gw w) (hl : w.length ≤ 12) : isNm w = true := by
  unfold isNm
  have h1 : 1 ≤ w.length := List.length_pos_iff.mpr h.1
  have h2 : w.all nameC = true := by rw [List.all_eq_true]; exact fun c hc => by simp [nameC, h.2 c hc]
  rw [decide_eq_true h1, decide_eq_true hl, h2, gw_bad h]
  rfl
theorem grow_nm : ∀ (ws : List (List Nat)) (n : List Nat), isNm n = true → (∀ w ∈ ws, gw w) → isNm (grow n ws) = true
  | [], n, hn, _ => hn
  | w :: ws, n, hn, hw => by
    unfold grow
    split
    · exact hn
    · rename_i hl
      refine grow_nm ws _ ?_ fun x hx => hw x (by simp [hx])
      have g := hw w (by simp)
      unfold isNm at hn ⊢
      simp only [Bool.and_eq_true, decide_eq_true_eq, Bool.not_eq_true', List.all_append, List.all_cons, List.length_append, List.length_cons] at hn ⊢
      refine ⟨⟨⟨by omega, by omega⟩, hn.1.2, by simp [nameC], ?_⟩, ?_⟩
      · rw [List.all_eq_true]; exact fun c hc => by simp [nameC, g.2 c hc]
      · rw [bad_app, hn.2, gw_bad g]; rfl
theorem madeL_nm {ws : List (List Nat)} (h : ∀ w ∈ ws, gw w) : isNm (madeL ws) = true := by
  cases ws with
  | nil => decide +kernel
  | cons w ws =>
    unfold madeL
    have g := h w (by simp)
    dsimp only
    split
    · refine gw_nm ⟨fun e => ?_, fun c hc => g.2 c (List.mem_of_mem_take hc)⟩ (by simp; omega)
      have := congrArg List.length e
      simp at this
      exact g.1 this
    · exact grow_nm ws w (gw_nm g (by omega)) fun x hx => h x (by simp [hx])
theorem spl_mem {l w : List Nat} {c : Nat} (h : w ∈ splitC 45 l) (hc : c ∈ w) : c ∈ l ∧ c ≠ 45 := by
  have key : ∀ (l acc : List Nat), (∀ c ∈ acc, c ≠ 45) → ∀ w ∈ TL.spl [45] 0 acc l, ∀ c ∈ w, (c ∈ acc ∨ c ∈ l) ∧ c ≠ 45 := by
    intro l
    induction l with
    | nil => intro acc ha w h c hc; rw [TL.spl_nil, List.mem_singleton] at h; subst h; exact ⟨.inl hc, ha c hc⟩
    | cons a l ih =>
      intro acc ha w h c hc
      by_cases e : a = 45
      · subst e
        rw [TL.spl_hit (by rfl), List.mem_cons] at h
        rcases h with rfl | h
        · exact ⟨.inl hc, ha c hc⟩
        · obtain ⟨h1, h2⟩ := ih [] (by simp) w h c hc
          exact ⟨.inr (by rcases h1 with h1 | h1; simp at h1; simp [h1]), h2⟩
      · rw [TL.spl_miss (TL.pre_of_head [] l e)] at h
        obtain ⟨h1, h2⟩ := ih (acc ++ [a]) (by intro d hd; rcases List.mem_append.mp hd with hd | hd; exact ha d hd; rw [List.mem_singleton] at hd; rw [hd]; exact e) w h c hc
        refine ⟨?_, h2⟩
        rcases h1 with h1 | h1
        · rcases List.mem_append.mp h1 with h1 | h1
          · exact .inl h1
          · rw [List.mem_singleton] at h1; exact .inr (by simp [h1])
        · exact .inr (by simp [h1])
  obtain ⟨h1, h2⟩ := key l [] (by simp) w h c hc
  exact ⟨by simpa using h1, h2⟩
theorem wordsOf_gw {t w : List Nat} (h : w ∈ wordsOf t) : gw w := by
  refine ⟨(wordsOf_mem h).1, fun c hc => ?_⟩
  unfold wordsOf at h
  rw [List.mem_filter] at h
  obtain ⟨h1, h2⟩ := spl_mem h.1 hc
  obtain ⟨d, _, hd⟩ := List.mem_flatMap.mp h1
  have := sign_C hd
  simp only [nameC, Bool.or_eq_true, decide_eq_true_eq, h2, or_false] at this
  exact this
theorem made_nm (t : List Nat) : isNm (made t) = true := madeL_nm fun w hw => wordsOf_gw hw
theorem isNm_len {s : List Nat} (h : isNm s = true) : s.length ≤ 12 := by
  unfold isNm at h
  simp only [Bool.and_eq_true, decide_eq_true_eq] at h
  exact h.1.1.2
end DL


set_option maxRecDepth 100000
namespace DL
open PySem PySem.Spec PyProof.Rows L2

/-! ## unlike, plain -/
def strip45 (l : List Nat) : List Nat := l.take (l.length - (l.reverse.takeWhile (· == 45)).length)
def numEnd (k : Nat) : List Nat := 45 :: istr k
def num (n : List Nat) (k : Nat) : List Nat := strip45 (n.take (12 - (numEnd k).length)) ++ numEnd k
/-- the first number from k on, among m, whose name is free -/
def firstFree (n : List Nat) (T : List (List Nat)) : Nat → Nat → Nat
  | 0, k => k
  | m + 1, k => if num n k ∈ T then firstFree n T m (k + 1) else k
def unl (n : List Nat) (T : List (List Nat)) : List Nat := if n ∈ T then num n (firstFree n T 90 2) else n
/-! ### numbers -/
theorem istr_facts : ∀ k < 100, (istr (k : Nat)).length ≤ 2 ∧ istr (k : Nat) ≠ [] ∧ (istr (k : Nat)).all alnum = true := by decide +kernel
theorem istr_inj : ∀ j < 100, ∀ k < 100, istr (j : Nat) = istr (k : Nat) → j = k := by decide +kernel
theorem log_small : ∀ k < 100, (((k : Nat) : Int).natAbs.log2 < 1920) := by decide +kernel
theorem strL_nat {k : Nat} (hk : k < 100) {h : AH} : strL [.int k] h = some (.str (istr k), h) := by
  simp only [strL]
  rw [if_pos (log_small k hk)]
theorem numEnd_len {k : Nat} (hk : k < 100) : 2 ≤ (numEnd k).length ∧ (numEnd k).length ≤ 3 := by
  have := istr_facts k hk
  have h1 : 0 < (istr (k : Nat)).length := List.length_pos_iff.mpr this.2.1
  simp only [numEnd, List.length_cons]
  omega
/-! ### lines at the end -/
theorem strip45_concat (l : List Nat) : strip45 (l ++ [45]) = strip45 l := by
  unfold strip45
  rw [List.reverse_append]
  simp only [List.reverse_cons, List.reverse_nil, List.nil_append, List.singleton_append, List.takeWhile_cons]
  simp only [beq_self_eq_true, if_true, List.length_append, List.length_cons, List.length_nil]
  rw [show l.length + (0 + 1) - ((l.reverse.takeWhile (· == 45)).length + 1) = l.length - (l.reverse.takeWhile (· == 45)).length by omega]
  rw [List.take_append_of_le_length (by omega)]
theorem strip45_no {l : List Nat} (h : l.getLast? ≠ some 45) : strip45 l = l := by
  unfold strip45
  rcases List.eq_nil_or_concat l with e | ⟨r, c, e⟩
  · subst e; rfl
  · rw [List.concat_eq_append] at e
    subst e
    have hc : c ≠ 45 := by simpa using h
    have : (c == 45) = false := by simpa using hc
    rw [List.reverse_append]
    simp only [List.reverse_cons, List.reverse_nil, List.nil_append, List.singleton_append, List.takeWhile_cons, this]
    exact List.take_of_length_le (by simp)
theorem strip45_no2 (l : List Nat) (h2 : l.getLast? = some 45 → l.dropLast.getLast? ≠ some 45) : strip45 l = if l.getLast? = some 45 then l.dropLast else l := by
  by_cases h : l.getLast? = some 45
  · rw [if_pos h]
    rcases List.eq_nil_or_concat l with e | ⟨r, c, e⟩
    · subst e; simp at h
    · rw [List.concat_eq_append] at e
      subst e
      have hc : c = 45 := by simpa using h
      subst hc
      rw [strip45_concat, List.dropLast_concat]
      refine strip45_no ?_
      have := h2 (by simp)
      rw [List.dropLast_concat] at this
      exact this
  · rw [if_neg h, strip45_no h]
theorem rstripC (s : List Nat) : un2 Txt.rstripChars s [45] = strip45 s := by
  unfold un2 Txt.rstripChars
  rw [show Txt.stripBy _ false true (S s) = _ from PyProof.Rows.stripBy_eq _ _ _ _, PySem.StrLaws.strSub_toList]
  have e : ((S [45]).cps.contains : Nat → Bool) = fun c => c == 45 := by
    funext c
    show (#[45] : Array Nat).contains c = _
    rw [Bool.eq_iff_iff]
    simp
  rw [e]
  rfl
theorem endsC (s : List Nat) : Txt.endswith (S s) (S [45]) = decide (s.getLast? = some 45) := by
  rw [Bool.eq_iff_iff, decide_eq_true_iff]
  unfold Txt.endswith
  simp only [Bool.and_eq_true, decide_eq_true_eq, S_length, PySem.StrLaws.subAt_eq, beq_iff_eq]
  show _ ∧ (s.drop _).take 1 = [45] ↔ _
  rcases List.eq_nil_or_concat s with e | ⟨r, c, e⟩
  · subst e; simp
  · rw [List.concat_eq_append] at e
    subst e
    simp

/-! ### a name with a number -/
theorem bad_prefix : ∀ (l r : List Nat) (p : Bool), bad p (l ++ r) = false → l.getLast? ≠ some 45 → (l = [] → p = false) → bad p l = false
  | [], r, p, _, _, h => h rfl
  | c :: l, r, p, h, hl, _ => by
    rw [List.cons_append] at h
    unfold bad at h ⊢
    by_cases e : c = 45
    · rw [if_pos e] at h ⊢
      rw [Bool.or_eq_false_iff] at h ⊢
      have hne : l ≠ [] := fun z => by subst z; simp [e] at hl
      refine ⟨h.1, bad_prefix l r true h.2 ?_ fun z => absurd z hne⟩
      intro z
      apply hl
      cases l with
      | nil => exact absurd rfl hne
      | cons a l => simpa using z
    · rw [if_neg e] at h ⊢
      refine bad_prefix l r false h ?_ fun _ => rfl
      intro z
      apply hl
      cases l with
      | nil => simp at z
      | cons a l => simpa using z

theorem num_facts {n : List Nat} {k : Nat} (hn : isNm n = true) (hk : k < 100) : (n.take (12 - (numEnd k).length) ≠ [] ∧ strip45 (n.take (12 - (numEnd k).length)) = (if (n.take (12 - (numEnd k).length)).getLast? = some 45 then (n.take (12 - (numEnd k).length)).dropLast else n.take (12 - (numEnd k).length))
      ∧ bad true (strip45 (n.take (12 - (numEnd k).length))) = false) := by
  obtain ⟨hl2, hl3⟩ := numEnd_len hk
  unfold isNm at hn
  simp only [Bool.and_eq_true, decide_eq_true_eq, Bool.not_eq_true'] at hn
  obtain ⟨⟨⟨h1, h2⟩, h3⟩, hb⟩ := hn
  generalize he : 12 - (numEnd k).length = m
  have hm : 0 < m := by omega
  obtain ⟨c, r, rfl⟩ : ∃ c r, n = c :: r := by cases n with
    | nil => simp at h1
    | cons c r => exact ⟨c, r, rfl⟩
  obtain ⟨j, rfl⟩ : ∃ j, m = j + 1 := ⟨m - 1, by omega⟩
  rw [List.take_succ_cons]
  have hc : c ≠ 45 := fun e => by simp [bad, e] at hb
  have hpre : ∀ l r' : List Nat, (c :: r) = l ++ r' → l ≠ [] → l.getLast? ≠ some 45 → bad true l = false := fun l r' e hl hlast => by
    rw [e] at hb
    exact bad_prefix _ _ _ hb hlast fun z => absurd z hl
  have hsp : c :: r = (c :: r.take j) ++ r.drop j := by simp
  have hbf : bad false (c :: r) = false := by
    rw [bad_true] at hb
    simp only [Bool.or_eq_false_iff] at hb
    exact hb.2
  have hA : (c :: r.take j).getLast? = some 45 → (c :: r.take j).dropLast.getLast? ≠ some 45 := by
    intro e1 e2
    rcases List.eq_nil_or_concat (c :: r.take j) with e | ⟨l1, x, e⟩
    · simp at e
    · rw [List.concat_eq_append] at e
      rw [e] at e1 e2
      rw [List.dropLast_concat] at e2
      have hx : x = 45 := by simpa using e1
      rcases List.eq_nil_or_concat l1 with e' | ⟨l2, y, e'⟩
      · subst e'; simp at e2
      · rw [List.concat_eq_append] at e'
        subst e'
        have hy : y = 45 := by simpa using e2
        have : bad false (c :: r) = true := by
          rw [bad_iff _ (by simp)]
          refine .inr ⟨l2, r.drop j, ?_⟩
          rw [hsp, e, hx, hy]
          simp
        rw [hbf] at this
        cases this
  refine ⟨by simp, strip45_no2 _ hA, ?_⟩
  rw [strip45_no2 _ hA]
  split
  · rename_i e1
    rcases List.eq_nil_or_concat (c :: r.take j) with e | ⟨l1, x, e⟩
    · simp at e
    · rw [List.concat_eq_append] at e
      have e2 := hA e1
      rw [e] at e1 e2 ⊢
      rw [List.dropLast_concat] at e2 ⊢
      have hx : x = 45 := by simpa using e1
      refine hpre l1 (45 :: r.drop j) (by rw [hsp, e, hx]; simp) ?_ e2
      intro z
      subst z
      rw [List.nil_append, hx] at e
      injection e with e
      exact hc e
  · rename_i e1
    exact hpre _ (r.drop j) hsp (by simp) e1
theorem alnums_bad {w : List Nat} (h : w.all alnum = true) : bad true w = w.isEmpty := by
  rw [bad_no45 true w fun c hc => alnum_ne (List.all_eq_true.mp h c hc)]
  rfl
theorem num_nm {n : List Nat} {k : Nat} (hn : isNm n = true) (hk : k < 100) : isNm (num n k) = true := by
  obtain ⟨f1, f2, f3⟩ := num_facts hn hk
  obtain ⟨hl2, hl3⟩ := numEnd_len hk
  have hi := istr_facts k hk
  have hsl : (strip45 (n.take (12 - (numEnd k).length))).length ≤ 12 - (numEnd k).length := by
    unfold strip45
    rw [List.length_take, List.length_take]
    omega
  have hall : ∀ c ∈ strip45 (n.take (12 - (numEnd k).length)), nameC c = true := fun c hc => by
    unfold isNm at hn
    simp only [Bool.and_eq_true, List.all_eq_true] at hn
    exact hn.1.2 c (List.mem_of_mem_take (List.mem_of_mem_take hc))
  unfold isNm num
  simp only [Bool.and_eq_true, decide_eq_true_eq, Bool.not_eq_true', List.length_append, List.all_append]
  refine ⟨⟨⟨by omega, by omega⟩, List.all_eq_true.mpr hall, ?_⟩, ?_⟩
  · rw [List.all_eq_true]
    intro c hc
    rcases List.mem_cons.mp hc with rfl | hc
    · rfl
    · simp [nameC, List.all_eq_true.mp hi.2.2 c hc]
  · rw [show numEnd k = 45 :: istr k from rfl] at f3 ⊢
    rw [bad_app, f3, alnums_bad hi.2.2]
    cases e : istr (k : Nat) with
    | nil => exact absurd e hi.2.1
    | cons a b => rfl
/-- names with other numbers are others -/
theorem last_line (a b : List Nat) : ∀ (x y : List Nat), (∀ c ∈ x, c ≠ 45) → (∀ c ∈ y, c ≠ 45) → a ++ 45 :: x = b ++ 45 :: y → x = y := by
  intro x y hx hy e
  have h := congrArg List.reverse e
  simp only [List.reverse_append, List.reverse_cons, List.append_assoc, List.singleton_append] at h
  have key : ∀ (x y p q : List Nat), (∀ c ∈ x, c ≠ 45) → (∀ c ∈ y, c ≠ 45) → x ++ 45 :: p = y ++ 45 :: q → x = y := by
    intro x
    induction x with
    | nil =>
      intro y p q _ hy e
      cases y with
      | nil => rfl
      | cons c y => simp only [List.nil_append, List.cons_append, List.cons.injEq] at e; exact absurd e.1.symm (hy c (by simp))
    | cons c x ih =>
      intro y p q hx hy e
      cases y with
      | nil => simp only [List.nil_append, List.cons_append, List.cons.injEq] at e; exact absurd e.1 (hx c (by simp))
      | cons d y =>
        simp only [List.cons_append, List.cons.injEq] at e
        rw [e.1, ih y p q (fun c hc => hx c (by simp [hc])) (fun c hc => hy c (by simp [hc])) e.2]
  have := key x.reverse y.reverse _ _ (fun c hc => hx c (by simpa using hc)) (fun c hc => hy c (by simpa using hc)) h
  exact List.reverse_inj.mp this
theorem num_inj {n : List Nat} {j k : Nat} (hj : j < 100) (hk : k < 100) (e : num n j = num n k) : j = k := by
  refine istr_inj j hj k hk (last_line _ _ _ _ ?_ ?_ e)
  · exact fun c hc => alnum_ne (List.all_eq_true.mp (istr_facts j hj).2.2 c hc)
  · exact fun c hc => alnum_ne (List.all_eq_true.mp (istr_facts k hk).2.2 c hc)
/-! ### the first free one -/
theorem firstFree_spec (n : List Nat) (T : List (List Nat)) : ∀ (m k : Nat), k ≤ firstFree n T m k ∧ firstFree n T m k ≤ k + m ∧ (∀ i, k ≤ i → i < firstFree n T m k → num n i ∈ T) ∧ (firstFree n T m k < k + m → num n (firstFree n T m k) ∉ T)
  | 0, k => ⟨Nat.le_refl _, Nat.le_refl _, fun i h1 h2 => by simp [firstFree] at h2; omega, fun h => by simp [firstFree] at h⟩
  | m + 1, k => by
    unfold firstFree
    split
    · rename_i hin
      obtain ⟨h1, h2, h3, h4⟩ := firstFree_spec n T m (k + 1)
      refine ⟨by omega, by omega, fun i hi hl => ?_, fun h => h4 (by omega)⟩
      by_cases e : i = k
      · rw [e]; exact hin
      · exact h3 i (by omega) hl
    · rename_i hin
      exact ⟨Nat.le_refl _, by omega, fun i h1 h2 => by omega, fun _ => hin⟩
theorem nodup_sub {α : Type} [DecidableEq α] : ∀ {l T : List α}, l.Nodup → (∀ x ∈ l, x ∈ T) → l.length ≤ T.length
  | [], _, _, _ => Nat.zero_le _
  | a :: l, T, hn, h => by
    rw [List.nodup_cons] at hn
    have := nodup_sub (l := l) (T := T.erase a) hn.2 fun x hx => (List.mem_erase_of_ne (fun (e : x = a) => hn.1 (by rw [← e]; exact hx))).mpr (h x (by simp [hx]))
    have e := List.length_erase_of_mem (h a (by simp))
    have : 0 < T.length := List.length_pos_iff.mpr fun z => by have := h a (by simp); rw [z] at this; simp at this
    simp only [List.length_cons]
    omega
theorem firstFree_lt {n : List Nat} {T : List (List Nat)} (hT : T.length ≤ 80) : firstFree n T 90 2 ≤ T.length + 2 := by
  obtain ⟨h1, h2, h3, h4⟩ := firstFree_spec n T 90 2
  have nd : ((List.range (firstFree n T 90 2 - 2)).map fun i => num n (i + 2)).Nodup := by
    refine List.pairwise_map.mpr (List.Pairwise.imp_of_mem ?_ (List.nodup_range (n := firstFree n T 90 2 - 2)))
    intro a b ha hb hab e
    apply hab
    rw [List.mem_range] at ha hb
    have := num_inj (n := n) (j := a + 2) (k := b + 2) (by omega) (by omega) e
    omega
  have := nodup_sub nd (T := T) fun x hx => by
    obtain ⟨i, hi, rfl⟩ := List.mem_map.mp hx
    rw [List.mem_range] at hi
    exact h3 (i + 2) (by omega) (by omega)
  rw [List.length_map, List.length_range] at this
  omega
theorem unl_free {n : List Nat} {T : List (List Nat)} (hT : T.length ≤ 80) : unl n T ∉ T := by
  unfold unl
  split
  · exact (firstFree_spec n T 90 2).2.2.2 (by have := firstFree_lt (n := n) hT; omega)
  · assumption
theorem unl_nm {n : List Nat} {T : List (List Nat)} (hn : isNm n = true) (hT : T.length ≤ 80) : isNm (unl n T) = true := by
  unfold unl
  split
  · exact num_nm hn (by have := firstFree_lt (n := n) hT; omega)
  · exact hn
end DL


set_option maxRecDepth 100000
namespace DL
open PySem PySem.Spec PyProof.Rows L2

/-- texts, in a tuple or a list -/
def TxAt (h : AH) (tk : D) (T : List (List Nat)) : Prop := ∀ neg w, inD neg (.str w) tk h = some (.bl (xor neg (decide (w ∈ T))), h)
theorem TxAt.tup {h : AH} {T : List (List Nat)} : TxAt h (.tup (txs T)) T := fun _ _ => inD_txt
theorem TxAt.lst {h : AH} {T : List (List Nat)} {r : Nat} (e : h[r]? = some (.lst (txs T))) : TxAt h (.ref r) T := fun _ _ => inD_txs e
theorem front_cut {n : List Nat} {k : Nat} (hk : k < 100) (hl : n.length ≤ 1000) {h : AH} : slK (.str n) none (some ((12 : Int) - ((numEnd k).length : Int))) h = some (.str (n.take (12 - (numEnd k).length)), h) := by
  obtain ⟨h2, h3⟩ := numEnd_len hk
  rw [slK_str (by omega), show (12 : Int) - ((numEnd k).length : Int) = ((12 - (numEnd k).length : Nat) : Int) by omega, cut_hi]
theorem add_end {k : Nat} (hk : k < 100) {h : AH} : addD (.str [45]) (.str (istr k)) h = some (.str (numEnd k), h) := by
  have := istr_facts k hk
  rw [addD_ss (by simp; omega)]
  rfl
theorem strip45_le (l : List Nat) : (strip45 l).length ≤ l.length := by unfold strip45; rw [List.length_take]; omega
theorem m_numberedOf {n : List Nat} {k : Nat} (hk : k < 100) (hl : n.length ≤ 1000) {h : AH} : m_numbered [.str n, .int k] h = .ok (.str (num n k)) h := by
  refine gc_ok (g := []) ?_ rfl
  obtain ⟨h2, h3⟩ := numEnd_len hk
  have e1 := strL_nat hk (h := h)
  have e2 := add_end hk (h := h)
  have e3 := front_cut hk hl (h := h)
  have e4 : mS1 Txt.rstripChars (.str (n.take (12 - (numEnd k).length))) [.str [45]] h = some (.str (strip45 (n.take (12 - (numEnd k).length))), h) := by
    unfold mS1
    dsimp only
    rw [if_pos (by rw [List.length_take]; omega), rstripC]
  have e5 : addD (.str (strip45 (n.take (12 - (numEnd k).length)))) (.str (numEnd k)) h = some (.str (num n k), h) := by
    rw [addD_ss]
    · rfl
    · have := strip45_le (n.take (12 - (numEnd k).length))
      rw [List.length_take] at this
      omega
  have e6 : lenL [.str (numEnd k)] h = some (.int (numEnd k).length, h) := lenL_str (by omega)
  revert e1 e2 e3 e4 e5 e6
  generalize numEnd k = e
  generalize istr (k : Nat) = s
  generalize num n k = r
  intro e1 e2 e3 e4 e5 e6
  generalize hF : n.take (12 - e.length) = F at e3 e4 e5
  simp [runF, b_numbered, e1, e2, e3, e4, e5, e6]
theorem m_unlikeOf {n : List Nat} {tk : D} {T : List (List Nat)} {h : AH} (hT : TxAt h tk T) (hl : n.length ≤ 1000) (hm : T.length ≤ 80) : m_unlike [.str n, tk] h = .ok (.str (unl n T)) h := by
  have hT' : ∀ neg w, inD neg (.str w) tk h = some (.bl (xor neg (decide (w ∈ T))), h) := hT
  refine gc_ok (g := []) ?_ rfl
  unfold unl
  by_cases hn : n ∈ T
  · rw [if_pos hn]
    obtain ⟨s1, s2, s3, s4⟩ := firstFree_spec n T 90 2
    have hlt := firstFree_lt (n := n) hm
    have hfree := s4 (by omega)
    generalize hff : firstFree n T 90 2 = ff at s1 s2 s3 hfree hlt ⊢
    have wl : (fun r => r = RS.nx [some (.str n), some tk, some (.int (ff : Nat))] h) (sWhile b_unlike_t1 b_unlike_l1 [some (.str n), some tk, some (.int 2)] h) := by
      refine while_inv (fun σ hh => ∃ k : Nat, σ = [some (.str n), some tk, some (.int k)] ∧ hh = h ∧ 2 ≤ k ∧ k ≤ ff) (fun σ _ => match σ[2]? with | some (some (D.int i)) => ff - i.toNat | _ => 0) (fun r => r = RS.nx [some (.str n), some tk, some (.int (ff : Nat))] h) ?_ (by intro e; cases e) _ _ ⟨2, rfl, rfl, by omega, by omega⟩
      rintro σ hh ⟨k, rfl, rfl, h2, hk⟩
      have et : b_unlike_t1 [some (.str n), some tk, some (.int k)] hh = .ok (decide (num n k ∈ T)) hh := by
        simp [b_unlike_t1, m_numberedOf (k := k) (by omega) hl, hT']
      by_cases e : k = ff
      · subst e
        exact .inl ⟨hh, by rw [et, decide_eq_false hfree], rfl⟩
      · refine .inr ⟨hh, [some (.str n), some tk, some (.int ((k + 1 : Nat) : Int))], hh, by rw [et, decide_eq_true (s3 k h2 (by omega))], .inl ?_, ⟨k + 1, rfl, rfl, by omega, by omega⟩, ?_⟩
        · simp [b_unlike_l1]
        · simp only [List.getElem?_cons_succ, List.getElem?_cons_zero, Int.toNat_natCast]
          omega
    dsimp only at wl
    simp [runF, b_unlike, hT', hn, wl, m_numberedOf (k := ff) (by omega) hl]
  · rw [if_neg hn]
    simp [runF, b_unlike, hT', hn]
theorem m_law_unlikeOf {n : List Nat} {tk : D} {T : List (List Nat)} {h : AH} (hT : TxAt h tk T) (hn : isNm n = true) (hm : T.length ≤ 80) : m_law_unlike [.str n, tk] h = .ok (.str (unl n T)) h := by
  have hl : n.length ≤ 1000 := by have := isNm_len hn; omega
  refine gc_ok (g := []) ?_ rfl
  obtain ⟨s1, s2, s3, s4⟩ := firstFree_spec n T 90 2
  have hlt := firstFree_lt (n := n) hm
  have hfree := s4 (by omega)
  have hu : unl n T = if n ∈ T then num n (firstFree n T 90 2) else n := rfl
  generalize hff : firstFree n T 90 2 = ff at s1 s2 s3 hfree hlt hu
  have wl : (fun r => ∃ k e f, r = RS.nx [some (.str n), some tk, some (.str (unl n T)), some (.int k), e, f] h) (sWhile b_law_unlike_t1 b_law_unlike_l1 [some (.str n), some tk, some (.str n), some (.int 1), none, none] h) := by
    refine while_inv (fun σ hh => ∃ (k : Nat) (got : List Nat) (e f : Option D), σ = [some (.str n), some tk, some (.str got), some (.int k), e, f] ∧ hh = h ∧ (k = 1 ∧ got = n ∨ 2 ≤ k ∧ k ≤ ff ∧ n ∈ T ∧ got = num n k)) (fun σ _ => match σ[3]? with | some (some (D.int i)) => ff - i.toNat | _ => 0) (fun r => ∃ k e f, r = RS.nx [some (.str n), some tk, some (.str (unl n T)), some (.int k), e, f] h) ?_ (by rintro ⟨_, _, _, e⟩; cases e) _ _ ⟨1, n, none, none, rfl, rfl, .inl ⟨rfl, rfl⟩⟩
    rintro σ hh ⟨k, got, e, f, rfl, rfl, hk⟩
    have et : b_law_unlike_t1 [some (.str n), some tk, some (.str got), some (.int k), e, f] hh = .ok (decide (got ∈ T)) hh := by
      have hT' : ∀ neg w, inD neg (.str w) tk hh = some (.bl (xor neg (decide (w ∈ T))), hh) := hT
      simp [b_law_unlike_t1, hT']
    have step : k + 1 < 100 → b_law_unlike_l1 [some (.str n), some tk, some (.str got), some (.int k), e, f] hh = .nx [some (.str n), some tk, some (.str (num n (k + 1))), some (.int ((k + 1 : Nat) : Int)), some (.str (numEnd (k + 1))), some (.str (strip45 (n.take (12 - (numEnd (k + 1)).length))))] hh := by
      intro hk1
      obtain ⟨f1, f2, f3⟩ := num_facts hn hk1
      obtain ⟨h2, h3⟩ := numEnd_len hk1
      have e1 := strL_nat hk1 (h := hh)
      have e2 := add_end hk1 (h := hh)
      have e3 := front_cut hk1 hl (h := hh)
      have e6 : lenL [.str (numEnd (k + 1))] hh = some (.int (numEnd (k + 1)).length, hh) := lenL_str (by omega)
      have e5 : addD (.str (strip45 (n.take (12 - (numEnd (k + 1)).length)))) (.str (numEnd (k + 1))) hh = some (.str (num n (k + 1)), hh) := by
        rw [addD_ss]
        · rfl
        · have := strip45_le (n.take (12 - (numEnd (k + 1)).length))
          rw [List.length_take] at this
          omega
      have e7 : mB1 Txt.endswith (.str (n.take (12 - (numEnd (k + 1)).length))) [.str [45]] hh = some (.bl (decide ((n.take (12 - (numEnd (k + 1)).length)).getLast? = some 45)), hh) := by
        simp only [mB1, endsC]
      have e8 : slK (.str (n.take (12 - (numEnd (k + 1)).length))) none (some (-1 : Int)) hh = some (.str (n.take (12 - (numEnd (k + 1)).length)).dropLast, hh) := by
        rw [slK_str (by rw [List.length_take]; omega), cut_but1]
      have e0 : ((k : Int) + 1) = ((k + 1 : Nat) : Int) := by omega
      revert e0 e1 e2 e3 e5 e6 e7 e8 f2
      generalize numEnd (k + 1) = en
      generalize istr ((k + 1 : Nat) : Int) = s
      generalize ((k + 1 : Nat) : Int) = K
      generalize num n (k + 1) = r
      generalize n.take (12 - en.length) = F
      generalize strip45 F = G
      intro f2 e1 e2 e3 e6 e5 e7 e8 e0
      by_cases hx : F.getLast? = some 45
      · rw [if_pos hx] at f2
        subst f2
        rw [decide_eq_true hx] at e7
        simp [b_law_unlike_l1, e0, e1, e2, e3, e5, e6, e7, e8]
      · rw [if_neg hx] at f2
        subst f2
        rw [decide_eq_false hx] at e7
        simp [b_law_unlike_l1, e0, e1, e2, e3, e5, e6, e7, e8]
    rcases hk with ⟨rfl, rfl⟩ | ⟨hk2, hkf, hin, rfl⟩
    · by_cases hin : got ∈ T
      · refine .inr ⟨hh, _, hh, by rw [et, decide_eq_true hin], .inl (step (by omega)), ⟨2, num got 2, _, _, rfl, rfl, .inr ⟨by omega, s1, hin, rfl⟩⟩, ?_⟩
        simp only [List.getElem?_cons_succ, List.getElem?_cons_zero, Int.toNat_natCast]
        omega
      · refine .inl ⟨hh, by rw [et, decide_eq_false hin], ((1 : Nat) : Int), e, f, ?_⟩
        rw [hu, if_neg hin]
    · by_cases e' : k = ff
      · subst e'
        refine .inl ⟨hh, by rw [et, decide_eq_false hfree], ((k : Nat) : Int), e, f, ?_⟩
        rw [hu, if_pos hin]
      · refine .inr ⟨hh, _, hh, by rw [et, decide_eq_true (s3 k hk2 (by omega))], .inl (step (by omega)), ⟨k + 1, _, _, _, rfl, rfl, .inr ⟨by omega, by omega, hin, rfl⟩⟩, ?_⟩
        simp only [List.getElem?_cons_succ, List.getElem?_cons_zero, Int.toNat_natCast]
        omega
  obtain ⟨k, e, f, wl⟩ := wl
  simp [runF, b_law_unlike, wl]
end DL


set_option maxRecDepth 100000
namespace DL
open PySem PySem.Spec PyProof.Rows L2

/-! ## k18: words of titles, plain -/
theorem pre_one {c d : Nat} {r : List Nat} : TL.pre [c] (d :: r) = decide (d = c) := by
  simp only [TL.pre]
  by_cases h : d = c <;> simp [h]
theorem spl_cons {c d : Nat} {acc r : List Nat} : TL.spl [c] 0 acc (d :: r) = if d = c then acc :: TL.spl [c] 0 [] r else TL.spl [c] 0 (acc ++ [d]) r := by
  conv => lhs; unfold TL.spl
  rw [pre_one]
  by_cases h : d = c
  · rw [decide_eq_true h, if_pos rfl, if_pos h]; rfl
  · rw [decide_eq_false h, if_neg Bool.false_ne_true, if_neg h]
theorem spl_app {c : Nat} {V : List Nat} : ∀ (U acc : List Nat), TL.spl [c] 0 acc (U ++ c :: V) = TL.spl [c] 0 acc U ++ TL.spl [c] 0 [] V
  | [], acc => by rw [List.nil_append, spl_cons, if_pos rfl]; rfl
  | d :: U, acc => by
    rw [List.cons_append, spl_cons, spl_cons]
    by_cases h : d = c
    · rw [if_pos h, if_pos h, spl_app U []]; rfl
    · rw [if_neg h, if_neg h, spl_app U (acc ++ [d])]
/-- the words of signs as they are in names -/
def wf (u : List Nat) : List (List Nat) := (splitC 45 u).filter ne
theorem wf_nil : wf [] = [] := rfl
theorem wf_app (U V : List Nat) : wf (U ++ 45 :: V) = wf U ++ wf V := by
  unfold wf splitC
  rw [spl_app, List.filter_append]
theorem wf_sep (V : List Nat) : wf (45 :: V) = wf V := wf_app [] V
theorem spl_no {w : List Nat} : ∀ (acc : List Nat), (∀ c ∈ w, c ≠ 45) → TL.spl [45] 0 acc w = [acc ++ w] := by
  induction w with
  | nil => intro acc _; simp [TL.spl]
  | cons d w ih =>
    intro acc h
    rw [spl_cons, if_neg (h d (by simp)), ih _ fun c hc => h c (by simp [hc])]
    simp
theorem gw_no {w : List Nat} (h : gw w) : ∀ c ∈ w, c ≠ 45 := fun c hc => alnum_ne (h.2 c hc)
theorem wf_word {w : List Nat} (h : gw w) : wf w = [w] := by
  unfold wf splitC
  rw [spl_no [] (gw_no h)]
  cases w with
  | nil => exact absurd rfl h.1
  | cons a b => rfl
theorem wf_more (U : List Nat) {w : List Nat} (h : gw w) : wf (U ++ 45 :: w) = wf U ++ [w] := by rw [wf_app, wf_word h]
theorem wordsOf_wf (t : List Nat) : wordsOf t = wf (t.flatMap signName) := rfl
theorem sign_alnum {c : Nat} (h : alnum c = true) : signName c = [c] := by
  have hu : up c = false := by
    simp only [alnum, Bool.or_eq_true, Bool.and_eq_true, decide_eq_true_eq] at h
    unfold up
    rw [Bool.and_eq_false_iff, decide_eq_false_iff_not, decide_eq_false_iff_not]
    omega
  unfold signName
  rw [hu, if_neg Bool.false_ne_true, if_pos h]
theorem flat_word {w : List Nat} (h : ∀ c ∈ w, alnum c = true) : w.flatMap signName = w := by
  induction w with
  | nil => rfl
  | cons a w ih => rw [List.flatMap_cons, sign_alnum (h a (by simp)), ih fun c hc => h c (by simp [hc])]; rfl
theorem sign_45 : signName 45 = [45] := rfl
/-! ### upper -/
theorem sign_up {c : Nat} (h : c < 128) : signName (up1 c) = signName c := by
  have key : ∀ c < 128, signName (up1 c) = signName c := by decide +kernel
  exact key c h
theorem upper_map {s : List Nat} (h : ∀ c ∈ s, c < 128) : un1 Txt.upper s = s.map up1 := by
  unfold un1
  rw [upper_ascii (x := S s) (by rw [S_cps]; exact h)]
  simp
theorem flat_upper {s : List Nat} (h : ∀ c ∈ s, c < 128) : (un1 Txt.upper s).flatMap signName = s.flatMap signName := by
  rw [upper_map h]
  induction s with
  | nil => rfl
  | cons a s ih => rw [List.map_cons, List.flatMap_cons, List.flatMap_cons, sign_up (h a (by simp)), ih fun c hc => h c (by simp [hc])]
theorem made_upper {s : List Nat} (h : ∀ c ∈ s, c < 128) : made (un1 Txt.upper s) = made s := by
  unfold made
  rw [wordsOf_wf, wordsOf_wf, flat_upper h]
theorem upper_len {s : List Nat} (h : ∀ c ∈ s, c < 128) : (un1 Txt.upper s).length = s.length := by rw [upper_map h, List.length_map]
/-! ### replace of one sign by one -/
theorem spl_ne {c : Nat} : ∀ (x acc : List Nat), TL.spl [c] 0 acc x ≠ []
  | [], acc => by simp [TL.spl]
  | e :: x, acc => by
    rw [spl_cons]
    split
    · simp
    · exact spl_ne x _
theorem join_spl {c d : Nat} : ∀ (x acc : List Nat), TL.joinL [d] (TL.spl [c] 0 acc x) = acc ++ x.map fun e => if e = c then d else e
  | [], acc => by simp [TL.spl, TL.joinL]
  | e :: x, acc => by
    rw [spl_cons, List.map_cons]
    by_cases h : e = c
    · rw [if_pos h, if_pos h]
      have ih := join_spl (c := c) (d := d) x []
      have hne := spl_ne (c := c) x []
      cases q : TL.spl [c] 0 [] x with
      | nil => exact absurd q hne
      | cons u us =>
        rw [q] at ih
        show acc ++ ([d] ++ TL.joinL [d] (u :: us)) = _
        rw [ih]
        simp
    · rw [if_neg h, if_neg h, join_spl x (acc ++ [e])]
      simp
def replU (t : List Nat) : List Nat := (Txt.replace (S t) (S [32]) (S [95])).cps.toList
theorem replU_eq (t : List Nat) : replU t = t.map fun e => if e = 32 then 95 else e := by
  unfold replU
  rw [show (S [32] : Str) = ⟨#[32]⟩ from rfl, PySem.StrLaws.replace_one]
  have h := TL.split_spl (S t) (S [32]) (by simp) (TL.kind_ok (by simp))
  have h' : (Txt.split (S t) (S [32])).map (fun x : Str => x.cps.toList) = TL.spl [32] 0 [] t := h
  have e : (Str.join (S [95]) (Txt.split (S t) ⟨#[32]⟩)).cps.toList = TL.joinL [95] ((Txt.split (S t) (S [32])).map fun x : Str => x.cps.toList) := TL.tl_join (S [95]) _
  rw [e, h', join_spl]
  simp
theorem flat_replU (t : List Nat) : (replU t).flatMap signName = t.flatMap signName := by
  rw [replU_eq]
  induction t with
  | nil => rfl
  | cons a t ih =>
    rw [List.map_cons, List.flatMap_cons, List.flatMap_cons, ih]
    by_cases h : a = 32
    · rw [if_pos h, h]; rfl
    · rw [if_neg h]
theorem made_replU (t : List Nat) : made (replU t) = made t := by
  unfold made
  rw [wordsOf_wf, wordsOf_wf, flat_replU]
/-! ### names made of names -/
theorem wf_grown : ∀ (ws : List (List Nat)) (n : List Nat), (∀ w ∈ ws, gw w) → wf (n ++ ws.flatMap (45 :: ·)) = wf n ++ ws
  | [], n, _ => by simp
  | w :: ws, n, h => by
    have := wf_grown ws (n ++ 45 :: w) fun x hx => h x (by simp [hx])
    rw [List.append_assoc, List.cons_append] at this
    rw [List.flatMap_cons, List.cons_append, this, wf_more n (h w (by simp))]
    simp
theorem grow_take : ∀ (ws : List (List Nat)) (n : List Nat), n.length ≤ 12 → ∃ k, grow n ws = n ++ (ws.take k).flatMap (45 :: ·) ∧ (grow n ws).length ≤ 12
  | [], n, h => ⟨0, by simp [grow], by simpa [grow] using h⟩
  | w :: ws, n, h => by
    unfold grow
    by_cases c : 12 < n.length + 1 + w.length
    · rw [if_pos c]
      exact ⟨0, by simp, h⟩
    · rw [if_neg c]
      obtain ⟨k, h1, h2⟩ := grow_take ws (n ++ 45 :: w) (by simp; omega)
      exact ⟨k + 1, by rw [h1]; simp, h2⟩
theorem lens_flat (ws : List (List Nat)) : (ws.flatMap (45 :: ·)).length = lens ws := by
  induction ws with
  | nil => rfl
  | cons w ws ih => rw [List.flatMap_cons, List.length_append, ih]; simp [lens]
theorem alnum_flat {w : List Nat} (h : gw w) : w.flatMap signName = w := flat_word h.2
theorem flat_words : ∀ (ws : List (List Nat)), (∀ w ∈ ws, gw w) → (ws.flatMap (45 :: ·)).flatMap signName = ws.flatMap (45 :: ·)
  | [], _ => rfl
  | w :: ws, h => by
    rw [List.flatMap_cons, List.flatMap_append, flat_words ws fun x hx => h x (by simp [hx]), List.flatMap_cons, alnum_flat (h w (by simp))]
    rfl
/-- a name made of words, as a title, makes itself -/
theorem made_madeL {ws : List (List Nat)} (h : ∀ w ∈ ws, gw w) : made (madeL ws) = madeL ws := by
  cases ws with
  | nil => decide
  | cons w us =>
    have hw := h w (by simp)
    have hus : ∀ x ∈ us, gw x := fun x hx => h x (by simp [hx])
    show made (if 12 < w.length then w.take 12 else grow w us) = (if 12 < w.length then w.take 12 else grow w us)
    by_cases c : 12 < w.length
    · rw [if_pos c]
      have ht : gw (w.take 12) := ⟨fun z => by
        have := congrArg List.length z
        simp only [List.length_take, List.length_nil] at this
        omega, fun x hx => hw.2 x (List.mem_of_mem_take hx)⟩
      unfold made
      rw [wordsOf_wf, alnum_flat ht, wf_word ht]
      show (if 12 < (w.take 12).length then (w.take 12).take 12 else grow (w.take 12) []) = _
      rw [if_neg (by rw [List.length_take]; omega)]
      rfl
    · rw [if_neg c]
      obtain ⟨k, h1, h2⟩ := grow_take us w (by omega)
      have hk : ∀ x ∈ us.take k, gw x := fun x hx => hus x (List.mem_of_mem_take hx)
      rw [h1] at h2 ⊢
      unfold made
      rw [wordsOf_wf, List.flatMap_append, alnum_flat hw, flat_words _ hk, wf_grown _ _ hk, wf_word hw]
      show (if 12 < w.length then w.take 12 else grow w (us.take k)) = _
      rw [if_neg c, grow_fit _ _ (by rw [List.length_append, lens_flat] at h2; exact h2)]
theorem madeL_ascii {ws : List (List Nat)} (h : ∀ w ∈ ws, gw w) : ∀ c ∈ madeL ws, c < 128 := by
  intro c hc
  have := madeL_nm h
  unfold isNm at this
  simp only [Bool.and_eq_true, List.all_eq_true] at this
  have := this.1.2 c hc
  unfold nameC alnum at this
  simp only [Bool.or_eq_true, Bool.and_eq_true, decide_eq_true_eq] at this
  omega
/-! ### words put together -/
theorem made_of {t : List Nat} {ws : List (List Nat)} (h : wf (t.flatMap signName) = ws) : made t = madeL ws := by
  unfold made
  rw [wordsOf_wf, h]
/-- so does t begin: its words are ws, a word stands at its end, or it is empty -/
def tells (t : List Nat) (ws : List (List Nat)) : Prop := wf (t.flatMap signName) = ws
def isSep (s : List Nat) : Prop := ∃ n, s.flatMap signName = 45 :: List.replicate n 45
theorem wf_rep (n : Nat) (V : List Nat) : wf (List.replicate n 45 ++ V) = wf V := by
  induction n with
  | zero => rfl
  | succ n ih => rw [List.replicate_succ, List.cons_append, wf_sep, ih]
theorem tells_more {t s x w : List Nat} {ws : List (List Nat)} (ht : tells t ws) (hs : isSep s) (hx : x.flatMap signName = w) (hw : gw w) : tells (t ++ s ++ x) (ws ++ [w]) := by
  obtain ⟨n, hn⟩ := hs
  unfold tells at *
  rw [List.flatMap_append, List.flatMap_append, hn, hx, List.append_assoc, List.cons_append, wf_app, ht, wf_rep, wf_word hw]
theorem tells_one {x w : List Nat} (hx : x.flatMap signName = w) (hw : gw w) : tells x [w] := by
  unfold tells
  rw [hx, wf_word hw]
theorem tells_join : ∀ (ws : List (List Nat)), (∀ w ∈ ws, gw w) → tells (TL.joinL [32] ws) ws
  | [], _ => rfl
  | [w], h => tells_one (alnum_flat (h w (by simp))) (h w (by simp))
  | w :: u :: ws, h => by
    have ih := tells_join (u :: ws) fun x hx => h x (by simp [hx])
    show tells (w ++ ([32] ++ TL.joinL [32] (u :: ws))) _
    unfold tells at *
    rw [List.flatMap_append, List.flatMap_append, alnum_flat (h w (by simp)), show ([32] : List Nat).flatMap signName = [45] from rfl, List.singleton_append, wf_app, ih, wf_word (h w (by simp))]
    rfl
end DL


set_option maxRecDepth 100000
namespace DL
open PySem PySem.Spec PyProof.Rows L2
@[simp] theorem revD_tup {ds : List D} {h : AH} : revD (.tup ds) h = some (.tup ds.reverse, h) := id rfl
theorem revD_lst {n : Nat} {ds : List D} {h : AH} (e : h[n]? = some (.lst ds)) : revD (.ref n) h = some (.ref h.length, h ++ [.lst ds.reverse]) := by simp [revD, e]
@[simp] theorem sAsg_eq {f : SE} {g : GF} {σ : Lc} {h : AH} : sAsg f g σ h = (f σ h).bindS σ fun d h1 => match g d σ h1 with
  | some σ' => .nx σ' h1
  | none => .bad := id rfl
@[simp] theorem tupleL_tup {ds : List D} {h : AH} : tupleL [.tup ds] h = some (.tup ds, h) := id rfl
theorem tupleL_lst {n : Nat} {ds : List D} {h : AH} (e : h[n]? = some (.lst ds)) : tupleL [.ref n] h = some (.tup ds, h) := by simp [tupleL, e]
theorem txs_reverse {ws : List (List Nat)} : (txs ws).reverse = txs ws.reverse := by unfold txs; rw [List.map_reverse]
theorem txs_take {n : Nat} {ws : List (List Nat)} : (txs ws).take n = txs (ws.take n) := by unfold txs; rw [List.map_take]
end DL


set_option maxRecDepth 100000
namespace DL
open PySem PySem.Spec PyProof.Rows L2

/-! ## comprehensions that draw; while loops that end by return -/
theorem compL_W {ns : List Int} {gd : AH → Prop} {gf : GF} {fe : SE} {vs : List Nat} {σ : Lc} {g : AH} (c : Nat) (P : D → Prop) (hgd : ∀ k x, gd (W ns k x)) : ∀ (items : List D) (acc : List D) (k : Nat) (j : AH), acc.length + items.length ≤ 1000000 → k + c * items.length ≤ 900000 → (∀ d ∈ acc, P d) →
    (∀ d ∈ items, ∀ acc k j, k ≤ 900000 → ∃ σ2 v k' j', gf d (wipeD σ vs) (W ns k (g ++ .lst acc :: j)) = some σ2 ∧ P v ∧ k' ≤ k + c ∧ fe σ2 (W ns k (g ++ .lst acc :: j)) = .ok v (W ns k' (g ++ .lst acc :: j'))) →
    ∃ ds k' j', compL gd gf bYes fe vs (g.length + 2) items σ (W ns k (g ++ .lst acc :: j)) = .ok (.ref (g.length + 2)) (W ns k' (g ++ .lst ds :: j')) ∧ ds.length = acc.length + items.length ∧ (∀ d ∈ ds, P d) ∧ k' ≤ k + c * items.length
  | [], acc, k, j, _, _, ha, _ => by
    refine ⟨acc, k, j, ?_, by simp, ha, by simp⟩
    unfold compL
    rw [if_pos (hgd _ _)]
  | d :: items, acc, k, j, hl, hk, ha, hb => by
    simp only [List.length_cons, Nat.mul_succ] at hl hk
    obtain ⟨σ2, v, k1, j1, e1, pv, hk1, e2⟩ := hb d (by simp) acc k j (by omega)
    obtain ⟨ds, k', j', e, h1, h2, h3⟩ := compL_W (ns := ns) (gd := gd) (gf := gf) (fe := fe) (vs := vs) (σ := σ) (g := g) c P hgd items (acc ++ [v]) k1 j1 (by simp; omega) (by omega) (fun x hx => by
      rcases List.mem_append.mp hx with hx | hx
      · exact ha x hx
      · rw [List.mem_singleton] at hx; rw [hx]; exact pv) fun x hx => hb x (List.mem_cons_of_mem _ hx)
    refine ⟨ds, k', j', ?_, by rw [h1]; simp; omega, h2, by simp only [List.length_cons, Nat.mul_succ]; omega⟩
    unfold compL
    rw [if_pos (hgd _ _), e1]
    dsimp only
    rw [bYes_eq]
    dsimp only
    rw [if_pos rfl, e2]
    dsimp only
    have hcell : (W ns k1 (g ++ .lst acc :: j1))[g.length + 2]? = some (.lst acc) := W_new 0
    simp only [hcell]
    rw [if_pos (by omega)]
    have hset : (W ns k1 (g ++ .lst acc :: j1)).set (g.length + 2) (.lst (acc ++ [v])) = W ns k1 (g ++ .lst (acc ++ [v]) :: j1) := by
      rw [W_set]
      congr 1
      simp
    rw [hset]
    exact e
/-- [e for .. in ..], e drawn -/
theorem dComp_W {ns : List Int} {fi : SI} {gd : AH → Prop} {gf : GF} {fe : SE} {vs : List Nat} {σ : Lc} {h : AH} {g : AH} {k : Nat} {items : List D} (c : Nat) (P : D → Prop) (hi : fi σ h = .ok items gd (W ns k g)) (hgd : ∀ k x, gd (W ns k x)) (hl : items.length ≤ 1000000) (hk : k + c * items.length ≤ 900000)
    (hb : ∀ d ∈ items, ∀ acc k j, k ≤ 900000 → ∃ σ2 v k' j', gf d (wipeD σ vs) (W ns k (g ++ .lst acc :: j)) = some σ2 ∧ P v ∧ k' ≤ k + c ∧ fe σ2 (W ns k (g ++ .lst acc :: j)) = .ok v (W ns k' (g ++ .lst acc :: j'))) :
    ∃ ds k' j', dComp fi gf bYes fe vs σ h = .ok (.ref (g.length + 2)) (W ns k' (g ++ .lst ds :: j')) ∧ ds.length = items.length ∧ (∀ d ∈ ds, P d) ∧ k' ≤ k + c * items.length := by
  obtain ⟨ds, k', j', e, h1, h2, h3⟩ := compL_W (ns := ns) (gd := gd) (gf := gf) (fe := fe) (vs := vs) (σ := σ) (g := g) c P hgd items [] k [] (by simpa using hl) hk (by simp) hb
  refine ⟨ds, k', j', ?_, by simpa using h1, h2, h3⟩
  unfold dComp
  rw [hi]
  exact e
theorem while_any {ft : SB} {body : SS} (I : Lc → AH → Prop) (μ : Lc → AH → Nat) (Q : RS → Prop)
    (hs : ∀ σ h, I σ h → (∃ h1, ft σ h = .ok false h1 ∧ Q (.nx σ h1)) ∨ (∃ h1 σ2 h2, ft σ h = .ok true h1 ∧ (body σ h1 = .nx σ2 h2 ∨ body σ h1 = .ct σ2 h2) ∧ I σ2 h2 ∧ μ σ2 h2 < μ σ h) ∨ ∃ h1 d h2, ft σ h = .ok true h1 ∧ body σ h1 = .rt d h2 ∧ Q (.rt d h2)) (hq : ¬ Q .bad) :
    ∀ σ h, I σ h → Q (sWhile ft body σ h) := by
  have key : ∀ n σ h, I σ h → μ σ h < n → ∃ m, Q (whileN ft body m σ h) := by
    intro n
    induction n with
    | zero => intro σ h _ hl; omega
    | succ n ih =>
      intro σ h i hl
      rcases hs σ h i with ⟨h1, e, q⟩ | ⟨h1, σ2, h2, e, eb, i2, l⟩ | ⟨h1, d, h2, e, eb, q⟩
      · refine ⟨1, ?_⟩
        unfold whileN
        rw [e]
        exact q
      · obtain ⟨m, q⟩ := ih σ2 h2 i2 (by omega)
        refine ⟨m + 1, ?_⟩
        unfold whileN
        rw [e]
        rcases eb with eb | eb
        · simp only [RT.bindS_ok, if_true, eb]; exact q
        · simp only [RT.bindS_ok, if_true, eb]; exact q
      · refine ⟨1, ?_⟩
        unfold whileN
        rw [e]
        simp only [RT.bindS_ok, if_true, eb]
        exact q
  intro σ h i
  obtain ⟨m, q⟩ := key _ σ h i (Nat.lt_succ_self _)
  have hb : whileN ft body m σ h ≠ .bad := fun z => by rw [z] at q; exact hq q
  rw [sWhile_eq hb]
  exact q
@[simp] theorem iRng3_eq {fs : SA} {σ : Lc} {h : AH} : DL.iRng3 fs σ h = (fs σ h).bindI iRg3K := id rfl
/-! ### the end of a def -/
def RS.fin : RS → R
  | .nx _ h => .ok .non h
  | .rt d h => .ok d h
  | .exc x _ h => .exc x h
  | _ => .bad
@[simp] theorem RS.fin_nx {l : Lc} {h : AH} : (RS.nx l h).fin = .ok .non h := id rfl
@[simp] theorem RS.fin_rt {d : D} {h : AH} : (RS.rt d h).fin = .ok d h := id rfl
@[simp] theorem RS.fin_exc {x : Str} {l : Lc} {h : AH} : (RS.exc x l h).fin = .exc x h := id rfl
theorem runF_fin {n np : Nat} {t : SS} {ds : List D} {h : AH} (hl : ds.length = np) : runF n np t ds h = (t (ds.map some ++ List.replicate (n - np) none) h).fin := by
  rw [runF_eq hl]
  cases t (ds.map some ++ List.replicate (n - np) none) h <;> rfl
theorem runF_at {n np : Nat} {t : SS} {ds : List D} {h : AH} {σ : Lc} (hl : ds.length = np) (hσ : ds.map some ++ List.replicate (n - np) none = σ) : runF n np t ds h = (t σ h).fin := by rw [runF_fin hl, hσ]
end DL


set_option maxRecDepth 100000
namespace DL
open PySem PySem.Spec PyProof.Rows L2
noncomputable section
def b_best_of_l1 : SS :=
  (sIf (dAnd (isB (dBin (eqD false) (dSl (dVar 1) none (some (dCallB lenL (dCons (dVar 3) dNil)))) (dVar 3))) (dOr (isB (dBin (isD false) (dVar 2) (dC .non))) (isB (dBin gtD (dCallB lenL (dCons (dVar 3) dNil)) (dCallB lenL (dCons (dBin ixD (dVar 2) (dC (.int 0))) dNil))))))
    (sSet 2 (dTup (dCons (dVar 3) (dCons (dVar 4) dNil))))
    sNil)
def b_best_of : SS :=
  (sSeq (sSet 2 (dC .non))
  (sSeq (sFor (iSeq (dVar 0)) (gTp 2 (gsCons (gNm 3) (gsCons (gNm 4) gsNil)))
   b_best_of_l1)
  (sRet (dVar 2))))
def m_best_of : Fn := gcF (runF 5 2 b_best_of)
def b_once : SS :=
  (sSeq (sSet 2 (dCall m_best_of (dCons (dVar 0) (dCons (dVar 1) dNil))))
  (sSeq (sIf (isB (dBin (isD false) (dVar 2) (dC .non)))
   (sRet (dC .non))
   sNil)
  (sSeq (sAsg (dVar 2) (gTp 2 (gsCons (gNm 3) (gsCons (gNm 4) gsNil))))
  (sRet (dBin addD (dVar 4) (dSl (dVar 1) (some (dCallB lenL (dCons (dVar 3) dNil))) none))))))
def m_once : Fn := gcF (runF 5 2 b_once)
def b_led_l1 : SS :=
  (sSeq (sSet 3 (dCall m_once (dCons (dVar 0) (dCons (dVar 1) dNil))))
   (sSeq (sIf (isB (dBin (isD false) (dVar 3) (dC .non)))
    (sRet (dVar 1))
    sNil)
   (sSet 1 (dVar 3))))
def b_led : SS :=
  (sSeq (sFor (iRng1 (dCons (dBin addD (dC (.int 8)) (dC (.int 1))) dNil)) (gNm 2)
   b_led_l1)
  (sRse "TooMany"))
def m_led : Fn := gcF (runF 4 2 b_led)
def b_needless_c1 : SE :=
  dComp (iSeq (dVar 0)) (gNm 5) (isB (dBin (eqD true) (dBin ixD (dVar 5) (dC (.int 0))) (dVar 2))) (dVar 5) [5]
def b_needless_l1 : SS :=
  (sSeq (sSet 4 (dCallB tupleL (dCons b_needless_c1 dNil)))
   (sIf (isB (dBin (eqD false) (dCall m_once (dCons (dVar 4) (dCons (dVar 2) dNil))) (dVar 3)))
    (sDrop (dMt gLst mAppend (dVar 1) (dCons (dVar 2) dNil)))
    sNil))
def b_needless : SS :=
  (sSeq (sSet 1 (dLst dNil))
  (sSeq (sFor (iSeq (dVar 0)) (gTp 2 (gsCons (gNm 2) (gsCons (gNm 3) gsNil)))
   b_needless_l1)
  (sRet (dCallB tupleL (dCons (dCallB sortedL (dCons (dVar 1) dNil)) dNil)))))
def m_needless : Fn := gcF (runF 6 1 b_needless)
def b_law_rules_c1 : SE :=
  dComp (iSeq (dVar 2)) (gTp 2 (gsCons (gNm 7) (gsCons (gNm 8) gsNil))) bYes (dVar 7) [7, 8]
def b_law_rules_c2 : SE :=
  dComp (iRng1 (dCons (dCall m_law_draw (dCons (dVar 0) (dCons (dVar 1) (dCons (dC (.int 4)) dNil)))) dNil)) (gNm 6) bYes (dCall m_law_pick (dCons (dVar 0) (dCons (dVar 1) (dCons (dLst (lits [.str [97], .str [98], .str [99], .str [100]])) dNil)))) [6]
def b_law_rules_c3 : SE :=
  dComp (iRng1 (dCons (dCall m_law_draw (dCons (dVar 0) (dCons (dVar 1) (dCons (dC (.int 4)) dNil)))) dNil)) (gNm 6) bYes (dCall m_law_pick (dCons (dVar 0) (dCons (dVar 1) (dCons (dLst (dCons (dC (.str [97])) (dCons (dC (.str [98])) (dCons (dC (.str [99])) dNil)))) dNil)))) [6]
def b_law_rules_l1 : SS :=
  (sSeq (sSet 4 (dCallB tupleL (dCons b_law_rules_c3 dNil)))
   (sSeq (sSet 5 (dCallB tupleL (dCons b_law_rules_c2 dNil)))
   (sIf (isB (dBin (inD true) (dVar 4) b_law_rules_c1))
    (sSet 2 (dBin addD (dVar 2) (dTup (dCons (dTup (dCons (dVar 4) (dCons (dVar 5) dNil))) dNil))))
    sNil)))
def b_law_rules : SS :=
  (sSeq (sSet 2 (dTup dNil))
  (sSeq (sFor (iRng1 (dCons (dCall m_law_draw (dCons (dVar 0) (dCons (dVar 1) (dCons (dC (.int 6)) dNil)))) dNil)) (gNm 3)
   b_law_rules_l1)
  (sRet (dVar 2))))
def m_law_rules : Fn := gcF (runF 9 2 b_law_rules)
def b_law_once_l1 : SS :=
  (sIf (isB (dBin (eqD false) (dVar 3) (dSl (dVar 1) none (some (dVar 2)))))
     (sRet (dBin addD (dVar 4) (dSl (dVar 1) (some (dVar 2)) none)))
     sNil)
def b_law_once_l2 : SS :=
  (sFor (iSeq (dVar 0)) (gTp 2 (gsCons (gNm 3) (gsCons (gNm 4) gsNil)))
    b_law_once_l1)
def b_law_once : SS :=
  (sSeq (sFor (iRng3 (dCons (dCallB lenL (dCons (dVar 1) dNil)) (dCons (dUn negD (dC (.int 1))) (dCons (dUn negD (dC (.int 1))) dNil)))) (gNm 2)
   b_law_once_l2)
  (sRet (dC .non)))
def m_law_once : Fn := gcF (runF 5 2 b_law_once)
def b_law_told_2 : SS :=
  (sSeq (sSet 2 (dC .non))
  (sSeq (sTry [("TooMany", true)] (sSet 2 (dCall m_led (dCons (dVar 0) (dCons (dVar 1) dNil)))) (sSet 2 (dC (.str [84, 111, 111, 77, 97, 110, 121]))))
  (sRet (dVar 2))))
def m_law_told_2 : Fn := gcF (runF 3 2 b_law_told_2)
def b_law_led_t1 : SB :=
  (isB (dBin (isD true) (dVar 3) (dC .non)))
def b_law_led_l1 : SS :=
  (sSeq (sSet 2 (dBin addD (dVar 2) (dC (.int 1))))
   (sSeq (sIf (isB (dBin gtD (dVar 2) (dC (.int 8))))
    (sRet (dC (.str [84, 111, 111, 77, 97, 110, 121])))
    sNil)
   (sSeq (sSet 1 (dVar 3))
   (sSet 3 (dCall m_law_once (dCons (dVar 0) (dCons (dVar 1) dNil)))))))
def b_law_led : SS :=
  (sSeq (sSet 2 (dC (.int 0)))
  (sSeq (sSet 3 (dCall m_law_once (dCons (dVar 0) (dCons (dVar 1) dNil))))
  (sSeq (sWhile b_law_led_t1
   b_law_led_l1)
  (sRet (dVar 1)))))
def m_law_led : Fn := gcF (runF 4 2 b_law_led)
def b_law_k09_c1 : SE :=
  dComp (iRng1 (dCons (dVar 3) dNil)) (gNm 7) bYes (dTup (dCons (dTup (dCons (dBin mulD (dC (.str [97])) (dBin addD (dVar 7) (dC (.int 1)))) dNil)) (dCons (dTup (dCons (dBin mulD (dC (.str [97])) (dBin addD (dVar 7) (dC (.int 2)))) dNil)) dNil))) [7]
def b_law_k09_l1 : SS :=
  (sSeq (sSet 4 (dCallB tupleL (dCons b_law_k09_c1 dNil)))
   (sIf (dNot (dTru (dCall m_law_same (dCons (dCall m_law_told_2 (dCons (dVar 4) (dCons (dTup (dCons (dC (.str [97])) (dCons (dC (.str [98])) dNil))) dNil))) (dCons (dIf (isB (dBin ltD (dVar 3) (dC (.int 9)))) (dTup (dCons (dBin mulD (dC (.str [97])) (dBin addD (dVar 3) (dC (.int 1)))) (dCons (dC (.str [98])) dNil))) (dC (.str [84, 111, 111, 77, 97, 110, 121]))) dNil)))))
    (sRet (dC (.bl false)))
    sNil))
def b_law_k09_c2 : SE :=
  dComp (iSeq (dVar 4)) (gNm 12) (isB (dBin (eqD true) (dBin ixD (dVar 12) (dC (.int 0))) (dVar 8))) (dVar 12) [12]
def b_law_k09_l2 : SS :=
  (sSeq (sSet 10 (dCallB tupleL (dCons b_law_k09_c2 dNil)))
     (sIf (dNot (dTru (dCall m_law_same (dCons (dCall m_once (dCons (dVar 10) (dCons (dVar 11) dNil))) (dCons (dCall m_once (dCons (dVar 4) (dCons (dVar 11) dNil))) dNil)))))
      (sRet (dC (.bl false)))
      sNil))
def b_law_k09_c3 : SE :=
  dComp (iRng1 (dCons (dCall m_law_draw (dCons (dVar 0) (dCons (dVar 1) (dCons (dC (.int 7)) dNil)))) dNil)) (gNm 13) bYes (dCall m_law_pick (dCons (dVar 0) (dCons (dVar 1) (dCons (dLst (lits [.str [97], .str [98], .str [99], .str [100]])) dNil)))) [13]
def b_law_k09_l3 : SS :=
  (sSeq (sSet 11 (dCallB tupleL (dCons b_law_k09_c3 dNil)))
    (sSeq (sIf (dNot (dTru (dCall m_law_same (dCons (dCall m_once (dCons (dVar 4) (dCons (dVar 11) dNil))) (dCons (dCall m_law_once (dCons (dVar 4) (dCons (dVar 11) dNil))) dNil)))))
     (sRet (dC (.bl false)))
     sNil)
    (sSeq (sIf (dNot (dTru (dCall m_law_same (dCons (dCall m_law_told_2 (dCons (dVar 4) (dCons (dVar 11) dNil))) (dCons (dCall m_law_led (dCons (dVar 4) (dCons (dVar 11) dNil))) dNil)))))
     (sRet (dC (.bl false)))
     sNil)
    (sFor (iSeq (dVar 5)) (gNm 8)
     b_law_k09_l2))))
def b_law_k09_c4 : SE :=
  dComp (iSeq (dVar 4)) (gNm 12) (isB (dBin (eqD true) (dBin ixD (dVar 12) (dC (.int 0))) (dVar 8))) (dVar 12) [12]
def b_law_k09_l4 : SS :=
  (sSeq (sSet 10 (dCallB tupleL (dCons b_law_k09_c4 dNil)))
    (sIf (isB (dBin (eqD false) (dCall m_law_once (dCons (dVar 10) (dCons (dVar 8) dNil))) (dVar 9)))
     (sDrop (dMt gLst mAppend (dVar 6) (dCons (dVar 8) dNil)))
     sNil))
def b_law_k09_l5 : SS :=
  (sSeq (sSet 4 (dCall m_law_rules (dCons (dVar 0) (dCons (dVar 1) dNil))))
   (sSeq (sSet 5 (dCall m_needless (dCons (dVar 4) dNil)))
   (sSeq (sSet 6 (dLst dNil))
   (sSeq (sFor (iSeq (dVar 4)) (gTp 2 (gsCons (gNm 8) (gsCons (gNm 9) gsNil)))
    b_law_k09_l4)
   (sSeq (sIf (dNot (dTru (dCall m_law_same (dCons (dVar 5) (dCons (dCallB tupleL (dCons (dCallB sortedL (dCons (dVar 6) dNil)) dNil)) dNil)))))
    (sRet (dC (.bl false)))
    sNil)
   (sFor (iRng1 (dCons (dC (.int 5)) dNil)) (gNm 7)
    b_law_k09_l3))))))
def b_law_k09 : SS :=
  (sSeq (sSet 1 (dLst dNil))
  (sSeq (sFor (iRng1 (dCons (dC (.int 12)) dNil)) (gNm 2)
   b_law_k09_l5)
  (sSeq (sFor (iSeq (dTup (dCons (dC (.int 7)) (dCons (dC (.int 8)) (dCons (dC (.int 9)) dNil))))) (gNm 3)
   b_law_k09_l1)
  (sRet (dC (.bl true))))))
def m_law_k09 : Fn := gcF (runF 14 1 b_law_k09)
end
end DL


set_option maxRecDepth 100000
namespace DL
open PySem PySem.Spec PyProof.Rows L2

/-! ## rules of beginnings, plain -/
abbrev Ad := List (List Nat)
def adD (a : Ad) : D := .tup (txs a)
def ruD (r : Ad × Ad) : D := .tup [adD r.1, adD r.2]
def rusD (R : List (Ad × Ad)) : D := .tup (R.map ruD)
/-- does a begin with b? -/
def begins (b a : Ad) : Bool := decide (a.take b.length = b)
def better (a : Ad) (o : Option (Ad × Ad)) (r : Ad × Ad) : Option (Ad × Ad) := match o with
  | none => if begins r.1 a = true then some r else none
  | some q => if begins r.1 a = true ∧ q.1.length < r.1.length then some r else some q
def best (R : List (Ad × Ad)) (a : Ad) : Option (Ad × Ad) := R.foldl (better a) none
def onceP (R : List (Ad × Ad)) (a : Ad) : Option Ad := (best R a).map fun r => r.2 ++ a.drop r.1.length
/-- all is small -/
def smallR (R : List (Ad × Ad)) : Prop := ∀ r ∈ R, r.1.length ≤ 1000 ∧ r.2.length ≤ 1000
def oruD : Option (Ad × Ad) → D
  | none => .non
  | some r => ruD r
theorem adD_okN {n : Nat} {a : Ad} : okN (n + 1) (adD a) = true := by
  unfold adD okN
  rw [List.all_eq_true]
  exact txs_okN
theorem adD_inj {a b : Ad} : adD a = adD b ↔ a = b := by
  refine ⟨fun e => ?_, fun e => by rw [e]⟩
  unfold adD at e
  injection e with e
  have key : ∀ a b : Ad, txs a = txs b → a = b := by
    intro a
    induction a with
    | nil => intro b e; cases b with
      | nil => rfl
      | cons x y => simp at e
    | cons x a ih => intro b e; cases b with
      | nil => simp at e
      | cons y b =>
        simp only [txs_cons, List.cons.injEq, D.str.injEq] at e
        rw [e.1, ih b e.2]
  exact key a b e
theorem eqD_ad {neg : Bool} {a b : Ad} {h : AH} : eqD neg (adD a) (adD b) h = some (.bl (xor neg (decide (a = b))), h) := by
  rw [eqD_okN 1 (by omega) adD_okN adD_okN]
  simp only [adD_inj]
theorem lenL_ad {a : Ad} {h : AH} : lenL [adD a] h = some (.int a.length, h) := by
  unfold adD
  rw [lenL_tup, txs_length]
theorem ad_take {a : Ad} {n : Nat} {h : AH} : slK (adD a) none (some (n : Int)) h = some (adD (a.take n), h) := by
  unfold adD
  rw [slK_tup, cut_hi, txs_take]
theorem ad_drop {a : Ad} {n : Nat} {h : AH} : slK (adD a) (some (n : Int)) none h = some (adD (a.drop n), h) := by
  unfold adD
  rw [slK_tup, cut_lo, txs_drop]
theorem ad_app {a b : Ad} {h : AH} (hl : a.length + b.length ≤ 16777216) : addD (adD a) (adD b) h = some (adD (a ++ b), h) := by
  unfold adD
  rw [addD_tt (by rw [txs_length, txs_length]; exact hl), txs_app]
theorem best_loop {a : Ad} {r0 : Option D} {h : AH} : ∀ (R : List (Ad × Ad)) (o : Option (Ad × Ad)) (x3 x4 : Option D),
    ∃ y3 y4, forL (fun _ => True) (gTp 2 (gsCons (gNm 3) (gsCons (gNm 4) gsNil))) b_best_of_l1 (R.map ruD) [r0, some (adD a), some (oruD o), x3, x4] h = .nx [r0, some (adD a), some (oruD (R.foldl (better a) o)), y3, y4] h
  | [], o, x3, x4 => ⟨x3, x4, by rw [List.map_nil, forL_nil trivial]; rfl⟩
  | r :: R, o, x3, x4 => by
    obtain ⟨y3, y4, e⟩ := best_loop (a := a) (r0 := r0) (h := h) R (better a o r) (some (adD r.1)) (some (adD r.2))
    refine ⟨y3, y4, ?_⟩
    have eb : b_best_of_l1 [r0, some (adD a), some (oruD o), some (adD r.1), some (adD r.2)] h = .nx [r0, some (adD a), some (oruD (better a o r)), some (adD r.1), some (adD r.2)] h := by
      have e1 : ∀ h : AH, eqD false (adD (a.take r.1.length)) (adD r.1) h = some (.bl (begins r.1 a), h) := fun h => by
        rw [eqD_ad]
        simp [begins]
      cases o with
      | none =>
        by_cases hb : begins r.1 a = true
        · simp [b_best_of_l1, lenL_ad, ad_take, e1, hb, oruD, better, ruD]
        · simp [b_best_of_l1, lenL_ad, ad_take, e1, hb, oruD, better]
      | some q =>
        have e2 : ∀ h : AH, ixD (ruD q) (.int 0) h = some (adD q.1, h) := fun h => ixD_tup atI_get0
        have e3 : isN (ruD q) = false := rfl
        by_cases hb : begins r.1 a = true
        · by_cases hl : q.1.length < r.1.length
          · have : (q.1.length : Int) < r.1.length := by omega
            simp [b_best_of_l1, lenL_ad, ad_take, e1, hb, oruD, better, e2, e3, hl, this]
            rfl
          · have : ¬ (q.1.length : Int) < r.1.length := by omega
            simp [b_best_of_l1, lenL_ad, ad_take, e1, hb, oruD, better, e2, e3, hl, this]
        · simp [b_best_of_l1, lenL_ad, ad_take, e1, hb, oruD, better]
    rw [List.map_cons, forL_cons (σ' := [r0, some (adD a), some (oruD o), some (adD r.1), some (adD r.2)]) trivial rfl, eb]
    dsimp only
    rw [e]
    rfl

theorem adD_bel {n : Nat} {a : Ad} : (adD a).bel n = true := by
  show D.bels n (txs a) = true
  exact txs_bel n a
theorem ruD_bel {n : Nat} {r : Ad × Ad} : (ruD r).bel n = true := by
  show D.bels n [adD r.1, adD r.2] = true
  simp only [D.bels, adD_bel, Bool.and_self]
theorem rusD_bel {n : Nat} {R : List (Ad × Ad)} : (rusD R).bel n = true := by
  show D.bels n (R.map ruD) = true
  induction R with
  | nil => rfl
  | cons r R ih => simp only [List.map_cons, D.bels, ruD_bel, ih, Bool.and_self]
theorem m_best_ofOf {R : List (Ad × Ad)} {a : Ad} {h : AH} : m_best_of [rusD R, adD a] h = .ok (oruD (best R a)) h := by
  refine gc_ok (g := []) ?_ (by cases best R a with | none => rfl | some r => exact ruD_bel)
  obtain ⟨y3, y4, e⟩ := best_loop (a := a) (r0 := some (rusD R)) (h := h) R none none none
  have ei : iK (rusD R) h = .ok (R.map ruD) (fun _ => True) h := rfl
  simp only [oruD] at e
  simp [runF, b_best_of, ei, e]
  rfl
def oad : Option Ad → D
  | none => .non
  | some a => adD a
theorem best_mem {a : Ad} : ∀ (R : List (Ad × Ad)) (o : Option (Ad × Ad)) {r : Ad × Ad}, R.foldl (better a) o = some r → r ∈ R ∨ o = some r
  | [], o, r, h => .inr h
  | x :: R, o, r, h => by
    rw [List.foldl_cons] at h
    rcases best_mem R _ h with h | h
    · exact .inl (List.mem_cons_of_mem _ h)
    · unfold better at h
      split at h
      · split at h
        · cases h; exact .inl (by simp)
        · cases h
      · split at h
        · cases h; exact .inl (by simp)
        · cases h; exact .inr rfl
theorem m_onceOf {R : List (Ad × Ad)} {a : Ad} {h : AH} (hR : smallR R) (ha : a.length ≤ 100000) : m_once [rusD R, adD a] h = .ok (oad (onceP R a)) h := by
  have eb := m_best_ofOf (R := R) (a := a) (h := h)
  have hm := fun r => best_mem (a := a) R none (r := r)
  unfold onceP
  cases q : best R a with
  | none =>
    rw [q] at eb
    refine gc_ok (g := []) ?_ rfl
    simp [runF, b_once, eb, oruD, oad]
  | some r =>
    rw [q] at eb
    have hr : r ∈ R := by
      rcases hm r q with h | h
      · exact h
      · cases h
    have hs := hR r hr
    refine gc_ok (g := []) ?_ adD_bel
    have e1 := ad_app (a := r.2) (b := a.drop r.1.length) (h := h) (by rw [List.length_drop]; omega)
    have e3 : isN (ruD r) = false := rfl
    have eg : ∀ (σ : Lc) (h : AH), gTp 2 (gsCons (gNm 3) (gsCons (gNm 4) gsNil)) (ruD r) σ h = some ((σ.set 3 (some (adD r.1))).set 4 (some (adD r.2))) := fun σ h => rfl
    simp [runF, b_once, eb, oruD, e3, eg, lenL_ad, ad_drop, e1, oad]
end DL


set_option maxRecDepth 100000
namespace DL
open PySem PySem.Spec PyProof.Rows L2

/-! ## things as names, titles, addresses -/
/-- what a thing is whose class is known -/
def known (h : AH) (d : D) : Prop := match d with
  | .ref n => ∃ ds, h[n]? = some (.lst ds)
  | .str s => s.length ≤ 1000
  | _ => True
def isNmD : D → Bool
  | .str s => isNm s
  | _ => false
theorem known.app {h g : AH} {d : D} (k : known h d) : known (h ++ g) d := by
  cases d with
  | ref n => obtain ⟨ds, e⟩ := k; exact ⟨ds, get_app e⟩
  | _ => exact k
theorem m_is_nameD {d : D} {h : AH} (k : known h d) : m_is_name [d] h = .ok (.bl (isNmD d)) h := by
  cases d with
  | str s => exact m_is_nameOf (by have : s.length ≤ 1000 := k; omega)
  | ref n =>
    obtain ⟨ds, e⟩ := k
    refine gc_ok (g := []) ?_ rfl
    simp [runF, b_is_name, tyN_lst e, isNmD]
  | _ =>
    refine gc_ok (g := []) ?_ rfl
    simp [runF, b_is_name, isNmD]
theorem m_law_is_nameD {d : D} {h : AH} (k : known h d) : m_law_is_name [d] h = .ok (.bl (isNmD d)) h := by
  cases d with
  | str s => exact m_law_is_nameOf (by have : s.length ≤ 1000 := k; omega)
  | ref n =>
    obtain ⟨ds, e⟩ := k
    refine gc_ok (g := []) ?_ rfl
    simp [runF, b_law_is_name, tyN_lst e, isNmD]
  | _ =>
    refine gc_ok (g := []) ?_ rfl
    simp [runF, b_law_is_name, isNmD]
/-! ### titles -/
def ascii (c : Nat) : Bool := decide (32 ≤ c) && decide (c ≤ 126)
def isTi (s : List Nat) : Bool := decide (1 ≤ s.length) && decide (s.length ≤ 30) && s.all ascii && !decide (s.head? = some 32) && !decide (s.getLast? = some 32)
def isTiD : D → Bool
  | .str s => isTi s
  | _ => false
theorem m_is_titleOf {s : List Nat} {h : AH} (hl : s.length ≤ 16777216) : m_is_title [.str s] h = .ok (.bl (isTi s)) h := by
  unfold isTi
  by_cases h1 : s = []
  · subst h1
    refine gc_ok (g := []) ?_ rfl
    simp [runF, b_is_title]
  · have h0 : 1 ≤ s.length := List.length_pos_iff.mpr h1
    have q0 : (1 : Int) ≤ s.length := by omega
    by_cases h2 : s.length ≤ 30
    · have q2 : (s.length : Int) ≤ 30 := by omega
      have ea : dCallB allL (dCons b_is_title_c1 dNil) [some (.str s), none] h = .ok (.bl (s.all ascii)) (h ++ [.lst (bls (s.map ascii))]) := by
        refine all_A s (fun c => .str [c]) (gd := fun _ => True) (by simp) ascii (fun _ => trivial) hl fun c _ acc => ⟨_, rfl, ?_⟩
        by_cases e1 : c < 32
        · simp [e1, ascii, show ¬ 32 ≤ c by omega]
        · by_cases e2 : 126 < c
          · simp [e1, e2, ascii, show ¬ c ≤ 126 by omega]
          · simp [e1, e2, ascii, show 32 ≤ c by omega, show c ≤ 126 by omega]
      simp only [dCallB_eq, dCons_eq, dNil_eq, RA.bindA_ok] at ea
      refine gc_ok (g := [.lst (bls (s.map ascii))]) ?_ rfl
      obtain ⟨c, r, es⟩ : ∃ c r, s = c :: r := by cases s with
        | nil => exact absurd rfl h1
        | cons a s => exact ⟨a, s, rfl⟩
      obtain ⟨z, ez⟩ : ∃ z, s.getLast? = some z := by
        cases e : s.getLast? with
        | none => rw [List.getLast?_eq_none_iff] at e; exact absurd e h1
        | some z => exact ⟨z, rfl⟩
      have a0 : atI s 0 = some c := by rw [es]; exact atI_get0
      have hh : s.head? = some c := by rw [es]; rfl
      have em : atI s (-1) = some z := atI_last ez
      rw [decide_eq_true h0, decide_eq_true h2, ez, hh]
      cases h3 : s.all ascii with
      | true =>
        rw [h3] at ea
        by_cases e1 : c = 32 <;> by_cases e2 : z = 32 <;> simp [runF, b_is_title, lenL_str hl, q0, q2, ea, ixD_str hl a0, ixD_str hl em, e1, e2]
      | false =>
        rw [h3] at ea
        simp [runF, b_is_title, lenL_str hl, q0, q2, ea]
    · have q2 : ¬ (s.length : Int) ≤ 30 := by omega
      refine gc_ok (g := []) ?_ rfl
      simp [runF, b_is_title, lenL_str hl, q0, q2, h2]
theorem m_is_titleD {d : D} {h : AH} (k : known h d) : m_is_title [d] h = .ok (.bl (isTiD d)) h := by
  cases d with
  | str s => exact m_is_titleOf (by have : s.length ≤ 1000 := k; omega)
  | ref n =>
    obtain ⟨ds, e⟩ := k
    refine gc_ok (g := []) ?_ rfl
    simp [runF, b_is_title, tyN_lst e, isTiD]
  | _ =>
    refine gc_ok (g := []) ?_ rfl
    simp [runF, b_is_title, isTiD]
/-! strip of blanks -/
theorem stripC_eq (s : List Nat) : un2 Txt.stripChars s [32] = (s.drop (s.takeWhile (· == 32)).length).take (s.length - ((s.drop (s.takeWhile (· == 32)).length).reverse.takeWhile (· == 32)).length - (s.takeWhile (· == 32)).length) := by
  unfold un2 Txt.stripChars
  rw [show Txt.stripBy _ true true (S s) = _ from PyProof.Rows.stripBy_eq _ _ _ _, PySem.StrLaws.strSub_toList]
  have e : ((S [32]).cps.contains : Nat → Bool) = fun c => c == 32 := by
    funext c
    show (#[32] : Array Nat).contains c = _
    rw [Bool.eq_iff_iff]
    simp
  rw [e]
  rfl
theorem strip_id {s : List Nat} (h : s ≠ []) : (un2 Txt.stripChars s [32] = s) ↔ (s.head? ≠ some 32 ∧ s.getLast? ≠ some 32) := by
  rw [stripC_eq]
  obtain ⟨c, r, es⟩ : ∃ c r, s = c :: r := by cases s with
    | nil => exact absurd rfl h
    | cons a s => exact ⟨a, s, rfl⟩
  have hl : 0 < s.length := List.length_pos_iff.mpr h
  by_cases hc : c = 32
  · have hw : 1 ≤ (s.takeWhile (· == 32)).length := by rw [es, hc]; simp
    constructor
    · intro e
      have := congrArg List.length e
      rw [List.length_take, List.length_drop] at this
      omega
    · intro e
      exact absurd (by rw [es, hc]; rfl) e.1
  · have hw : (s.takeWhile (· == 32)) = [] := by
      rw [es, List.takeWhile_cons]
      simp [hc]
    rw [hw]
    simp only [List.length_nil, List.drop_zero, Nat.sub_zero]
    have hh : s.head? ≠ some 32 := by rw [es]; simpa using hc
    rcases List.eq_nil_or_concat s with e | ⟨q, z, e⟩
    · exact absurd e h
    · rw [List.concat_eq_append] at e
      have el : s.getLast? = some z := by rw [e]; simp
      have er : s.reverse = z :: q.reverse := by rw [e]; simp
      rw [el, er, List.takeWhile_cons]
      by_cases hz : z = 32
      · subst hz
        simp only [beq_self_eq_true, if_true, List.length_cons]
        constructor
        · intro e'
          have := congrArg List.length e'
          rw [List.length_take] at this
          omega
        · intro e'
          exact absurd rfl e'.2
      · have : (z == 32) = false := by simpa using hz
        rw [this]
        simp only [Bool.false_eq_true, if_false, List.length_nil, Nat.sub_zero, List.take_length, true_iff]
        exact ⟨hh, fun x => hz (Option.some.inj x)⟩
theorem m_law_is_titleOf {s : List Nat} {h : AH} (hl : s.length ≤ 1000) (ha : s.all ascii = true) : m_law_is_title [.str s] h = .ok (.bl (isTi s)) h := by
  unfold isTi
  by_cases h1 : s = []
  · subst h1
    refine gc_ok (g := []) ?_ rfl
    simp [runF, b_law_is_title]
  · have h0 : 1 ≤ s.length := List.length_pos_iff.mpr h1
    have q0 : (1 : Int) ≤ s.length := by omega
    refine gc_ok (g := []) ?_ rfl
    by_cases h2 : s.length ≤ 30
    · have q2 : (s.length : Int) ≤ 30 := by omega
      have es : mS1 Txt.stripChars (.str s) [.str [32]] h = some (.str (un2 Txt.stripChars s [32]), h) := by
        unfold mS1
        dsimp only
        rw [if_pos (by omega)]
      have ed : decide (s = un2 Txt.stripChars s [32]) = (!decide (s.head? = some 32) && !decide (s.getLast? = some 32)) := by
        rw [Bool.eq_iff_iff, decide_eq_true_iff, eq_comm, strip_id h1]
        simp
      rw [decide_eq_true h0, decide_eq_true h2, ha]
      revert es ed
      generalize un2 Txt.stripChars s [32] = u
      intro es ed
      simp [runF, b_law_is_title, lenL_str (s := s) (by omega), q0, q2, es, ed]
    · have q2 : ¬ (s.length : Int) ≤ 30 := by omega
      simp [runF, b_law_is_title, lenL_str (s := s) (by omega), q0, q2, h2]
def asciiD : D → Bool
  | .str s => s.all ascii
  | _ => true
theorem m_law_is_titleD {d : D} {h : AH} (k : known h d) (ha : asciiD d = true) : m_law_is_title [d] h = .ok (.bl (isTiD d)) h := by
  cases d with
  | str s => exact m_law_is_titleOf k ha
  | ref n =>
    obtain ⟨ds, e⟩ := k
    refine gc_ok (g := []) ?_ rfl
    simp [runF, b_law_is_title, tyN_lst e, isTiD]
  | _ =>
    refine gc_ok (g := []) ?_ rfl
    simp [runF, b_law_is_title, isTiD]
end DL


set_option maxRecDepth 100000
namespace DL
open PySem PySem.Spec PyProof.Rows L2

/-! ## addresses -/
def isAdD : D → Bool
  | .tup ds => decide (1 ≤ ds.length) && decide (ds.length ≤ 4) && ds.all isNmD
  | _ => false
/-- .. and what lies in it is known, too -/
def knownD (h : AH) (d : D) : Prop := known h d ∧ ∀ ds, d = .tup ds → ds.length ≤ 1000 ∧ ∀ x ∈ ds, known h x
theorem knownD.app {h g : AH} {d : D} (k : knownD h d) : knownD (h ++ g) d := ⟨k.1.app, fun ds e => ⟨(k.2 ds e).1, fun x hx => ((k.2 ds e).2 x hx).app⟩⟩
theorem m_is_addressD {d : D} {h : AH} (k : knownD h d) : m_is_address [d] h = .ok (.bl (isAdD d)) h := by
  cases d with
  | tup ds =>
    obtain ⟨hl, hk⟩ := k.2 ds rfl
    rw [show isAdD (.tup ds) = (decide (1 ≤ ds.length) && decide (ds.length ≤ 4) && ds.all isNmD) from rfl]
    by_cases h1 : 1 ≤ ds.length
    · have q0 : (1 : Int) ≤ ds.length := by omega
      by_cases h2 : ds.length ≤ 4
      · have q2 : (ds.length : Int) ≤ 4 := by omega
        have ea : dCallB allL (dCons b_is_address_c1 dNil) [some (.tup ds), none] h = .ok (.bl (ds.all isNmD)) (h ++ [.lst (bls (ds.map isNmD))]) := by
          refine all_A ds id (gd := fun _ => True) (by simp) isNmD (fun _ => trivial) (by omega) fun x hx acc => ⟨_, rfl, ?_⟩
          have := m_is_nameD (h := h ++ [.lst acc]) (hk x hx).app
          simp [this]
        simp only [dCallB_eq, dCons_eq, dNil_eq, RA.bindA_ok] at ea
        refine gc_ok (g := [.lst (bls (ds.map isNmD))]) ?_ rfl
        rw [decide_eq_true h1, decide_eq_true h2]
        revert ea
        generalize ds.all isNmD = r
        generalize bls (ds.map isNmD) = b
        intro ea
        simp [runF, b_is_address, q0, q2, ea]
      · have q2 : ¬ (ds.length : Int) ≤ 4 := by omega
        refine gc_ok (g := []) ?_ rfl
        simp [runF, b_is_address, q0, q2, h2]
    · have q0 : ¬ (1 : Int) ≤ ds.length := by omega
      refine gc_ok (g := []) ?_ rfl
      rw [decide_eq_false h1]
      simp [runF, b_is_address, q0]
  | ref n =>
    obtain ⟨ds, e⟩ := k.1
    refine gc_ok (g := []) ?_ rfl
    simp [runF, b_is_address, tyN_lst e, isAdD]
  | _ =>
    refine gc_ok (g := []) ?_ rfl
    simp [runF, b_is_address, isAdD]
theorem m_law_is_addressD {d : D} {h : AH} (k : knownD h d) : m_law_is_address [d] h = .ok (.bl (isAdD d)) h := by
  cases d with
  | tup ds =>
    obtain ⟨hl, hk⟩ := k.2 ds rfl
    rw [show isAdD (.tup ds) = (decide (1 ≤ ds.length) && decide (ds.length ≤ 4) && ds.all isNmD) from rfl]
    by_cases h1 : 1 ≤ ds.length
    · have q0 : (1 : Int) ≤ ds.length := by omega
      by_cases h2 : ds.length ≤ 4
      · have q2 : (ds.length : Int) ≤ 4 := by omega
        have ea : dCallB allL (dCons b_law_is_address_c1 dNil) [some (.tup ds), none] h = .ok (.bl (ds.all isNmD)) (h ++ [.lst (bls (ds.map isNmD))]) := by
          refine all_A ds id (gd := fun _ => True) (by simp) isNmD (fun _ => trivial) (by omega) fun x hx acc => ⟨_, rfl, ?_⟩
          have := m_law_is_nameD (h := h ++ [.lst acc]) (hk x hx).app
          simp [this]
        simp only [dCallB_eq, dCons_eq, dNil_eq, RA.bindA_ok] at ea
        refine gc_ok (g := [.lst (bls (ds.map isNmD))]) ?_ rfl
        rw [decide_eq_true h1, decide_eq_true h2]
        revert ea
        generalize ds.all isNmD = r
        generalize bls (ds.map isNmD) = b
        intro ea
        simp [runF, b_law_is_address, q0, q2, ea]
      · have q2 : ¬ (ds.length : Int) ≤ 4 := by omega
        refine gc_ok (g := []) ?_ rfl
        simp [runF, b_law_is_address, q0, q2, h2]
    · have q0 : ¬ (1 : Int) ≤ ds.length := by omega
      refine gc_ok (g := []) ?_ rfl
      rw [decide_eq_false h1]
      simp [runF, b_law_is_address, q0]
  | ref n =>
    obtain ⟨ds, e⟩ := k.1
    refine gc_ok (g := []) ?_ rfl
    simp [runF, b_law_is_address, tyN_lst e, isAdD]
  | _ =>
    refine gc_ok (g := []) ?_ rfl
    simp [runF, b_law_is_address, isAdD]
theorem knownD_txs {ws : List (List Nat)} {h : AH} (hl : ws.length ≤ 1000) (hw : ∀ w ∈ ws, w.length ≤ 1000) : knownD h (.tup (txs ws)) :=
  ⟨trivial, fun ds e => by
    cases e
    refine ⟨by rw [txs_length]; exact hl, fun x hx => ?_⟩
    obtain ⟨w, h1, rfl⟩ := List.mem_map.mp hx
    exact hw w h1⟩
/-- the address of a text, as the program reads it -/
def adOf (s : List Nat) : D := .tup (txs (splitC 47 s))
theorem knownD_adOf {s : List Nat} {h : AH} (hl : s.length ≤ 900) : knownD h (adOf s) := knownD_txs (by have := split_len 47 s; omega) fun w hw => by have := split_mem_len 47 hw; omega
theorem m_read_addressOf {s : List Nat} {h : AH} (hl : s.length ≤ 900) : m_read_address [.str s] h = if isAdD (adOf s) = true then .ok (adOf s) h else .exc "NoText" h := by
  have es := mSplit_one (c := 47) (by decide) (s := s) (h := h) (by omega)
  have et : tupleL [.ref h.length] (h ++ [.lst (txs (splitC 47 s))]) = some (adOf s, h ++ [.lst (txs (splitC 47 s))]) := tupleL_lst (by simp)
  have ei := m_is_addressD (d := adOf s) (h := h ++ [.lst (txs (splitC 47 s))]) (knownD_adOf hl)
  have hb : (adOf s).bel 0 = true := txs_bel 0 _
  revert et es ei hb
  generalize txs (splitC 47 s) = ps
  generalize adOf s = a
  intro et es ei hb
  by_cases q : isAdD a = true
  · rw [if_pos q]
    rw [q] at ei
    refine gc_ok (g := [.lst ps]) ?_ hb
    simp [runF, b_read_address, es, et, ei]
  · rw [if_neg q]
    rw [Bool.not_eq_true] at q
    rw [q] at ei
    refine gc_exc (g := [.lst ps]) ?_
    simp [runF, b_read_address, es, et, ei, sRse]
def refused : List Nat := [114, 101, 102, 117, 115, 101, 100]
theorem m_law_toldOf {s : List Nat} {h : AH} (hl : s.length ≤ 900) : m_law_told [.str s] h = .ok (if isAdD (adOf s) = true then adOf s else .str refused) h := by
  have er := m_read_addressOf (h := h) hl
  have hb : (adOf s).bel 0 = true := txs_bel 0 _
  revert er hb
  generalize adOf s = a
  intro er hb
  by_cases q : isAdD a = true
  · rw [if_pos q] at er ⊢
    refine gc_ok (g := []) ?_ hb
    simp [runF, b_law_told, sTry, er]
  · rw [if_neg q] at er ⊢
    refine gc_ok (g := []) ?_ rfl
    simp [runF, b_law_told, sTry, er, refused]
theorem m_law_orOf {a : D} {h : AH} (hb : a.bel 0 = true) : m_law_or [a] h = .ok (if isN a = true then .str refused else a) h := by
  by_cases q : isN a = true
  · rw [if_pos q]
    refine gc_ok (g := []) ?_ rfl
    simp [runF, b_law_or, q, refused]
  · rw [if_neg q]
    rw [Bool.not_eq_true] at q
    refine gc_ok (g := []) ?_ hb
    simp [runF, b_law_or, q]
theorem m_address_textOf {ws : List (List Nat)} {h : AH} (hj : joinLen [47] ws ≤ 16777216) : m_address_text [.tup (txs ws)] h = .ok (.str (TL.joinL [47] ws)) h := by
  refine gc_ok (g := []) ?_ rfl
  have := mJoin_tup (sep := [47]) (h := h) hj
  simp [runF, b_address_text, this]
end DL


set_option maxRecDepth 100000
namespace DL
open PySem PySem.Spec PyProof.Rows L2

/-! ## reckoning with dicts -/
section
variable {σ : Lc} {h : AH}
theorem dctOf_T {n : Nat} {kvs : List (D × D)} (e : h[n]? = some (.dcT kvs)) : dctOf h (.ref n) = some (true, kvs) := by simp [dctOf, e]
theorem dctOf_K {n : Nat} {kvs : List (D × D)} (e : h[n]? = some (.dct kvs)) : dctOf h (.ref n) = some (false, kvs) := by simp [dctOf, e]
theorem ixE_tup {s : List D} {i : Int} {d : D} (a : atI s i = some d) : ixE (.tup s) (.int i) h = some (d, h) := by simp only [ixE, dctOf]; exact ixD_tup a
theorem ixE_lst {n : Nat} {s : List D} {i : Int} {d : D} (e : h[n]? = some (.lst s)) (a : atI s i = some d) : ixE (.ref n) (.int i) h = some (d, h) := by simp only [ixE, dctOf, e]; exact ixD_lst e a
theorem ixE_scr {n : Nat} {s : List D} {i : Int} {d : D} (e : h[n]? = some (.scr s)) (a : atI s i = some d) : ixE (.ref n) (.int i) h = some (d, h) := by simp only [ixE, dctOf, e]; exact ixD_scr e a
theorem ixE_str {s : List Nat} {i : Int} {c : Nat} (hl : s.length ≤ 16777216) (a : atI s i = some c) : ixE (.str s) (.int i) h = some (.str [c], h) := by simp only [ixE, dctOf]; exact ixD_str hl a
theorem ixE_dct {d k v : D} {t : Bool} {kvs : List (D × D)} (e : dctOf h d = some (t, kvs)) (hk : keyAs t k = true) (hv : valD kvs k = some v) : ixE d k h = some (v, h) := by simp only [ixE, e, hk, hv, if_true]; rfl
theorem inE_dct {neg : Bool} {d k : D} {t : Bool} {kvs : List (D × D)} (e : dctOf h d = some (t, kvs)) (hk : keyAs t k = true) : inE neg k d h = some (.bl (xor neg (valD kvs k).isSome), h) := by simp only [inE, e, hk, if_true]
theorem inE_lst {neg : Bool} {d : D} {k : Nat} {ds : List D} (e : h[k]? = some (.lst ds)) : inE neg d (.ref k) h = inD neg d (.ref k) h := by simp only [inE, dctOf, e]
theorem inE_tup {neg : Bool} {d : D} {ds : List D} : inE neg d (.tup ds) h = inD neg d (.tup ds) h := rfl
theorem inE_str {neg : Bool} {d : D} {s : List Nat} : inE neg d (.str s) h = inD neg d (.str s) h := rfl
@[simp] theorem dGet2_eq {fd fk fx : SE} : dGet2 fd fk fx σ h = (fd σ h).bind fun d h1 => if (dctOf h1 d).isSome = true then (fk σ h1).bind fun k h2 => (fx σ h2).bind fun z h3 => getB d k z h3 else .bad := id rfl
@[simp] theorem dGet1_eq {fd fk : SE} : dGet1 fd fk σ h = (fd σ h).bind fun d h1 => if (dctOf h1 d).isSome = true then (fk σ h1).bind fun k h2 => getB d k .non h2 else .bad := id rfl
theorem getB_at {d k z : D} {t : Bool} {kvs : List (D × D)} (e : dctOf h d = some (t, kvs)) (hk : keyAs t k = true) : getB d k z h = .ok ((valD kvs k).getD z) h := by simp only [getB, e, hk, if_true]
@[simp] theorem sPut_eq {fd fk fv : SE} : sPut fd fk fv σ h = (fv σ h).bindS σ fun v h1 => (fd σ h1).bindS σ fun d h2 => (fk σ h2).bindS σ fun k h3 => match putH h3 d k v with
  | some h4 => .nx σ h4
  | none => .bad := id rfl
theorem putH_T {n : Nat} {kvs : List (D × D)} {k v : D} (e : h[n]? = some (.dcT kvs)) (hk : keyAs true k = true) (hl : kvs.length < 16777216) : putH h (.ref n) k v = some (h.set n (.dcT (putD kvs k v))) := by simp [putH, e, hk, hl]
theorem putH_K {n : Nat} {kvs : List (D × D)} {k v : D} (e : h[n]? = some (.dct kvs)) (hk : keyAs false k = true) (hl : kvs.length < 16777216) : putH h (.ref n) k v = some (h.set n (.dct (putD kvs k v))) := by simp [putH, e, hk, hl]
@[simp] theorem dDct_eq {t : Bool} : dDct t σ h = .ok (.ref h.length) (h ++ [if t = true then .dcT [] else .dct []]) := id rfl
theorem dictL_T {n : Nat} {ds : List D} {kvs : List (D × D)} (e : h[n]? = some (.lst ds)) (hp : pairsOf ds = some kvs) (hk : kvs.all (fun p => keyAs true p.1) = true) (hl : ds.length ≤ 1000000) : dictL true [.ref n] h = some (.ref h.length, h ++ [.dcT (mergeD [] kvs)]) := by
  simp only [dictL, e, hp]
  rw [if_pos ⟨hk, hl⟩]
  rfl
theorem dictL_K {n : Nat} {ds : List D} {kvs : List (D × D)} (e : h[n]? = some (.lst ds)) (hp : pairsOf ds = some kvs) (hk : kvs.all (fun p => keyAs false p.1) = true) (hl : ds.length ≤ 1000000) : dictL false [.ref n] h = some (.ref h.length, h ++ [.dct (mergeD [] kvs)]) := by
  simp only [dictL, e, hp]
  rw [if_pos ⟨hk, hl⟩]
  rfl
theorem sortedE_lst {n : Nat} {ds : List D} (e : h[n]? = some (.lst ds)) (ok : okSort ds = true) : sortedE [.ref n] h = some (.ref h.length, h ++ [.lst (sortD ds)]) := by
  simp [sortedE, sortedL, e, ok]
theorem sortedE_dct {n : Nat} {t : Bool} {kvs : List (D × D)} (e : dctOf h (.ref n) = some (t, kvs)) (ok : okSort (kvs.map (·.1)) = true) : sortedE [.ref n] h = some (.ref h.length, h ++ [.lst (sortD (kvs.map (·.1)))]) := by
  have : sortedL [.ref n] h = none := by
    simp only [dctOf] at e
    simp only [sortedL]
    split at e <;> rename_i q <;> first | (cases e; simp [q]) | cases e
  simp only [sortedE, this, sortedDL, e]
  rw [if_pos ok]
end
theorem pairsOf_map {α : Type} (f g : α → D) (xs : List α) : pairsOf (xs.map fun x => .tup [f x, g x]) = some (xs.map fun x => (f x, g x)) := by
  induction xs with
  | nil => rfl
  | cons x xs ih => simp only [List.map_cons, pairsOf, ih, Option.map_some]
/-! ### assoc lists, by a key -/
section
variable {α κ : Type} [DecidableEq κ] {key : α → κ}
def getA (key : α → κ) (R : List α) (a : κ) : Option α := R.find? fun r => decide (key r = a)
def updA (key : α → κ) (R : List α) (r : α) : List α := if (R.any fun s => decide (key s = key r)) = true then R.map (fun s => if key s = key r then r else s) else R ++ [r]
theorem getA_key {R : List α} {a : κ} {r : α} (h : getA key R a = some r) : key r = a := by
  have := List.find?_some h
  simpa using this
theorem getA_mem {R : List α} {a : κ} {r : α} (h : getA key R a = some r) : r ∈ R := List.mem_of_find?_eq_some h
theorem getA_none {R : List α} {a : κ} : getA key R a = none ↔ a ∉ R.map key := by
  unfold getA
  rw [List.find?_eq_none]
  simp only [decide_eq_true_eq, List.mem_map, not_exists, not_and]
theorem getA_of {R : List α} (nd : (R.map key).Nodup) {r : α} (h : r ∈ R) : getA key R (key r) = some r := by
  unfold getA
  induction R with
  | nil => simp at h
  | cons x R ih =>
    rw [List.map_cons, List.nodup_cons] at nd
    rcases List.mem_cons.mp h with e | h
    · subst e; simp
    · rw [List.find?_cons_of_neg, ih nd.2 h]
      simp only [decide_eq_true_eq]
      intro e
      exact nd.1 (by rw [e]; exact List.mem_map_of_mem h)
theorem getA_iff {R : List α} (nd : (R.map key).Nodup) {r : α} {a : κ} : getA key R a = some r ↔ r ∈ R ∧ key r = a :=
  ⟨fun h => ⟨getA_mem h, getA_key h⟩, fun h => by rw [← h.2]; exact getA_of nd h.1⟩
theorem getA_congr {R S : List α} (nr : (R.map key).Nodup) (ns : (S.map key).Nodup) (h : ∀ r, r ∈ R ↔ r ∈ S) (a : κ) : getA key R a = getA key S a := by
  cases q : getA key S a with
  | some r =>
    obtain ⟨h1, h2⟩ := (getA_iff ns).mp q
    exact (getA_iff nr).mpr ⟨(h r).mpr h1, h2⟩
  | none =>
    rw [getA_none] at q ⊢
    intro hm
    obtain ⟨r, h1, h2⟩ := List.mem_map.mp hm
    exact q (List.mem_map.mpr ⟨r, (h r).mp h1, h2⟩)
theorem updA_keys {R : List α} {r : α} : (updA key R r).map key = if key r ∈ R.map key then R.map key else R.map key ++ [key r] := by
  unfold updA
  by_cases h : key r ∈ R.map key
  · have : (R.any fun s => decide (key s = key r)) = true := by
      rw [List.any_eq_true]
      obtain ⟨s, h1, h2⟩ := List.mem_map.mp h
      exact ⟨s, h1, by simpa using h2⟩
    rw [if_pos this, if_pos h, List.map_map]
    apply List.map_congr_left
    intro s _
    simp only [Function.comp_apply]
    by_cases e : key s = key r
    · rw [if_pos e, e]
    · rw [if_neg e]
  · have : ¬ (R.any fun s => decide (key s = key r)) = true := by
      rw [List.any_eq_true]
      rintro ⟨s, h1, h2⟩
      exact h (List.mem_map.mpr ⟨s, h1, by simpa using h2⟩)
    rw [if_neg this, if_neg h, List.map_append]
    rfl
theorem updA_nodup {R : List α} {r : α} (nd : (R.map key).Nodup) : ((updA key R r).map key).Nodup := by
  rw [updA_keys]
  split
  · exact nd
  · rename_i h
    rw [List.nodup_append]
    refine ⟨nd, by simp, ?_⟩
    intro a ha b hb e
    rw [List.mem_singleton] at hb
    subst hb; subst e
    exact h ha
theorem getA_upd {R : List α} {r : α} (a : κ) : getA key (updA key R r) a = if a = key r then some r else getA key R a := by
  unfold updA
  by_cases h : (R.any fun s => decide (key s = key r)) = true
  · rw [if_pos h]
    unfold getA
    induction R with
    | nil => simp at h
    | cons s R ih =>
      rw [List.map_cons]
      by_cases e : key s = key r
      · rw [if_pos e]
        by_cases ea : a = key r
        · rw [if_pos ea, List.find?_cons_of_pos (by simp [ea])]
        · rw [if_neg ea, List.find?_cons_of_neg (by simpa using fun z => ea z.symm), List.find?_cons_of_neg (by simpa [e] using fun z => ea z.symm)]
          -- behind it
          by_cases h2 : (R.any fun s => decide (key s = key r)) = true
          · have := ih h2
            rw [if_neg ea] at this
            exact this
          · have e2 : R.map (fun s => if key s = key r then r else s) = R := by
              conv => rhs; rw [← List.map_id R]
              apply List.map_congr_left
              intro s' hs'
              rw [if_neg fun z => h2 (List.any_eq_true.mpr ⟨s', hs', by simpa using z⟩)]
              rfl
            rw [e2]
      · rw [if_neg e]
        have h2 : (R.any fun s => decide (key s = key r)) = true := by simpa [e] using h
        by_cases es : key s = a
        · rw [List.find?_cons_of_pos (by simpa using es), List.find?_cons_of_pos (by simpa using es), if_neg fun z => e (es.trans z)]
        · rw [List.find?_cons_of_neg (by simpa using es), List.find?_cons_of_neg (by simpa using es)]
          exact ih h2
  · rw [if_neg h]
    unfold getA
    rw [List.find?_append]
    by_cases ea : a = key r
    · have hn : R.find? (fun s => decide (key s = a)) = none := by
        rw [List.find?_eq_none]
        intro s hs
        simp only [decide_eq_true_eq]
        intro z
        exact h (List.any_eq_true.mpr ⟨s, hs, by simp [z, ea]⟩)
      rw [hn, if_pos ea]
      simp [ea]
    · rw [if_neg ea]
      cases q : R.find? (fun s => decide (key s = a)) with
      | some s => rfl
      | none => simpa using fun z : key r = a => ea z.symm
/-- the dict that holds them -/
theorem valD_map {R : List α} {kd vd : α → D} {a : κ} {ka : D} (hk : ∀ r ∈ R, sameK (kd r) ka = decide (key r = a)) : valD (R.map fun r => (kd r, vd r)) ka = (getA key R a).map vd := by
  unfold valD getA
  rw [List.find?_map]
  have : R.find? ((fun p : D × D => sameK p.1 ka) ∘ fun r => (kd r, vd r)) = R.find? fun r => decide (key r = a) := by
    induction R with
    | nil => rfl
    | cons r R ih =>
      have e := hk r (by simp)
      rw [List.find?_cons, List.find?_cons]
      simp only [Function.comp_apply, e]
      rw [ih fun x hx => hk x (by simp [hx])]
  rw [this]
  cases R.find? fun r => decide (key r = a) <;> rfl
theorem putD_map {R : List α} {kd vd : α → D} {r : α} (hk : ∀ s ∈ R, sameK (kd s) (kd r) = decide (key s = key r)) (hkd : ∀ s ∈ R, key s = key r → kd s = kd r) : putD (R.map fun r => (kd r, vd r)) (kd r) (vd r) = (updA key R r).map fun r => (kd r, vd r) := by
  unfold putD updA
  have e1 : ((R.map fun r => (kd r, vd r)).any fun p => sameK p.1 (kd r)) = R.any fun s => decide (key s = key r) := by
    rw [List.any_map]
    induction R with
    | nil => rfl
    | cons s R ih =>
      have e := hk s (by simp)
      simp only [List.any_cons, Function.comp_apply, e]
      rw [ih (fun x hx => hk x (by simp [hx])) fun x hx => hkd x (by simp [hx])]
  rw [e1]
  by_cases h : (R.any fun s => decide (key s = key r)) = true
  · rw [if_pos h, if_pos h, List.map_map, List.map_map]
    apply List.map_congr_left
    intro s hs
    simp only [Function.comp_apply, hk s hs, decide_eq_true_eq]
    by_cases e : key s = key r
    · rw [if_pos e, if_pos e, hkd s hs e]
    · rw [if_neg e, if_neg e]
  · rw [if_neg h, if_neg h, List.map_append]
    rfl
theorem mergeD_map {kd vd : α → D} : ∀ (S R : List α), (∀ s ∈ S, ∀ r ∈ R ++ S, sameK (kd r) (kd s) = decide (key r = key s)) → (∀ s ∈ S, ∀ r ∈ R ++ S, key r = key s → kd r = kd s) → mergeD (R.map fun r => (kd r, vd r)) (S.map fun r => (kd r, vd r)) = (S.foldl (updA key) R).map fun r => (kd r, vd r)
  | [], R, _, _ => rfl
  | s :: S, R, h1, h2 => by
    have hsub : ∀ x ∈ updA key R s ++ S, x ∈ R ++ s :: S := by
      intro x hx
      rcases List.mem_append.mp hx with hx | hx
      · unfold updA at hx
        split at hx
        · obtain ⟨y, hy, rfl⟩ := List.mem_map.mp hx
          split <;> simp [hy]
        · rcases List.mem_append.mp hx with hx | hx
          · simp [hx]
          · rw [List.mem_singleton] at hx; subst hx; simp
      · simp [hx]
    have ih := mergeD_map (vd := vd) S (updA key R s) (fun s' hs r hr => h1 s' (by simp [hs]) r (hsub r hr)) fun s' hs r hr => h2 s' (by simp [hs]) r (hsub r hr)
    show mergeD (putD (R.map fun r => (kd r, vd r)) (kd s) (vd s)) (S.map fun r => (kd r, vd r)) = _
    rw [putD_map (fun x hx => h1 s (by simp) x (by simp [hx])) fun x hx => h2 s (by simp) x (by simp [hx])]
    exact ih
theorem updA_fresh {R : List α} {r : α} (h : key r ∉ R.map key) : updA key R r = R ++ [r] := by
  unfold updA
  rw [if_neg]
  rw [List.any_eq_true]
  rintro ⟨s, h1, h2⟩
  exact h (List.mem_map.mpr ⟨s, h1, by simpa using h2⟩)
theorem foldl_fresh : ∀ (S R : List α), ((R ++ S).map key).Nodup → S.foldl (updA key) R = R ++ S
  | [], R, _ => by simp
  | s :: S, R, nd => by
    have nd0 := nd
    rw [List.map_append, List.map_cons, List.nodup_append] at nd
    have : key s ∉ R.map key := fun h => nd.2.2 (key s) h (key s) (by simp) rfl
    rw [List.foldl_cons, updA_fresh this, foldl_fresh S (R ++ [s]) (by simpa using nd0)]
    simp
end
/-- while, that goes on, ends, returns or raises -/
theorem while_end {ft : SB} {body : SS} (I : Lc → AH → Prop) (μ : Lc → AH → Nat) (Q : RS → Prop)
    (hs : ∀ σ h, I σ h → (∃ h1, ft σ h = .ok false h1 ∧ Q (.nx σ h1)) ∨ (∃ h1 σ2 h2, ft σ h = .ok true h1 ∧ (body σ h1 = .nx σ2 h2 ∨ body σ h1 = .ct σ2 h2) ∧ I σ2 h2 ∧ μ σ2 h2 < μ σ h) ∨ (∃ h1 d h2, ft σ h = .ok true h1 ∧ body σ h1 = .rt d h2 ∧ Q (.rt d h2)) ∨ ∃ h1 x σ2 h2, ft σ h = .ok true h1 ∧ body σ h1 = .exc x σ2 h2 ∧ Q (.exc x σ2 h2)) (hq : ¬ Q .bad) :
    ∀ σ h, I σ h → Q (sWhile ft body σ h) := by
  have key : ∀ n σ h, I σ h → μ σ h < n → ∃ m, Q (whileN ft body m σ h) := by
    intro n
    induction n with
    | zero => intro σ h _ hl; omega
    | succ n ih =>
      intro σ h i hl
      rcases hs σ h i with ⟨h1, e, q⟩ | ⟨h1, σ2, h2, e, eb, i2, l⟩ | ⟨h1, d, h2, e, eb, q⟩ | ⟨h1, x, σ2, h2, e, eb, q⟩
      · refine ⟨1, ?_⟩
        unfold whileN
        rw [e]
        exact q
      · obtain ⟨m, q⟩ := ih σ2 h2 i2 (by omega)
        refine ⟨m + 1, ?_⟩
        unfold whileN
        rw [e]
        rcases eb with eb | eb
        · simp only [RT.bindS_ok, if_true, eb]; exact q
        · simp only [RT.bindS_ok, if_true, eb]; exact q
      · refine ⟨1, ?_⟩
        unfold whileN
        rw [e]
        simp only [RT.bindS_ok, if_true, eb]
        exact q
      · refine ⟨1, ?_⟩
        unfold whileN
        rw [e]
        simp only [RT.bindS_ok, if_true, eb]
        exact q
  intro σ h i
  obtain ⟨m, q⟩ := key _ σ h i (Nat.lt_succ_self _)
  have hb : whileN ft body m σ h ≠ .bad := fun z => by rw [z] at q; exact hq q
  rw [sWhile_eq hb]
  exact q
end DL


set_option maxRecDepth 100000
namespace DL
open PySem PySem.Spec PyProof.Rows L2

/-! ## sorted(tuple), loops over dicts -/
section
variable {σ : Lc} {h : AH}
theorem sortedA_lst {n : Nat} {ds : List D} (e : h[n]? = some (.lst ds)) (ok : okSort ds = true) : sortedA [.ref n] h = some (.ref h.length, h ++ [.lst (sortD ds)]) := by simp only [sortedA, sortedE_lst e ok]
theorem sortedA_tup {ds : List D} (ok : okSort ds = true) : sortedA [.tup ds] h = some (.ref h.length, h ++ [.lst (sortD ds)]) := by
  have : sortedE [.tup ds] h = none := rfl
  simp only [sortedA, this, sortedTL, ok, if_true]
theorem lockAt_K {f : SE} {n : Nat} {kvs : List (D × D)} {h1 : AH} (e : f σ h = .ok (.ref n) h1) (hn : h[n]? = some (.dct kvs)) : lockAt f σ h = some (n, .dct kvs, .lck kvs) := by simp only [lockAt, e, hn, lockO]
theorem iKeysD_K {f : SE} {n : Nat} {kvs : List (D × D)} (e : f σ h = .ok (.ref n) h) (hn : h[n]? = some (.lck kvs)) : iKeysD f σ h = .ok (kvs.map (·.1)) (fun h' => h'[n]? = some (.lck kvs)) h := by
  unfold iKeysD
  rw [e, DL.R.bindI_ok]
  simp only [kD, hn]
theorem dctOf_L {n : Nat} {kvs : List (D × D)} (e : h[n]? = some (.lck kvs)) : dctOf h (.ref n) = some (false, kvs) := by simp [dctOf, e]
theorem dCompD_A {α : Type} {f : SE} {g : GF} {ft : SB} {fe : SE} {vs : List Nat} {n : Nat} {kvs : List (D × D)} (hf : ∀ h, f σ h = .ok (.ref n) h) (hn : h[n]? = some (.dct kvs)) (xs : List α) (ι : α → D) (hk : kvs.map (·.1) = xs.map ι) (p : α → Bool) (F : α → D) (hl : xs.length ≤ 16777216)
    (hb : ∀ x ∈ xs, ∀ acc, ∃ σ2, g (ι x) (wipeD σ vs) (h.set n (.lck kvs) ++ [.lst acc]) = some σ2 ∧ ft σ2 (h.set n (.lck kvs) ++ [.lst acc]) = .ok (p x) (h.set n (.lck kvs) ++ [.lst acc]) ∧ (p x = true → fe σ2 (h.set n (.lck kvs) ++ [.lst acc]) = .ok (F x) (h.set n (.lck kvs) ++ [.lst acc]))) :
    dCompD f g ft fe vs σ h = .ok (.ref h.length) (h ++ [.lst ((xs.filter p).map F)]) := by
  have hlt : n < h.length := (List.getElem?_eq_some_iff.mp hn).1
  have hlk : (h.set n (O.lck kvs))[n]? = some (.lck kvs) := List.getElem?_set_self hlt
  unfold dCompD
  rw [lockAt_K (hf h) hn]
  dsimp only
  rw [dComp_A xs ι (by rw [iKeysD_K (hf _) hlk, hk]) p F (fun acc => by exact get_app hlk) hl hb]
  unfold unR
  dsimp only
  rw [if_pos (get_app hlk), List.length_set, List.set_append_left _ _ (by rw [List.length_set]; exact hlt), List.set_set]
  congr 2
  apply List.ext_getElem?
  intro i
  by_cases hi : n = i
  · subst hi
    rw [List.getElem?_set_self hlt, hn]
  · rw [List.getElem?_set_ne hi]
theorem sForD_K {f : SE} {g : GF} {s : SS} {n : Nat} {kvs : List (D × D)} (hf : ∀ h, f σ h = .ok (.ref n) h) (hn : h[n]? = some (.dct kvs)) : sForD f g s σ h = unS n (.lck kvs) (.dct kvs) (forL (fun h' => h'[n]? = some (.lck kvs)) g s (kvs.map (·.1)) σ (h.set n (.lck kvs))) := by
  have hlt : n < h.length := (List.getElem?_eq_some_iff.mp hn).1
  have hlk : (h.set n (O.lck kvs))[n]? = some (.lck kvs) := List.getElem?_set_self hlt
  unfold sForD
  rw [lockAt_K (hf h) hn]
  dsimp only
  rw [sFor_eq, iKeysD_K (hf _) hlk]
theorem unS_nx {n : Nat} {ol o : O} {l : Lc} (hn : h[n]? = some ol) : unS n ol o (.nx l h) = .nx l (h.set n o) := if_pos hn
theorem while_once {ft : SB} {body : SS} {σ2 : Lc} {h1 h2 h3 : AH} (e : ft σ h = .ok true h1) (eb : body σ h1 = .nx σ2 h2) (e2 : ft σ2 h2 = .ok false h3) : sWhile ft body σ h = .nx σ2 h3 := by
  have : whileN ft body 2 σ h = .nx σ2 h3 := by
    unfold whileN
    rw [e]
    simp only [RT.bindS_ok, if_true, eb]
    unfold whileN
    rw [e2]
    rfl
  rw [sWhile_eq (n := 2) (by rw [this]; intro z; cases z), this]
end
end DL


set_option maxRecDepth 100000
namespace DL
open PySem PySem.Spec PyProof.Rows L2

/-! ## comprehensions whose parts lay new objects -/
theorem compL_J {α : Type} {gd : AH → Prop} {g : GF} {ft : SB} {fe : SE} {vs : List Nat} {σ : Lc} {h : AH} (ι : α → D) (p : α → Bool) (f : α → D) (hgd : ∀ j, gd (h ++ j)) : ∀ (xs : List α) (acc : List D) (j : AH), acc.length + xs.length ≤ 16777216 →
    (∀ x ∈ xs, ∀ acc j, ∃ σ2 j1, g (ι x) (wipeD σ vs) (h ++ .lst acc :: j) = some σ2 ∧ ft σ2 (h ++ .lst acc :: j) = .ok (p x) (h ++ .lst acc :: j1) ∧ (p x = true → ∃ j2, fe σ2 (h ++ .lst acc :: j1) = .ok (f x) (h ++ .lst acc :: j2))) →
    ∃ j', compL gd g ft fe vs h.length (xs.map ι) σ (h ++ .lst acc :: j) = .ok (.ref h.length) (h ++ .lst (acc ++ (xs.filter p).map f) :: j')
  | [], acc, j, _, _ => by
    refine ⟨j, ?_⟩
    rw [List.map_nil]
    unfold compL
    rw [if_pos (hgd _)]
    simp
  | x :: xs, acc, j, hl, hb => by
    simp only [List.length_cons] at hl
    obtain ⟨σ2, j1, e1, e2, e3⟩ := hb x (by simp) acc j
    rw [List.map_cons]
    unfold compL
    rw [if_pos (hgd _), e1]
    dsimp only
    rw [e2]
    dsimp only
    by_cases hp : p x = true
    · obtain ⟨j2, e4⟩ := e3 hp
      rw [if_pos hp, e4]
      dsimp only
      have hcell : (h ++ O.lst acc :: j2)[h.length]? = some (.lst acc) := by simp
      simp only [hcell]
      rw [if_pos (by omega)]
      have hset : (h ++ O.lst acc :: j2).set h.length (.lst (acc ++ [f x])) = h ++ .lst (acc ++ [f x]) :: j2 := by simp
      rw [hset]
      obtain ⟨j', e⟩ := compL_J ι p f hgd xs (acc ++ [f x]) j2 (by simp; omega) (fun y hy => hb y (by simp [hy]))
      refine ⟨j', ?_⟩
      rw [e, List.filter_cons_of_pos hp]
      simp
    · rw [if_neg hp]
      obtain ⟨j', e⟩ := compL_J ι p f hgd xs acc j1 (by omega) (fun y hy => hb y (by simp [hy]))
      refine ⟨j', ?_⟩
      rw [e, List.filter_cons_of_neg hp]
theorem dComp_J {α : Type} {fi : SI} {g : GF} {ft : SB} {fe : SE} {vs : List Nat} {σ : Lc} {h h1 : AH} {gd : AH → Prop} (xs : List α) (ι : α → D) (hi : fi σ h = .ok (xs.map ι) gd h1) (p : α → Bool) (f : α → D) (hgd : ∀ j, gd (h1 ++ j)) (hl : xs.length ≤ 16777216)
    (hb : ∀ x ∈ xs, ∀ acc j, ∃ σ2 j1, g (ι x) (wipeD σ vs) (h1 ++ .lst acc :: j) = some σ2 ∧ ft σ2 (h1 ++ .lst acc :: j) = .ok (p x) (h1 ++ .lst acc :: j1) ∧ (p x = true → ∃ j2, fe σ2 (h1 ++ .lst acc :: j1) = .ok (f x) (h1 ++ .lst acc :: j2))) :
    ∃ j', dComp fi g ft fe vs σ h = .ok (.ref h1.length) (h1 ++ .lst ((xs.filter p).map f) :: j') := by
  obtain ⟨j', e⟩ := compL_J (gd := gd) (ft := ft) (fe := fe) (vs := vs) (σ := σ) ι p f hgd xs [] [] (by simpa using hl) hb
  refine ⟨j', ?_⟩
  unfold dComp
  rw [hi]
  exact e
theorem dComp_mapJ {α : Type} {fi : SI} {g : GF} {fe : SE} {vs : List Nat} {σ : Lc} {h h1 : AH} {gd : AH → Prop} (xs : List α) (ι : α → D) (hi : fi σ h = .ok (xs.map ι) gd h1) (f : α → D) (hgd : ∀ j, gd (h1 ++ j)) (hl : xs.length ≤ 16777216)
    (hb : ∀ x ∈ xs, ∀ acc j, ∃ σ2 j2, g (ι x) (wipeD σ vs) (h1 ++ .lst acc :: j) = some σ2 ∧ fe σ2 (h1 ++ .lst acc :: j) = .ok (f x) (h1 ++ .lst acc :: j2)) :
    ∃ j', dComp fi g bYes fe vs σ h = .ok (.ref h1.length) (h1 ++ .lst (xs.map f) :: j') := by
  obtain ⟨j', e⟩ := dComp_J (ft := bYes) xs ι hi (fun _ => true) f hgd hl fun x hx acc j => by
    obtain ⟨σ2, j2, a, b⟩ := hb x hx acc j
    exact ⟨σ2, j, a, rfl, fun _ => ⟨j2, b⟩⟩
  refine ⟨j', ?_⟩
  rw [e, List.filter_eq_self.mpr (fun _ _ => rfl)]
/-- sorted(set(texts)) -/
theorem sortedSet_at {n : Nat} {ws : List (List Nat)} {h : AH} (e : h[n]? = some (.lst (txs ws))) (hl : ws.length ≤ 4000) : sortedSetL [.ref n] h = some (.ref h.length, h ++ [.lst (txs ((uniqW ws).mergeSort leW))]) := by
  have h2 : (ws.map S).map (fun k : Str => k.cps.toList) = ws := by
    rw [List.map_map]
    conv => rhs; rw [← List.map_id ws]
    rfl
  simp only [sortedSetL, e, strsOf_map, List.length_map]
  rw [if_pos hl, h2]
  rfl
end DL


set_option maxRecDepth 100000
namespace DL
open PySem PySem.Spec PyProof.Rows L2

/-! ## rows of addresses as texts, plain -/
def okAd (a : Ad) : Bool := decide (1 ≤ a.length) && decide (a.length ≤ 4) && a.all isNm
theorem isAdD_ad {a : Ad} : isAdD (adD a) = okAd a := by
  show (decide (1 ≤ (txs a).length) && decide ((txs a).length ≤ 4) && (txs a).all isNmD) = _
  rw [txs_length]
  unfold okAd txs
  rw [List.all_map]
  rfl
theorem adOf_eq (s : List Nat) : adOf s = adD (splitC 47 s) := rfl
def adT (a : Ad) : List Nat := TL.joinL [47] a
def bodyP (r : Ad × Ad) : List Nat := adT r.1 ++ [32] ++ adT r.2
def lineP (r : Ad × Ad) : List Nat := bodyP r ++ [10]
def rtextP (R : List (Ad × Ad)) : List Nat := (R.map lineP).flatten
def okRow (r : Ad × Ad) : Bool := okAd r.1 && okAd r.2
def readL (l : List Nat) : Option (Ad × Ad) := match splitC 32 l with
  | [x, y] => if okAd (splitC 47 x) = true ∧ okAd (splitC 47 y) = true then some (splitC 47 x, splitC 47 y) else none
  | _ => none
def readLs : List (List Nat) → Option (List (Ad × Ad))
  | [] => some []
  | l :: ls => match readL l with
    | some r => (readLs ls).map (r :: ·)
    | none => none
def readP (t : List Nat) : Option (List (Ad × Ad)) := match readLs (splitC 10 t).dropLast with
  | some R => if rtextP R = t ∧ (R.map (·.1)).Nodup then some R else none
  | none => none
theorem nm_sign {w : List Nat} (h : isNm w = true) {c : Nat} (hc : c ∈ w) : nameC c = true := by
  unfold isNm at h
  simp only [Bool.and_eq_true, List.all_eq_true] at h
  exact h.1.2 c hc
theorem nm_not {w : List Nat} (h : isNm w = true) {c : Nat} (hc : nameC c = false) : c ∉ w := fun z => by
  rw [nm_sign h z] at hc; cases hc
theorem ad_nm {a : Ad} (h : okAd a = true) : ∀ w ∈ a, isNm w = true := by
  unfold okAd at h
  simp only [Bool.and_eq_true, List.all_eq_true] at h
  exact h.2
theorem ad_ne {a : Ad} (h : okAd a = true) : a ≠ [] := by
  rintro rfl
  cases h
theorem ad_le {a : Ad} (h : okAd a = true) : a.length ≤ 4 := by
  unfold okAd at h
  simp only [Bool.and_eq_true, decide_eq_true_eq] at h
  exact h.1.2
theorem mem_joinL {s c : Nat} : ∀ {ps : List (List Nat)}, c ∈ TL.joinL [s] ps → c = s ∨ ∃ p ∈ ps, c ∈ p
  | [], h => by cases h
  | [p], h => .inr ⟨p, by simp, h⟩
  | p :: q :: r, h => by
    have h : c ∈ p ++ ([s] ++ TL.joinL [s] (q :: r)) := h
    simp only [List.mem_append, List.mem_singleton] at h
    rcases h with h | h | h
    · exact .inr ⟨p, by simp, h⟩
    · exact .inl h
    · rcases mem_joinL h with h | ⟨u, hu, h⟩
      · exact .inl h
      · exact .inr ⟨u, List.mem_cons_of_mem _ hu, h⟩
theorem adT_not {a : Ad} (h : okAd a = true) {c : Nat} (hc : nameC c = false) (h47 : c ≠ 47) : c ∉ adT a := fun z => by
  rcases mem_joinL z with z | ⟨p, hp, z⟩
  · exact h47 z
  · exact nm_not (ad_nm h p hp) hc z
theorem split_join {c : Nat} {ps : List (List Nat)} (h : ps ≠ []) (hp : ∀ p ∈ ps, c ∉ p) : splitC c (TL.joinL [c] ps) = ps := TL.spl_join h hp
theorem join_split {c : Nat} (s : List Nat) : TL.joinL [c] (splitC c s) = s := by
  unfold splitC
  rw [join_spl]
  have : (s.map fun e => if e = c then c else e) = s := by
    conv => rhs; rw [← List.map_id s]
    refine List.map_congr_left fun e _ => ?_
    show (if e = c then c else e) = e
    split
    · rename_i z; exact z.symm
    · rfl
  rw [this]; rfl
theorem split_adT {a : Ad} (h : okAd a = true) : splitC 47 (adT a) = a := split_join (ad_ne h) fun p hp => nm_not (ad_nm h p hp) (by decide)
theorem split_body {r : Ad × Ad} (h : okRow r = true) : splitC 32 (bodyP r) = [adT r.1, adT r.2] := by
  unfold okRow at h
  rw [Bool.and_eq_true] at h
  have := split_join (c := 32) (ps := [adT r.1, adT r.2]) (by simp) (by
    intro p hp
    simp only [List.mem_cons, List.not_mem_nil, or_false] at hp
    rcases hp with rfl | rfl
    · exact adT_not h.1 (by decide) (by decide)
    · exact adT_not h.2 (by decide) (by decide))
  rw [← this]
  show splitC 32 _ = splitC 32 (adT r.1 ++ ([32] ++ adT r.2))
  unfold bodyP
  rw [List.append_assoc]
theorem read_body {r : Ad × Ad} (h : okRow r = true) : readL (bodyP r) = some r := by
  unfold readL
  rw [split_body h]
  unfold okRow at h
  rw [Bool.and_eq_true] at h
  simp only [split_adT h.1, split_adT h.2, h.1, h.2, and_self, if_true]
theorem readL_ok {l : List Nat} {r : Ad × Ad} (h : readL l = some r) : okRow r = true := by
  unfold readL at h
  split at h
  · split at h
    · rename_i c
      cases h
      unfold okRow
      rw [c.1, c.2]; rfl
    · cases h
  · cases h
theorem readLs_bodies : ∀ {R : List (Ad × Ad)}, (∀ r ∈ R, okRow r = true) → readLs (R.map bodyP) = some R
  | [], _ => rfl
  | r :: R, h => by
    rw [List.map_cons]
    unfold readLs
    rw [read_body (h r (by simp)), readLs_bodies fun x hx => h x (by simp [hx])]
    rfl
theorem readLs_ok : ∀ {ls : List (List Nat)} {R : List (Ad × Ad)}, readLs ls = some R → ∀ r ∈ R, okRow r = true
  | [], R, h => by cases h; simp
  | l :: ls, R, h => by
    unfold readLs at h
    split at h
    · rename_i r e
      obtain ⟨S, e2, rfl⟩ := Option.map_eq_some_iff.mp h
      intro x hx
      rcases List.mem_cons.mp hx with rfl | hx
      · exact readL_ok e
      · exact readLs_ok e2 x hx
    · cases h
theorem body_not10 {r : Ad × Ad} (h : okRow r = true) : 10 ∉ bodyP r := by
  unfold okRow at h
  rw [Bool.and_eq_true] at h
  unfold bodyP
  simp only [List.mem_append, List.mem_singleton, not_or]
  exact ⟨⟨adT_not h.1 (by decide) (by decide), by decide⟩, adT_not h.2 (by decide) (by decide)⟩
/-- lines, each with its end, and what is left -/
theorem split_lines : ∀ {ls : List (List Nat)} {z : List Nat}, (∀ l ∈ ls, 10 ∉ l) → 10 ∉ z → splitC 10 ((ls.map (· ++ [10])).flatten ++ z) = ls ++ [z]
  | ls, z, h, hz => by
    have := split_join (c := 10) (ps := ls ++ [z]) (by simp) (by
      intro p hp
      rcases List.mem_append.mp hp with hp | hp
      · exact h p hp
      · rw [List.mem_singleton.mp hp]; exact hz)
    rw [← this]
    congr 1
    clear this h hz
    induction ls with
    | nil => rfl
    | cons l ls ih =>
      rw [List.map_cons, List.flatten_cons, List.append_assoc, List.append_assoc, ih]
      cases ls with
      | nil => rfl
      | cons a b => rfl
theorem rtext_lines (R : List (Ad × Ad)) : rtextP R = ((R.map bodyP).map (· ++ [10])).flatten := by
  unfold rtextP
  rw [List.map_map]
  rfl
theorem bodies_not10 {R : List (Ad × Ad)} (h : ∀ r ∈ R, okRow r = true) : ∀ l ∈ R.map bodyP, 10 ∉ l := fun l hl => by
  obtain ⟨r, hr, rfl⟩ := List.mem_map.mp hl
  exact body_not10 (h r hr)
theorem split_rtext {R : List (Ad × Ad)} (h : ∀ r ∈ R, okRow r = true) {z : List Nat} (hz : 10 ∉ z) : splitC 10 (rtextP R ++ z) = R.map bodyP ++ [z] := by
  rw [rtext_lines]
  exact split_lines (bodies_not10 h) hz
theorem split_rtext0 {R : List (Ad × Ad)} (h : ∀ r ∈ R, okRow r = true) : splitC 10 (rtextP R) = R.map bodyP ++ [[]] := by
  have := split_rtext h (z := []) (by simp)
  rwa [List.append_nil] at this
theorem read_iff {t : List Nat} {R : List (Ad × Ad)} : readP t = some R ↔ rtextP R = t ∧ (∀ r ∈ R, okRow r = true) ∧ (R.map (·.1)).Nodup := by
  constructor
  · intro h
    unfold readP at h
    split at h
    · rename_i S e
      split at h
      · rename_i c
        cases h
        exact ⟨c.1, readLs_ok e, c.2⟩
      · cases h
    · cases h
  · rintro ⟨rfl, h, nd⟩
    unfold readP
    rw [split_rtext0 h, List.dropLast_concat, readLs_bodies h]
    simp [nd]
theorem bodyP_inj {r s : Ad × Ad} (hr : okRow r = true) (hs : okRow s = true) (e : bodyP r = bodyP s) : r = s := by
  have := read_body hr
  rw [e, read_body hs] at this
  exact (Option.some.inj this).symm
theorem bodies_inj : ∀ {R S : List (Ad × Ad)}, (∀ r ∈ R, okRow r = true) → (∀ r ∈ S, okRow r = true) → R.map bodyP = S.map bodyP → R = S
  | [], [], _, _, _ => rfl
  | [], _ :: _, _, _, e => by simp at e
  | _ :: _, [], _, _, e => by simp at e
  | r :: R, s :: S, hr, hs, e => by
    simp only [List.map_cons, List.cons.injEq] at e
    rw [bodyP_inj (hr r (by simp)) (hs s (by simp)) e.1, bodies_inj (fun x hx => hr x (by simp [hx])) (fun x hx => hs x (by simp [hx])) e.2]
theorem rtext_inj {R S : List (Ad × Ad)} (hr : ∀ r ∈ R, okRow r = true) (hs : ∀ r ∈ S, okRow r = true) (e : rtextP R = rtextP S) : R = S := by
  have h := split_rtext0 hr
  rw [e, split_rtext0 hs] at h
  exact (bodies_inj hs hr (List.append_cancel_right h)).symm
theorem rtext_app (R S : List (Ad × Ad)) : rtextP (R ++ S) = rtextP R ++ rtextP S := by
  unfold rtextP
  rw [List.map_append, List.flatten_append]
/-! ### what is refused -/
/-- a line that is none -/
theorem read_bad {R : List (Ad × Ad)} (h : ∀ r ∈ R, okRow r = true) {b : List Nat} (hb : 10 ∉ b) (hn : readL b = none) : readP (rtextP R ++ b ++ [10]) = none := by
  cases e : readP (rtextP R ++ b ++ [10]) with
  | none => rfl
  | some S =>
    exfalso
    obtain ⟨e1, hs, nd⟩ := read_iff.mp e
    have h1 := split_rtext0 hs
    rw [e1] at h1
    have h2 := split_lines (ls := R.map bodyP ++ [b]) (z := []) (by
      intro l hl
      rcases List.mem_append.mp hl with hl | hl
      · exact bodies_not10 h l hl
      · rw [List.mem_singleton.mp hl]; exact hb) (by simp)
    have h3 : ((R.map bodyP ++ [b]).map (· ++ [10])).flatten ++ [] = rtextP R ++ b ++ [10] := by
      rw [List.append_nil, List.map_append, List.flatten_append, ← rtext_lines]
      simp
    rw [h3, h1] at h2
    have h4 := List.append_cancel_right h2
    have hm : b ∈ S.map bodyP := by rw [h4]; simp
    obtain ⟨s, hs', rfl⟩ := List.mem_map.mp hm
    rw [read_body (hs s hs')] at hn
    cases hn
theorem body_ne {r : Ad × Ad} : bodyP r ≠ [] := by
  unfold bodyP
  simp
/-- without its last end -/
theorem read_cut {R : List (Ad × Ad)} (h : ∀ r ∈ R, okRow r = true) (hne : R ≠ []) : readP (rtextP R).dropLast = none := by
  cases e : readP (rtextP R).dropLast with
  | none => rfl
  | some S =>
    exfalso
    obtain ⟨e1, hs, nd⟩ := read_iff.mp e
    obtain ⟨Q, r, rfl⟩ : ∃ Q r, R = Q ++ [r] := by
      rcases List.eq_nil_or_concat R with z | ⟨Q, r, z⟩
      · exact absurd z hne
      · exact ⟨Q, r, by rw [z, List.concat_eq_append]⟩
    have hq : ∀ x ∈ Q, okRow x = true := fun x hx => h x (by simp [hx])
    have hr : okRow r = true := h r (by simp)
    have ed : (rtextP (Q ++ [r])).dropLast = rtextP Q ++ bodyP r := by
      rw [rtext_app]
      have : rtextP [r] = bodyP r ++ [10] := by unfold rtextP lineP; simp
      rw [this, ← List.append_assoc, List.dropLast_concat]
    rw [ed] at e1
    have h1 := split_rtext0 hs
    rw [e1, split_rtext hq (body_not10 hr)] at h1
    have := (List.append_inj' h1 rfl).2
    exact body_ne (List.cons.inj this).1
/-- a first one twice -/
theorem read_twice {R : List (Ad × Ad)} (h : ∀ r ∈ R, okRow r = true) (nd : ¬ (R.map (·.1)).Nodup) : readP (rtextP R) = none := by
  cases e : readP (rtextP R) with
  | none => rfl
  | some S =>
    obtain ⟨e1, hs, n2⟩ := read_iff.mp e
    rw [rtext_inj hs h e1] at n2
    exact absurd n2 nd
theorem read_rtext {R : List (Ad × Ad)} (h : ∀ r ∈ R, okRow r = true) (nd : (R.map (·.1)).Nodup) : readP (rtextP R) = some R := read_iff.mpr ⟨rfl, h, nd⟩
end DL


set_option maxRecDepth 100000
namespace DL
open PySem PySem.Spec PyProof.Rows L2

/-! ## order: texts, addresses -/
theorem datLt_str (x y : List Nat) : PySem.W.dataLt (D.str x).dat (D.str y).dat = decide (x < y) := PySem.W.dataLt_str (S x) (S y)
theorem eqv_str (x y : List Nat) : PyData.eqv (D.str x).dat (D.str y).dat = decide (x = y) := beq_S
theorem datLt_txs : ∀ (a b : Ad), PySem.W.rowLt (D.dats (txs a)) (D.dats (txs b)) = decide (a < b)
  | [], [] => by
    have e : PySem.W.rowLt (D.dats (txs [])) (D.dats (txs [])) = false := PyProof.Rows.lex_irrefl _
    rw [e]; simp
  | [], y :: ys => by
    have e : PySem.W.rowLt [] (D.dats (txs (y :: ys))) = true := by
      unfold PySem.W.rowLt
      rw [txs_cons, D.dats, PySem.W.toks_all_cons]
      simp only [PySem.W.keyToksAll]
      rw [PyProof.Rows.lex_diff (O := PyProof.Rows.itemOrd) (by simp)]
      rfl
    have e' : PySem.W.rowLt (D.dats (txs [])) (D.dats (txs (y :: ys))) = true := e
    rw [e']; simp
  | x :: xs, [] => by
    have e : PySem.W.rowLt (D.dats (txs (x :: xs))) [] = false := by
      unfold PySem.W.rowLt
      rw [txs_cons, D.dats, PySem.W.toks_all_cons]
      simp only [PySem.W.keyToksAll]
      rw [PyProof.Rows.lex_diff (O := PyProof.Rows.itemOrd) (by simp)]
      rfl
    have e' : PySem.W.rowLt (D.dats (txs (x :: xs))) (D.dats (txs [])) = false := e
    rw [e']; simp
  | x :: xs, y :: ys => by
    have e : PySem.W.rowLt (D.dats (txs (x :: xs))) (D.dats (txs (y :: ys))) = if x = y then PySem.W.rowLt (D.dats (txs xs)) (D.dats (txs ys)) else decide (x < y) := by
      unfold PySem.W.rowLt
      rw [txs_cons, txs_cons, D.dats, D.dats, PySem.W.dataLt_cons (by simp [D.dat, PySem.W.alike]), datLt_str, eqv_str]
      simp only [decide_eq_true_eq]
    rw [e]
    by_cases h : x = y
    · rw [if_pos h, datLt_txs xs ys]
      simp [h, List.cons_lt_cons_iff]
    · rw [if_neg h]
      simp [h, List.cons_lt_cons_iff]
theorem datLt_ad (a b : Ad) : PySem.W.dataLt (adD a).dat (adD b).dat = decide (a < b) := by
  have : (adD a).dat = .tuple (D.dats (txs a)) := rfl
  rw [this, show (adD b).dat = .tuple (D.dats (txs b)) from rfl, PySem.W.dataLt_tuple]
  exact datLt_txs a b
theorem leD2_ad (a b : Ad) : leD2 (adD a) (adD b) = decide (a ≤ b) := by
  unfold leD2
  rw [datLt_ad]
  by_cases h : b < a
  · rw [decide_eq_true h, decide_eq_false (fun r => List.not_lt.mpr r h)]; rfl
  · rw [decide_eq_false h, decide_eq_true (List.not_lt.mp h)]; rfl
theorem leD2_str (a b : List Nat) : leD2 (.str a) (.str b) = decide (a ≤ b) := by
  unfold leD2
  rw [datLt_str]
  by_cases h : b < a
  · rw [decide_eq_true h, decide_eq_false (fun r => List.not_lt.mpr r h)]; rfl
  · rw [decide_eq_false h, decide_eq_true (List.not_lt.mp h)]; rfl
def adLe (a b : Ad) : Bool := decide (a ≤ b)
def txLe (a b : List Nat) : Bool := decide (a ≤ b)
theorem sortD_ad (as : List Ad) : sortD (as.map adD) = (as.mergeSort adLe).map adD := by
  exact (List.map_mergeSort (r := adLe) (s := leD2) (f := adD) (fun a _ b _ => (leD2_ad a b).symm)).symm
theorem sortD_txs (ws : List (List Nat)) : sortD (txs ws) = txs (ws.mergeSort txLe) := by
  exact (List.map_mergeSort (r := txLe) (s := leD2) (f := D.str) (fun a _ b _ => (leD2_str a b).symm)).symm
section lin
variable {β : Type} [LE β] [LT β] [Std.IsLinearOrder β] [Std.LawfulOrderLT β] [DecidableLE β]
theorem le_tr {a b c : β} (h1 : a ≤ b) (h2 : b ≤ c) : a ≤ c := Std.IsPreorder.le_trans a b c h1 h2
theorem le_tot (a b : β) : a ≤ b ∨ b ≤ a := Std.Total.total a b
theorem le_as {a b : β} (h1 : a ≤ b) (h2 : b ≤ a) : a = b := Std.le_antisymm h1 h2
theorem le_rf (a : β) : a ≤ a := by rcases le_tot a a with h | h <;> exact h
/-- sorted by a key -/
def sortBy {α : Type} (f : α → β) (xs : List α) : List α := xs.mergeSort fun x y => decide (f x ≤ f y)
theorem sortBy_perm {α : Type} (f : α → β) (xs : List α) : (sortBy f xs).Perm xs := List.mergeSort_perm _ _
theorem sortBy_mem {α : Type} {f : α → β} {xs : List α} {x : α} : x ∈ sortBy f xs ↔ x ∈ xs := List.mem_mergeSort
theorem sortBy_length {α : Type} {f : α → β} {xs : List α} : (sortBy f xs).length = xs.length := List.length_mergeSort _
theorem sortBy_sorted {α : Type} (f : α → β) (xs : List α) : (sortBy f xs).Pairwise fun x y => f x ≤ f y := by
  have := List.pairwise_mergeSort (le := fun x y => decide (f x ≤ f y)) (fun a b c h1 h2 => by
    simp only [decide_eq_true_eq] at h1 h2 ⊢
    exact le_tr h1 h2) (fun a b => by
    simp only [Bool.or_eq_true, decide_eq_true_eq]
    exact le_tot _ _) xs
  unfold sortBy
  simpa using this
theorem sortBy_map {α γ : Type} (f : α → β) (g : γ → α) (xs : List γ) : sortBy f (xs.map g) = (sortBy (fun z => f (g z)) xs).map g := by
  unfold sortBy
  exact (List.map_mergeSort (r := fun x y => decide (f (g x) ≤ f (g y))) (s := fun x y => decide (f x ≤ f y)) (f := g) (fun a _ b _ => rfl)).symm
/-- lists sorted by unlike keys, of the same members, are the same -/
theorem sorted_ext {α : Type} {f : α → β} {xs ys : List α} (hx : xs.Pairwise fun x y => f x ≤ f y) (hy : ys.Pairwise fun x y => f x ≤ f y) (nx : (xs.map f).Nodup) (ny : (ys.map f).Nodup) (h : ∀ x, x ∈ xs ↔ x ∈ ys) : xs = ys := by
  have ux : xs.Nodup := List.Pairwise.of_map f (fun a b h e => h (congrArg f e)) nx
  have uy : ys.Nodup := List.Pairwise.of_map f (fun a b h e => h (congrArg f e)) ny
  have hp : xs.Perm ys := (List.perm_ext_iff_of_nodup ux uy).mpr h
  refine List.Perm.eq_of_pairwise (le := fun x y => f x ≤ f y) ?_ hx hy hp
  intro a b ha hb h1 h2
  have e : f a = f b := le_as h1 h2
  have hb' : b ∈ xs := (h b).mpr hb
  -- unlike keys
  have key : ∀ {l : List α}, (l.map f).Nodup → a ∈ l → b ∈ l → a = b := by
    intro l
    induction l with
    | nil => intro _ h; simp at h
    | cons x l ih =>
      intro nd ga gb
      rw [List.map_cons, List.nodup_cons] at nd
      rcases List.mem_cons.mp ga with qa | qa
      · rcases List.mem_cons.mp gb with qb | qb
        · rw [qa, qb]
        · exact absurd (by rw [← qa, e]; exact List.mem_map_of_mem qb) nd.1
      · rcases List.mem_cons.mp gb with qb | qb
        · exact absurd (by rw [← qb, ← e]; exact List.mem_map_of_mem qa) nd.1
        · exact ih nd.2 qa qb
  exact key nx ha hb'
end lin
theorem sortBy_ad (as : List Ad) : as.mergeSort adLe = sortBy id as := rfl
theorem sortBy_tx (as : List (List Nat)) : as.mergeSort txLe = sortBy id as := rfl
/-! ### keys -/
theorem dkeys_txs (a : Ad) : dkeys (txs a) = some (a.map fun w => Sum.inr (S w)) := by
  induction a with
  | nil => rfl
  | cons w a ih => simp only [txs_cons, dkeys, dkey, ih, List.map_cons]
theorem sameK_ad {a b : Ad} : sameK (adD a) (adD b) = decide (a = b) := by
  show decide (dkeys (txs a) = dkeys (txs b)) = _
  rw [dkeys_txs, dkeys_txs, decide_eq_decide]
  refine ⟨fun h => ?_, fun h => by rw [h]⟩
  have h := Option.some.inj h
  have key : ∀ a b : Ad, (a.map fun w => (Sum.inr (S w) : Key)) = b.map (fun w => Sum.inr (S w)) → a = b := by
    intro a
    induction a with
    | nil => intro b h; cases b with
      | nil => rfl
      | cons y b => simp at h
    | cons x a ih => intro b h; cases b with
      | nil => simp at h
      | cons y b =>
        simp only [List.map_cons, List.cons.injEq, Sum.inr.injEq] at h
        rw [S_inj h.1, ih b h.2]
  exact key a b h
theorem sameK_str {a b : List Nat} : sameK (.str a) (.str b) = decide (a = b) := rfl
theorem sameK_int {a b : Int} : sameK (.int a) (.int b) = decide (a = b) := rfl
theorem keyAs_ad {a : Ad} (h : a ≠ []) : keyAs true (adD a) = true := keyAs_key (dkeys_txs a) (by cases a with | nil => exact absurd rfl h | cons x y => simp)
end DL


set_option maxRecDepth 100000
namespace DL
open PySem PySem.Spec PyProof.Rows L2

/-! ### led -/
def ledN (R : List (Ad × Ad)) : Nat → Ad → Option Ad
  | 0, _ => none
  | n + 1, a => match onceP R a with
    | none => some a
    | some b => ledN R n b
theorem once_len {R : List (Ad × Ad)} {a b : Ad} (hR : smallR R) (e : onceP R a = some b) : b.length ≤ a.length + 1000 := by
  unfold onceP at e
  obtain ⟨r, hr, rfl⟩ := Option.map_eq_some_iff.mp e
  have hm : r ∈ R := by
    rcases best_mem R none hr with h | h
    · exact h
    · cases h
  have := (hR r hm).2
  rw [List.length_append, List.length_drop]
  omega
theorem led_loop {R : List (Ad × Ad)} {h : AH} (hR : smallR R) : ∀ (xs : List D) (a : Ad) (x2 x3 : Option D), a.length + 1000 * xs.length ≤ 100000 →
    (∃ b, ledN R xs.length a = some b ∧ forL (fun _ => True) (gNm 2) b_led_l1 xs [some (rusD R), some (adD a), x2, x3] h = .rt (adD b) h) ∨
    (ledN R xs.length a = none ∧ ∃ σ', forL (fun _ => True) (gNm 2) b_led_l1 xs [some (rusD R), some (adD a), x2, x3] h = .nx σ' h)
  | [], a, x2, x3, _ => .inr ⟨rfl, _, by rw [forL_nil trivial]⟩
  | x :: xs, a, x2, x3, hl => by
    simp only [List.length_cons] at hl
    have eo := m_onceOf (R := R) (a := a) (h := h) hR (by omega)
    rw [forL_cons (σ' := [some (rusD R), some (adD a), some x, x3]) trivial rfl]
    cases q : onceP R a with
    | none =>
      rw [q] at eo
      refine .inl ⟨a, by simp [ledN, q], ?_⟩
      simp [b_led_l1, eo, oad]
    | some b =>
      rw [q] at eo
      have hb := once_len hR q
      have e3 : isN (adD b) = false := rfl
      have eb : b_led_l1 [some (rusD R), some (adD a), some x, x3] h = .nx [some (rusD R), some (adD b), some x, some (adD b)] h := by
        simp [b_led_l1, eo, oad, e3]
      rw [eb]
      dsimp only
      rw [List.length_cons, show ledN R (xs.length + 1) a = ledN R xs.length b by simp [ledN, q]]
      exact led_loop hR xs b (some x) (some (adD b)) (by omega)
theorem m_ledOf {R : List (Ad × Ad)} {a : Ad} {h : AH} (hR : smallR R) (ha : a.length ≤ 10000) : m_led [rusD R, adD a] h = match ledN R 9 a with
    | some b => .ok (adD b) h
    | none => .exc "TooMany" h := by
  have er : iRg1K [.int 9] h = .ok (iota 0 9) (fun _ => True) h := iRg1K_nat (n := 9) (by decide)
  have hl : (iota 0 9).length = 9 := iota_length
  rcases led_loop (h := h) hR (iota 0 9) a none none (by rw [hl]; omega) with ⟨b, e1, e2⟩ | ⟨e1, σ', e2⟩
  · rw [hl] at e1
    rw [e1]
    refine gc_ok (g := []) ?_ adD_bel
    simp only [runF, b_led]
    simp [er, e2]
  · rw [hl] at e1
    rw [e1]
    refine gc_exc (g := []) ?_
    simp only [runF, b_led]
    simp [er, e2, sRse]
/-! ### the law's once -/
def lsearch (R : List (Ad × Ad)) (a : Ad) : List Nat → Option Ad
  | [] => none
  | m :: ms => match R.find? (fun r => decide (r.1 = a.take m)) with
    | some r => some (r.2 ++ a.drop m)
    | none => lsearch R a ms
def lonceP (R : List (Ad × Ad)) (a : Ad) : Option Ad := lsearch R a (List.range (a.length + 1)).reverse
theorem lonce_in {a : Ad} {m : Nat} {r0 : Option D} {h : AH} (ha : a.length ≤ 100000) : ∀ (R : List (Ad × Ad)) (x3 x4 : Option D), smallR R →
    (∃ r, R.find? (fun r => decide (r.1 = a.take m)) = some r ∧ forL (fun _ => True) (gTp 2 (gsCons (gNm 3) (gsCons (gNm 4) gsNil))) b_law_once_l1 (R.map ruD) [r0, some (adD a), some (.int m), x3, x4] h = .rt (adD (r.2 ++ a.drop m)) h) ∨
    (R.find? (fun r => decide (r.1 = a.take m)) = none ∧ ∃ y3 y4, forL (fun _ => True) (gTp 2 (gsCons (gNm 3) (gsCons (gNm 4) gsNil))) b_law_once_l1 (R.map ruD) [r0, some (adD a), some (.int m), x3, x4] h = .nx [r0, some (adD a), some (.int m), y3, y4] h)
  | [], x3, x4, _ => .inr ⟨rfl, x3, x4, by rw [List.map_nil, forL_nil trivial]⟩
  | r :: R, x3, x4, hR => by
    have hr := hR r (by simp)
    rw [List.map_cons, forL_cons (σ' := [r0, some (adD a), some (.int m), some (adD r.1), some (adD r.2)]) trivial rfl]
    have e1 : ∀ h : AH, eqD false (adD r.1) (adD (a.take m)) h = some (.bl (decide (r.1 = a.take m)), h) := fun h => by
      rw [eqD_ad]; simp
    by_cases hb : r.1 = a.take m
    · refine .inl ⟨r, by simp [hb], ?_⟩
      have e2 := ad_app (a := r.2) (b := a.drop m) (h := h) (by rw [List.length_drop]; omega)
      rw [decide_eq_true hb] at e1
      simp [b_law_once_l1, ad_take, e1, ad_drop, e2]
    · rw [decide_eq_false hb] at e1
      have eb : b_law_once_l1 [r0, some (adD a), some (.int m), some (adD r.1), some (adD r.2)] h = .nx [r0, some (adD a), some (.int m), some (adD r.1), some (adD r.2)] h := by
        simp [b_law_once_l1, ad_take, e1]
      rw [eb]
      dsimp only
      rw [show (r :: R).find? (fun r => decide (r.1 = a.take m)) = R.find? (fun r => decide (r.1 = a.take m)) by simp [hb]]
      exact lonce_in ha R _ _ fun x hx => hR x (List.mem_cons_of_mem _ hx)
theorem lonce_out {R : List (Ad × Ad)} {a : Ad} {h : AH} (hR : smallR R) (ha : a.length ≤ 100000) : ∀ (ms : List Nat) (x2 x3 x4 : Option D),
    (∃ b, lsearch R a ms = some b ∧ forL (fun _ => True) (gNm 2) b_law_once_l2 (ms.map fun m => .int (m : Nat)) [some (rusD R), some (adD a), x2, x3, x4] h = .rt (adD b) h) ∨
    (lsearch R a ms = none ∧ ∃ σ', forL (fun _ => True) (gNm 2) b_law_once_l2 (ms.map fun m => .int (m : Nat)) [some (rusD R), some (adD a), x2, x3, x4] h = .nx σ' h)
  | [], x2, x3, x4 => .inr ⟨rfl, _, by rw [List.map_nil, forL_nil trivial]⟩
  | m :: ms, x2, x3, x4 => by
    rw [List.map_cons, forL_cons (σ' := [some (rusD R), some (adD a), some (.int m), x3, x4]) trivial rfl]
    have ei : iK (rusD R) h = .ok (R.map ruD) (fun _ => True) h := rfl
    rcases lonce_in (m := m) (r0 := some (rusD R)) (h := h) ha R x3 x4 hR with ⟨r, e1, e2⟩ | ⟨e1, y3, y4, e2⟩
    · refine .inl ⟨r.2 ++ a.drop m, by simp [lsearch, e1], ?_⟩
      have eb : b_law_once_l2 [some (rusD R), some (adD a), some (.int m), x3, x4] h = .rt (adD (r.2 ++ a.drop m)) h := by
        simp [b_law_once_l2, ei, e2]
      rw [eb]
    · have eb : b_law_once_l2 [some (rusD R), some (adD a), some (.int m), x3, x4] h = .nx [some (rusD R), some (adD a), some (.int m), y3, y4] h := by
        simp [b_law_once_l2, ei, e2]
      rw [eb]
      dsimp only
      rw [show lsearch R a (m :: ms) = lsearch R a ms by simp [lsearch, e1]]
      exact lonce_out hR ha ms _ _ _
theorem iotaC_down (L : Nat) : iotaC (L : Int) (-1) (L + 1) = ((List.range (L + 1)).reverse).map fun m => D.int (m : Nat) := by
  unfold iotaC
  apply List.ext_getElem
  · simp
  · intro i h1 h2
    simp only [List.length_map, List.length_range] at h1
    simp only [List.getElem_map, List.getElem_range, List.getElem_reverse, List.length_range]
    congr 1
    omega
theorem er_law_once {a : Ad} {h : AH} (ha : a.length ≤ 100000) : iRg3K [.int a.length, .int (-1), .int (-1)] h = .ok (((List.range (a.length + 1)).reverse).map fun m => D.int (m : Nat)) (fun _ => True) h := by
  have key : ∀ L : Nat, L ≤ 100000 → iRg3K [.int L, .int (-1), .int (-1)] h = .ok (iotaC L (-1) (L + 1)) (fun _ => True) h := by
    intro L hL
    have s1 : small62 (L : Int) = true := by simp only [small62, Bool.and_eq_true, decide_eq_true_eq]; omega
    have s2 : small62 (-1) = true := by simp only [small62, Bool.and_eq_true, decide_eq_true_eq]; omega
    have e : iRg3K [.int L, .int (-1), .int (-1)] h = if (small62 (L : Int) && small62 (-1) && decide ((-1 : Int) = -1)) = true then .ok (iotaC L (-1) ((L : Int) - (-1)).toNat) (fun _ => True) h else .bad := rfl
    have e2 : (small62 (L : Int) && small62 (-1) && decide ((-1 : Int) = -1)) = true := by rw [s1, s2]; rfl
    rw [e, if_pos e2, show ((L : Int) - (-1)).toNat = L + 1 by omega]
  rw [key a.length ha, iotaC_down]
theorem lonce_for {R : List (Ad × Ad)} {a : Ad} {h : AH} (ha : a.length ≤ 100000) (r : RS) (items : List D) (er : iRg3K [.int a.length, .int (-1), .int (-1)] h = .ok items (fun _ => True) h) (e : forL (fun _ => True) (gNm 2) b_law_once_l2 items [some (rusD R), some (adD a), none, none, none] h = r) :
    sFor (DL.iRng3 (dCons (dCallB lenL (dCons (dVar 1) dNil)) (dCons (dUn negD (dC (.int 1))) (dCons (dUn negD (dC (.int 1))) dNil)))) (gNm 2) b_law_once_l2 [some (rusD R), some (adD a), none, none, none] h = r := by
  have e1 : (dCons (dCallB lenL (dCons (dVar 1) dNil)) (dCons (dUn negD (dC (.int 1))) (dCons (dUn negD (dC (.int 1))) dNil))) [some (rusD R), some (adD a), none, none, none] h = .ok [.int a.length, .int (-1), .int (-1)] h := by
    simp only [dCons_eq, dCallB_eq, dVar_at (show ([some (rusD R), some (adD a), none, none, none] : Lc)[1]? = some (some (adD a)) from rfl), DL.R.bindA_ok, dNil_eq, RA.bindA_ok, RA.bind_ok, lenL_ad, ofO_some, dUn_eq, dC_eq, DL.R.bind_ok, negD_i]
  rw [sFor_eq, iRng3_eq, e1, RA.bindI_ok, er]
  exact e
theorem m_law_onceOf {R : List (Ad × Ad)} {a : Ad} {h : AH} (hR : smallR R) (ha : a.length ≤ 100000) : m_law_once [rusD R, adD a] h = .ok (oad (lonceP R a)) h := by
  have h0 : ∀ r : RS, b_law_once [some (rusD R), some (adD a), none, none, none] h = r.bind (sRet (dC .non)) → runF 5 2 b_law_once [rusD R, adD a] h = match r.bind (sRet (dC .non)) with
    | .nx _ h' => .ok .non h'
    | .rt d h' => .ok d h'
    | .exc x _ h' => .exc x h'
    | _ => .bad := fun r e => by
    have hl : ([rusD R, adD a].map some ++ List.replicate (5 - 2) none : Lc) = [some (rusD R), some (adD a), none, none, none] := rfl
    unfold runF
    rw [if_pos (by rfl), hl, e]
    try rfl
  rcases lonce_out (h := h) hR ha (List.range (a.length + 1)).reverse none none none with ⟨b, e1, e2⟩ | ⟨e1, σ', e2⟩
  · have e3 := lonce_for ha _ _ (er_law_once (h := h) ha) e2
    refine gc_ok (g := []) ?_ (by rw [show lonceP R a = some b from e1]; exact adD_bel)
    rw [show lonceP R a = some b from e1, h0 (.rt (adD b) h) (by rw [b_law_once, sSeq_eq, e3]), List.append_nil]
    rfl
  · have e3 := lonce_for ha _ _ (er_law_once (h := h) ha) e2
    refine gc_ok (g := []) ?_ (by rw [show lonceP R a = none from e1]; rfl)
    rw [show lonceP R a = none from e1, h0 (.nx σ' h) (by rw [b_law_once, sSeq_eq, e3]), List.append_nil]
    rfl
end DL


set_option maxRecDepth 100000
namespace DL
open PySem PySem.Spec PyProof.Rows L2

/-! ### the longest beginning -/
def BInv (a : Ad) (P : List (Ad × Ad)) : Option (Ad × Ad) → Prop
  | none => ∀ x ∈ P, begins x.1 a = false
  | some r => ∃ pre suf, P = pre ++ r :: suf ∧ begins r.1 a = true ∧ (∀ x ∈ pre, begins x.1 a = true → x.1.length < r.1.length) ∧ (∀ x ∈ suf, begins x.1 a = true → x.1.length ≤ r.1.length)
theorem binv_step {a : Ad} {P : List (Ad × Ad)} {o : Option (Ad × Ad)} {r : Ad × Ad} (h : BInv a P o) : BInv a (P ++ [r]) (better a o r) := by
  cases o with
  | none =>
    rw [show better a none r = if begins r.1 a = true then some r else none from rfl]
    by_cases hb : begins r.1 a = true
    · rw [if_pos hb]
      exact ⟨P, [], rfl, hb, (fun x hx hb' => by rw [h x hx] at hb'; cases hb'), (fun x hx => by simp at hx)⟩
    · rw [if_neg hb]
      intro x hx
      rcases List.mem_append.mp hx with hx | hx
      · exact h x hx
      · rw [List.mem_singleton] at hx
        rw [hx]
        simpa using hb
  | some q =>
    obtain ⟨pre, suf, rfl, hq, h1, h2⟩ := h
    rw [show better a (some q) r = if begins r.1 a = true ∧ q.1.length < r.1.length then some r else some q from rfl]
    by_cases hb : begins r.1 a = true ∧ q.1.length < r.1.length
    · rw [if_pos hb]
      refine ⟨pre ++ q :: suf, [], rfl, hb.1, fun x hx hb' => ?_, by simp⟩
      rcases List.mem_append.mp hx with hx | hx
      · have := h1 x hx hb'; omega
      · rcases List.mem_cons.mp hx with rfl | hx
        · exact hb.2
        · have := h2 x hx hb'; omega
    · rw [if_neg hb]
      refine ⟨pre, suf ++ [r], by simp, hq, h1, fun x hx hb' => ?_⟩
      rcases List.mem_append.mp hx with hx | hx
      · exact h2 x hx hb'
      · rw [List.mem_singleton] at hx
        subst hx
        rcases Nat.lt_or_ge q.1.length x.1.length with h | h
        · exact absurd ⟨hb', h⟩ hb
        · exact h
theorem binv_fold {a : Ad} : ∀ (R P : List (Ad × Ad)) (o : Option (Ad × Ad)), BInv a P o → BInv a (P ++ R) (R.foldl (better a) o)
  | [], P, o, h => by rw [List.append_nil]; exact h
  | r :: R, P, o, h => by
    have := binv_fold R (P ++ [r]) (better a o r) (binv_step h)
    rw [List.append_assoc] at this
    exact this
theorem best_inv (R : List (Ad × Ad)) (a : Ad) : BInv a R (best R a) := binv_fold R [] none (by intro x hx; simp at hx)
theorem begins_iff {b a : Ad} : begins b a = true ↔ b.length ≤ a.length ∧ b = a.take b.length := by
  unfold begins
  rw [decide_eq_true_iff]
  refine ⟨fun e => ⟨?_, e.symm⟩, fun e => e.2.symm⟩
  have := congrArg List.length e
  rw [List.length_take] at this
  omega
/-- the search from the whole address down, by its steps -/
theorem lsearch_none {R : List (Ad × Ad)} {a : Ad} : ∀ {ms : List Nat}, (∀ m ∈ ms, ∀ r ∈ R, r.1 ≠ a.take m) → lsearch R a ms = none
  | [], _ => rfl
  | m :: ms, h => by
    have : R.find? (fun r => decide (r.1 = a.take m)) = none := by
      rw [List.find?_eq_none]
      intro r hr
      simpa using h m (by simp) r hr
    simp only [lsearch, this]
    exact lsearch_none fun k hk => h k (List.mem_cons_of_mem _ hk)
theorem lsearch_at {R : List (Ad × Ad)} {a : Ad} {m : Nat} {r : Ad × Ad} {post : List Nat} (hf : R.find? (fun r => decide (r.1 = a.take m)) = some r) : ∀ {pre : List Nat}, (∀ k ∈ pre, ∀ r ∈ R, r.1 ≠ a.take k) → lsearch R a (pre ++ m :: post) = some (r.2 ++ a.drop m)
  | [], _ => by simp [lsearch, hf]
  | k :: pre, h => by
    have : R.find? (fun r => decide (r.1 = a.take k)) = none := by
      rw [List.find?_eq_none]
      intro r hr
      simpa using h k (by simp) r hr
    simp only [List.cons_append, lsearch, this]
    exact lsearch_at hf fun j hj => h j (List.mem_cons_of_mem _ hj)
theorem down_split {L m : Nat} (h : m ≤ L) : ∃ pre post, (List.range (L + 1)).reverse = pre ++ m :: post ∧ ∀ k ∈ pre, m < k ∧ k ≤ L := by
  refine ⟨((List.range (L + 1)).drop (m + 1)).reverse, ((List.range (L + 1)).take m).reverse, ?_, ?_⟩
  · have e : List.range (L + 1) = (List.range (L + 1)).take m ++ m :: (List.range (L + 1)).drop (m + 1) := by
      conv => lhs; rw [← List.take_append_drop m (List.range (L + 1)), List.drop_eq_getElem_cons (by simp; omega)]
      simp
    conv => lhs; rw [e]
    simp
  · intro k hk
    rw [List.mem_reverse] at hk
    obtain ⟨i, hi, e⟩ := List.mem_iff_getElem.mp hk
    rw [List.getElem_drop, List.getElem_range] at e
    rw [List.length_drop, List.length_range] at hi
    omega
theorem lonce_eq (R : List (Ad × Ad)) (a : Ad) : lonceP R a = onceP R a := by
  have hi := best_inv R a
  unfold onceP lonceP
  cases q : best R a with
  | none =>
    rw [q] at hi
    refine lsearch_none fun m hm r hr e => ?_
    have := hi r hr
    have hb : begins r.1 a = true := begins_iff.mpr ⟨by rw [e, List.length_take]; omega, by
      conv => lhs; rw [e]
      rw [e, List.length_take]
      rw [← List.take_eq_take_min]⟩
    rw [this] at hb
    cases hb
  | some r =>
    rw [q] at hi
    obtain ⟨pre, suf, rfl, hb, h1, h2⟩ := hi
    obtain ⟨hl, he⟩ := begins_iff.mp hb
    obtain ⟨p, s, e, hp⟩ := down_split hl
    rw [e]
    have hall : ∀ x ∈ pre ++ r :: suf, begins x.1 a = true → x.1.length ≤ r.1.length := by
      intro x hx hb'
      rcases List.mem_append.mp hx with hx | hx
      · exact Nat.le_of_lt (h1 x hx hb')
      · rcases List.mem_cons.mp hx with rfl | hx
        · exact Nat.le_refl _
        · exact h2 x hx hb'
    refine lsearch_at ?_ fun k hk x hx ex => ?_
    · rw [List.find?_append]
      have hn : pre.find? (fun x => decide (x.1 = a.take r.1.length)) = none := by
        rw [List.find?_eq_none]
        intro x hx
        simp only [decide_eq_true_eq]
        intro ex
        rw [← he] at ex
        have := h1 x hx (by rw [ex]; exact hb)
        rw [ex] at this
        omega
      rw [hn, List.find?_cons_of_pos (by simpa using he)]
      rfl
    · have hk2 := hp k hk
      have hxl : x.1.length = k := by rw [ex, List.length_take]; omega
      have := hall x hx (begins_iff.mpr ⟨by omega, by rw [hxl]; exact ex⟩)
      omega
end DL


set_option maxRecDepth 100000
namespace DL
open PySem PySem.Spec PyProof.Rows L2

/-! ### needless rules -/
def rest (R : List (Ad × Ad)) (b : Ad) : List (Ad × Ad) := R.filter fun x => decide (x.1 ≠ b)
theorem find_rest {R : List (Ad × Ad)} {b c : Ad} (h : c ≠ b) : (rest R b).find? (fun r => decide (r.1 = c)) = R.find? (fun r => decide (r.1 = c)) := by
  unfold rest
  rw [List.find?_filter]
  congr 1
  funext x
  by_cases e : x.1 = c
  · simp [e, h]
  · simp [e]
theorem lsearch_rest {R : List (Ad × Ad)} {a b : Ad} : ∀ {ms : List Nat}, (∀ m ∈ ms, a.take m ≠ b) → lsearch (rest R b) a ms = lsearch R a ms
  | [], _ => rfl
  | m :: ms, h => by
    simp only [lsearch, find_rest (h m (by simp)), lsearch_rest (ms := ms) fun k hk => h k (List.mem_cons_of_mem _ hk)]
theorem lsearch_app {R : List (Ad × Ad)} {a : Ad} : ∀ {ms ks : List Nat}, lsearch R a (ms ++ ks) = match lsearch R a ms with
    | some x => some x
    | none => lsearch R a ks
  | [], ks => rfl
  | m :: ms, ks => by
    simp only [List.cons_append, lsearch]
    cases R.find? (fun r => decide (r.1 = a.take m)) with
    | some r => rfl
    | none => exact lsearch_app
theorem lsearch_longer {R : List (Ad × Ad)} {b t : Ad} : ∀ {ms : List Nat}, (∀ m ∈ ms, m ≤ b.length) → lsearch R (b ++ t) ms = (lsearch R b ms).map (· ++ t)
  | [], _ => rfl
  | m :: ms, h => by
    have hm := h m (by simp)
    simp only [lsearch, List.take_append_of_le_length hm, List.drop_append_of_le_length hm]
    cases R.find? (fun r => decide (r.1 = b.take m)) with
    | some r => simp
    | none => exact lsearch_longer fun k hk => h k (List.mem_cons_of_mem _ hk)
theorem find_none_rest {R : List (Ad × Ad)} {b : Ad} : (rest R b).find? (fun r => decide (r.1 = b)) = none := by
  rw [List.find?_eq_none]
  intro r hr
  unfold rest at hr
  rw [List.mem_filter] at hr
  simpa using hr.2
theorem down_split2 {L m : Nat} (h : m ≤ L) : ∃ pre, (List.range (L + 1)).reverse = pre ++ m :: (List.range m).reverse ∧ ∀ k ∈ pre, m < k ∧ k ≤ L := by
  refine ⟨((List.range (L + 1)).drop (m + 1)).reverse, ?_, ?_⟩
  · have e : List.range (L + 1) = (List.range (L + 1)).take m ++ m :: (List.range (L + 1)).drop (m + 1) := by
      conv => lhs; rw [← List.take_append_drop m (List.range (L + 1)), List.drop_eq_getElem_cons (by simp; omega)]
      simp
    conv => lhs; rw [e]
    rw [List.take_range, Nat.min_eq_left (by omega)]
    simp
  · intro k hk
    rw [List.mem_reverse] at hk
    obtain ⟨i, hi, e⟩ := List.mem_iff_getElem.mp hk
    rw [List.getElem_drop, List.getElem_range] at e
    rw [List.length_drop, List.length_range] at hi
    omega
/-- without a rule that needs not be, each address leads the same -/
theorem needless_same {R : List (Ad × Ad)} {b g a : Ad} (hf : R.find? (fun r => decide (r.1 = b)) = some (b, g)) (hn : onceP (rest R b) b = some g) : onceP (rest R b) a = onceP R a := by
  rw [← lonce_eq, ← lonce_eq]
  rw [← lonce_eq] at hn
  unfold lonceP at hn ⊢
  by_cases hl : b.length ≤ a.length
  · obtain ⟨pre, e, hp⟩ := down_split2 hl
    rw [e, lsearch_app, lsearch_app, lsearch_rest (ms := pre) fun m hm em => by
      have := hp m hm
      have := congrArg List.length em
      rw [List.length_take] at this
      omega]
    cases lsearch R a pre with
    | some x => rfl
    | none =>
      dsimp only
      by_cases hb : a.take b.length = b
      · obtain ⟨t, ht⟩ : ∃ t, a = b ++ t := ⟨a.drop b.length, by conv => lhs; rw [← List.take_append_drop b.length a, hb]⟩
        have h1 : lsearch R a (b.length :: (List.range b.length).reverse) = some (g ++ t) := by
          simp only [lsearch, hb, hf]
          rw [ht]
          simp
        rw [h1, ht, lsearch_longer (by
          intro m hm
          rcases List.mem_cons.mp hm with rfl | hm
          · exact Nat.le_refl _
          · rw [List.mem_reverse, List.mem_range] at hm; omega)]
        have h2 : (List.range (b.length + 1)).reverse = b.length :: (List.range b.length).reverse := by
          rw [List.range_succ, List.reverse_append]; rfl
        rw [h2] at hn
        rw [hn]
        rfl
      · refine lsearch_rest fun m hm em => ?_
        rcases List.mem_cons.mp hm with rfl | hm
        · exact hb em
        · rw [List.mem_reverse, List.mem_range] at hm
          have := congrArg List.length em
          rw [List.length_take] at this
          omega
  · refine lsearch_rest fun m _ em => ?_
    have := congrArg List.length em
    rw [List.length_take] at this
    omega
end DL


set_option maxRecDepth 100000
namespace DL
open PySem PySem.Spec PyProof.Rows L2

/-! ### collecting loops -/
/-- for x in xs: .. found.append(f x) where p x -/
theorem forL_collect {α : Type} {gf : GF} {body : SS} {h : AH} (ι : α → D) (f : α → D) (p : α → Bool) (I : Lc → Prop) : ∀ (xs : List α) (acc : List D) (j : AH) (σ : Lc), I σ → acc.length + xs.length ≤ 100000 →
    (∀ x ∈ xs, ∀ σ acc j, I σ → acc.length < 100000 → ∃ σ' σ2 j2, gf (ι x) σ (h ++ .lst acc :: j) = some σ' ∧ (body σ' (h ++ .lst acc :: j) = .nx σ2 (h ++ .lst (if p x = true then acc ++ [f x] else acc) :: j2)) ∧ I σ2) →
    ∃ σ' j', forL (fun _ => True) gf body (xs.map ι) σ (h ++ .lst acc :: j) = .nx σ' (h ++ .lst (acc ++ (xs.filter p).map f) :: j') ∧ I σ'
  | [], acc, j, σ, i, _, _ => ⟨σ, j, by rw [List.map_nil, forL_nil trivial]; simp, i⟩
  | x :: xs, acc, j, σ, i, hl, hb => by
    rw [List.length_cons] at hl
    obtain ⟨σ', σ2, j2, e1, e2, i2⟩ := hb x (by simp) σ acc j i (by omega)
    rw [List.map_cons, forL_cons trivial e1, e2]
    dsimp only
    have hlen : (if p x = true then acc ++ [f x] else acc).length + xs.length ≤ 100000 := by
      have : (if p x = true then acc ++ [f x] else acc).length ≤ acc.length + 1 := by split <;> simp
      omega
    obtain ⟨σ3, j3, e3, i3⟩ := forL_collect (gf := gf) (body := body) (h := h) ι f p I xs (if p x = true then acc ++ [f x] else acc) j2 σ2 i2 hlen fun y hy => hb y (List.mem_cons_of_mem _ hy)
    refine ⟨σ3, j3, ?_, i3⟩
    rw [e3]
    by_cases hp : p x = true
    · rw [if_pos hp, List.filter_cons_of_pos hp]; simp
    · rw [if_neg hp, List.filter_cons_of_neg hp]
/-! ### the rules but one -/
theorem smallR_rest {R : List (Ad × Ad)} {b : Ad} (h : smallR R) : smallR (rest R b) := fun r hr => h r (List.mem_filter.mp hr).1
theorem ruD_ix0 {r : Ad × Ad} {h : AH} : ixD (ruD r) (.int 0) h = some (adD r.1, h) := ixD_tup atI_get0
theorem iK_rus {R : List (Ad × Ad)} {h : AH} : iK (rusD R) h = .ok (R.map ruD) (fun _ => True) h := rfl
theorem rest_comp {R : List (Ad × Ad)} {b : Ad} {i j k : Nat} {σ : Lc} {h : AH} (hR : R.length ≤ 10000) (e1 : σ[i]? = some (some (rusD R))) (e2 : σ[j]? = some (some (adD b))) (hk : k < σ.length) (hjk : j ≠ k) :
    dComp (iSeq (dVar i)) (gNm k) (isB (dBin (eqD true) (dBin ixD (dVar k) (dC (.int 0))) (dVar j))) (dVar k) [k] σ h = .ok (.ref h.length) (h ++ [.lst ((rest R b).map ruD)]) := by
  refine dComp_A R ruD (gd := fun _ => True) (h1 := h) (by rw [iSeq_eq, dVar_at e1, DL.R.bindI_ok, iK_rus]) (fun x => decide (x.1 ≠ b)) ruD (fun _ => trivial) (by omega) ?_
  intro x _ acc
  refine ⟨_, rfl, ?_, fun _ => ?_⟩
  · have h1 : ((wipeD σ [k]).set k (some (ruD x)))[k]? = some (some (ruD x)) := by
      rw [List.getElem?_set_self]; simp only [wipeD_cons, wipeD_nil, List.length_set]; exact hk
    have h2 : ((wipeD σ [k]).set k (some (ruD x)))[j]? = some (some (adD b)) := by
      rw [List.getElem?_set_ne (Ne.symm hjk)]; simp only [wipeD_cons, wipeD_nil]; rw [List.getElem?_set_ne (Ne.symm hjk)]; exact e2
    simp only [isB_eq', dBin_eq, dVar_at h1, dVar_at h2, DL.R.bind_ok, dC_eq, ruD_ix0, ofO_some, eqD_ad, DL.R.bindT_ok, isBk_bl]
    congr 1
    by_cases e : x.1 = b <;> simp [e]
  · have h1 : ((wipeD σ [k]).set k (some (ruD x)))[k]? = some (some (ruD x)) := by
      rw [List.getElem?_set_self]; simp only [wipeD_cons, wipeD_nil, List.length_set]; exact hk
    exact dVar_at h1
theorem tupleL_rest {S : List (Ad × Ad)} {h : AH} : tupleL [.ref h.length] (h ++ [.lst (S.map ruD)]) = some (rusD S, h ++ [.lst (S.map ruD)]) := tupleL_lst (by simp)
def needy (R : List (Ad × Ad)) (r : Ad × Ad) : Bool := decide (onceP (rest R r.1) r.1 = some r.2)
def needP (R : List (Ad × Ad)) : List Ad := (R.filter (needy R)).map (·.1)
theorem oad_inj {a b : Option Ad} : oad a = oad b ↔ a = b := by
  cases a <;> cases b <;> simp [oad, adD_inj] <;> (intro e; unfold adD at e; cases e)
theorem oad_okN {n : Nat} {a : Option Ad} : okN (n + 1) (oad a) = true := by
  cases a with
  | none => rfl
  | some a => exact adD_okN
theorem eqD_oad {neg : Bool} {a : Option Ad} {b : Ad} {h : AH} : eqD neg (oad a) (adD b) h = some (.bl (xor neg (decide (a = some b))), h) := by
  have e : decide (oad a = adD b) = decide (a = some b) := decide_eq_decide.mpr (oad_inj (b := some b))
  rw [eqD_okN 1 (by omega) oad_okN adD_okN, e]
theorem needless_loop {R : List (Ad × Ad)} {h : AH} (hR : smallR R) (hl : R.length ≤ 1000) {x2 x3 x4 x5 : Option D} : ∃ σ' j', forL (fun _ => True) (gTp 2 (gsCons (gNm 2) (gsCons (gNm 3) gsNil))) b_needless_l1 (R.map ruD) [some (rusD R), some (.ref h.length), x2, x3, x4, x5] (h ++ [.lst []]) = .nx σ' (h ++ .lst ((needP R).map adD) :: j') ∧ ∃ y2 y3 y4 y5, σ' = [some (rusD R), some (.ref h.length), y2, y3, y4, y5] := by
  have := forL_collect (gf := gTp 2 (gsCons (gNm 2) (gsCons (gNm 3) gsNil))) (body := b_needless_l1) (h := h) ruD (fun r => adD r.1) (needy R) (fun σ' => ∃ y2 y3 y4 y5, σ' = [some (rusD R), some (.ref h.length), y2, y3, y4, y5]) R [] [] [some (rusD R), some (.ref h.length), x2, x3, x4, x5] ⟨_, _, _, _, rfl⟩ (by simp; omega) ?_
  · obtain ⟨σ', j', e, i⟩ := this
    refine ⟨σ', j', ?_, i⟩
    rw [e]
    simp [needP]
  · rintro r hr σ acc j ⟨y2, y3, y4, y5, rfl⟩ ha
    have hs := hR r hr
    have ec : b_needless_c1 [some (rusD R), some (.ref h.length), some (adD r.1), some (adD r.2), y4, y5] (h ++ .lst acc :: j) = _ := rest_comp (R := R) (b := r.1) (i := 0) (j := 2) (k := 5) (by omega) rfl rfl (by simp) (by decide)
    have et := tupleL_rest (S := rest R r.1) (h := h ++ .lst acc :: j)
    generalize hh2 : h ++ .lst acc :: j ++ [O.lst ((rest R r.1).map ruD)] = h2 at ec et
    generalize (h ++ .lst acc :: j).length = m at ec et
    have eo := m_onceOf (R := rest R r.1) (a := r.1) (h := h2) (smallR_rest hR) (by omega)
    have eq : eqD false (oad (onceP (rest R r.1) r.1)) (adD r.2) h2 = some (.bl (needy R r), h2) := by rw [eqD_oad]; simp [needy]
    have hg : h2[h.length]? = some (.lst acc) := by rw [← hh2]; simp
    have es : h2.set h.length (.lst (acc ++ [adD r.1])) = h ++ .lst (acc ++ [adD r.1]) :: (j ++ [O.lst ((rest R r.1).map ruD)]) := by rw [← hh2]; simp
    by_cases hn : needy R r = true
    · refine ⟨_, [some (rusD R), some (.ref h.length), some (adD r.1), some (adD r.2), some (rusD (rest R r.1)), y5], j ++ [O.lst ((rest R r.1).map ruD)], rfl, ?_, ⟨_, _, _, _, rfl⟩⟩
      rw [hn] at eq
      rw [if_pos hn]
      simp [b_needless_l1, ec, et, eo, eq, gLst_lst hg, mAppend_at hg (by omega), es]
    · refine ⟨_, [some (rusD R), some (.ref h.length), some (adD r.1), some (adD r.2), some (rusD (rest R r.1)), y5], j ++ [O.lst ((rest R r.1).map ruD)], rfl, ?_, ⟨_, _, _, _, rfl⟩⟩
      rw [Bool.not_eq_true] at hn
      rw [hn] at eq
      rw [hn]
      simp only [if_neg Bool.false_ne_true]
      have hend : h ++ .lst acc :: (j ++ [O.lst ((rest R r.1).map ruD)]) = h2 := by rw [← hh2]; simp
      rw [hend]
      simp [b_needless_l1, ec, et, eo, eq]
/-! ### sorting addresses -/
theorem txs_alike : ∀ (a b : List (List Nat)), PySem.W.alikeAll (D.dats (txs a)) (D.dats (txs b)) = true
  | [], _ => by simp [D.dats, PySem.W.alikeAll]
  | _ :: _, [] => by simp [D.dats, PySem.W.alikeAll]
  | x :: a, y :: b => by simp only [txs_cons, D.dats, D.dat, PySem.W.alikeAll, PySem.W.alike, txs_alike a b, Bool.and_self]
theorem dats_mem {ds : List D} {p : PyData} (h : p ∈ D.dats ds) : ∃ d ∈ ds, p = d.dat := by
  rw [dats_map] at h
  obtain ⟨d, h1, h2⟩ := List.mem_map.mp h
  exact ⟨d, h1, h2.symm⟩
theorem okSort_ads {as : List Ad} (h : ∀ a ∈ as, a ≠ []) (hl : as.length ≤ 10000) : okSort (as.map adD) = true := by
  unfold okSort
  have hm : ∀ p ∈ D.dats (as.map adD), ∃ a ∈ as, p = .tuple (D.dats (txs a)) := by
    intro p hp
    obtain ⟨d, hd, rfl⟩ := dats_mem hp
    obtain ⟨a, ha, rfl⟩ := List.mem_map.mp hd
    exact ⟨a, ha, rfl⟩
  have hk : ∀ d ∈ as.map adD, okN 1 d = true := by
    intro d hd
    obtain ⟨a, ha, rfl⟩ := List.mem_map.mp hd
    exact adD_okN
  simp only [Bool.and_eq_true, Bool.or_eq_true, decide_eq_true_eq, List.all_eq_true]
  refine ⟨⟨⟨⟨?_, .inl ?_⟩, okNs_plain hk⟩, Nat.le_trans (okNs_depth hk) (by omega)⟩, by simp; omega⟩
  · intro p hp q hq
    obtain ⟨a, _, rfl⟩ := hm p hp
    obtain ⟨b, _, rfl⟩ := hm q hq
    exact txs_alike a b
  · intro p hp
    obtain ⟨a, ha, rfl⟩ := hm p hp
    have := h a ha
    cases a with
    | nil => exact absurd rfl this
    | cons x r => rfl
theorem needP_ne {R : List (Ad × Ad)} : ∀ a ∈ needP R, a ≠ [] := by
  intro a ha e
  subst e
  obtain ⟨r, hr, er⟩ := List.mem_map.mp ha
  have hn := (List.mem_filter.mp hr).2
  unfold needy at hn
  rw [decide_eq_true_iff, er, ← lonce_eq] at hn
  have : lonceP (rest R []) [] = none := by
    refine lsearch_none fun m _ r hr e => ?_
    have := (List.mem_filter.mp hr).2
    rw [List.take_nil] at e
    simp [e] at this
  rw [this] at hn
  cases hn
theorem sortedL_at {n : Nat} {ds : List D} {h : AH} (e : h[n]? = some (.lst ds)) (ok : okSort ds = true) : sortedL [.ref n] h = some (.ref h.length, h ++ [.lst (sortD ds)]) := by
  simp [sortedL, e, ok]
theorem sortD_mem {ds : List D} {d : D} : d ∈ sortD ds ↔ d ∈ ds := List.mem_mergeSort
theorem sortD_length {ds : List D} : (sortD ds).length = ds.length := List.length_mergeSort _
theorem bels_of {n : Nat} {ds : List D} (h : ∀ d ∈ ds, d.bel n = true) : D.bels n ds = true := by
  induction ds with
  | nil => rfl
  | cons d ds ih => simp only [D.bels, Bool.and_eq_true]; exact ⟨h d (by simp), ih fun x hx => h x (by simp [hx])⟩
theorem sort_ads_bel {n : Nat} {as : List Ad} : (D.tup (sortD (as.map adD))).bel n = true := by
  show D.bels n _ = true
  refine bels_of fun d hd => ?_
  rw [sortD_mem] at hd
  obtain ⟨a, _, rfl⟩ := List.mem_map.mp hd
  exact adD_bel
theorem needP_length {R : List (Ad × Ad)} : (needP R).length ≤ R.length := by
  unfold needP
  rw [List.length_map]
  exact List.length_filter_le _ _
theorem m_needlessOf {R : List (Ad × Ad)} {h : AH} (hR : smallR R) (hl : R.length ≤ 1000) : m_needless [rusD R] h = .ok (.tup (sortD ((needP R).map adD))) h := by
  obtain ⟨σ', j', e, y2, y3, y4, y5, rfl⟩ := needless_loop (R := R) (h := h) hR hl (x2 := none) (x3 := none) (x4 := none) (x5 := none)
  have es := sortedL_at (h := h ++ .lst ((needP R).map adD) :: j') (n := h.length) (ds := (needP R).map adD) (by simp) (okSort_ads needP_ne (by have := needP_length (R := R); omega))
  generalize hh : h ++ .lst ((needP R).map adD) :: j' = h2 at e es
  have et : tupleL [.ref h2.length] (h2 ++ [.lst (sortD ((needP R).map adD))]) = some (.tup (sortD ((needP R).map adD)), h2 ++ [.lst (sortD ((needP R).map adD))]) := tupleL_lst (by simp)
  refine gc_ok (g := (.lst ((needP R).map adD) :: j') ++ [.lst (sortD ((needP R).map adD))]) ?_ sort_ads_bel
  rw [← List.append_assoc, hh]
  simp [runF, b_needless, iK_rus, e, es, et]
end DL


set_option maxRecDepth 100000
namespace DL
open PySem PySem.Spec PyProof.Rows L2

/-! ### drawn addresses -/
def one (w : List Nat) : Prop := w.length = 1
theorem ds_txs {P : List Nat → Prop} : ∀ {ds : List D}, (∀ d ∈ ds, ∃ w, d = .str w ∧ P w) → ∃ ws, ds = txs ws ∧ ∀ w ∈ ws, P w
  | [], _ => ⟨[], rfl, by simp⟩
  | d :: ds, h => by
    obtain ⟨w, rfl, hw⟩ := h d (by simp)
    obtain ⟨ws, rfl, h2⟩ := ds_txs (ds := ds) fun x hx => h x (by simp [hx])
    exact ⟨w :: ws, rfl, fun x hx => by
      rcases List.mem_cons.mp hx with rfl | hx
      · exact hw
      · exact h2 x hx⟩
theorem drawAd {ns : List Int} {k : Nat} {g : AH} {σ : Lc} {s : Nat} {n : Nat} {L : SA} {ls : List (List Nat)} (hL : ∀ σ h, L σ h = .ok (txs ls) h) (hl : ls ≠ []) (hl2 : ls.length ≤ 1000) (h1 : ∀ w ∈ ls, one w) (hn : 0 < n) (hn2 : n ≤ 100) (hk : k ≤ 800000) (e0 : σ[0]? = some (some (.ref 0))) (e1 : σ[1]? = some (some (.ref 1))) (hs : 2 ≤ s) :
    ∃ ws k' j' m, dComp (iRng1 (dCons (dCall m_law_draw (dCons (dVar 0) (dCons (dVar 1) (dCons (dC (.int n)) dNil)))) dNil)) (gNm s) bYes (dCall m_law_pick (dCons (dVar 0) (dCons (dVar 1) (dCons (dLst L) dNil)))) [s] σ (W ns k g) = .ok (.ref m) (W ns k' (g ++ j')) ∧ (W ns k' (g ++ j'))[m]? = some (.lst (txs ws)) ∧ ws.length < n ∧ k' ≤ k + n ∧ ∀ w ∈ ws, one w := by
  obtain ⟨v, v0, v1, ev⟩ := draw_W (ns := ns) (k := k) (g := g) (m := n) (by omega) (by omega)
  have er := iRg1K_int (n := v) (h := W ns (k + 1) g) v0 (by omega)
  have hil : (iota 0 v.toNat).length = v.toNat := iota_length
  obtain ⟨ds, k', j', e, hdl, hP, hk'⟩ := dComp_W (ns := ns) (g := g) (k := k + 1) (σ := σ) (h := W ns k g) (vs := [s]) (gf := gNm s) (fe := dCall m_law_pick (dCons (dVar 0) (dCons (dVar 1) (dCons (dLst L) dNil)))) (fi := iRng1 (dCons (dCall m_law_draw (dCons (dVar 0) (dCons (dVar 1) (dCons (dC (.int n)) dNil)))) dNil)) 1 (fun d => ∃ w, d = .str w ∧ one w) (items := iota 0 v.toNat) (gd := fun _ => True)
    (by simp [dVar_at e0, dVar_at e1, ev, er]) (fun _ _ => trivial) (by omega) (by omega) (by
      intro d hd acc k j hk
      have f0 : ((wipeD σ [s]).set s (some d))[0]? = some (some (.ref 0)) := by
        rw [List.getElem?_set_ne (by omega), wipeD_cons, wipeD_nil, List.getElem?_set_ne (by omega)]; exact e0
      have f1 : ((wipeD σ [s]).set s (some d))[1]? = some (some (.ref 1)) := by
        rw [List.getElem?_set_ne (by omega), wipeD_cons, wipeD_nil, List.getElem?_set_ne (by omega)]; exact e1
      obtain ⟨v, hv, ep⟩ := pick_W (ns := ns) (k := k) (g := (g ++ .lst acc :: j) ++ [.lst (txs ls)]) (n := (g ++ .lst acc :: j).length) (ds := txs ls) (by omega) (by simp) (by cases ls with | nil => exact absurd rfl hl | cons a b => simp) (fun d hd => by
        obtain ⟨w, _, rfl⟩ := List.mem_map.mp hd
        rfl)
      obtain ⟨w, hw, rfl⟩ := List.mem_map.mp hv
      refine ⟨_, .str w, k + 1, j ++ [.lst (txs ls)], rfl, ⟨w, rfl, h1 w hw⟩, by omega, ?_⟩
      have hlt : (txs ls).length ≤ 16777216 := by rw [txs_length]; omega
      simp only [dCall_eq, dCons_eq, dVar_at f0, dVar_at f1, DL.R.bindA_ok, dLst_eq, hL, RA.bind_ok, if_pos hlt, W_len, W_app, dNil_eq, RA.bindA_ok]
      rw [ep]
      simp)
  obtain ⟨ws, rfl, hw⟩ := ds_txs hP
  refine ⟨ws, k', .lst (txs ws) :: j', g.length + 2, e, W_new 0, ?_, by omega, hw⟩
  rw [txs_length] at hdl
  omega
def abc : List (List Nat) := [[97], [98], [99]]
def abcd : List (List Nat) := [[97], [98], [99], [100]]
theorem one_abc : ∀ w ∈ abc, one w := by simp [abc, one]
theorem one_abcd : ∀ w ∈ abcd, one w := by simp [abcd, one]
/-- rules as the law draws them -/
structure okR (R : List (Ad × Ad)) : Prop where
  sm : ∀ r ∈ R, r.1.length ≤ 10 ∧ r.2.length ≤ 10
  nd : (R.map (·.1)).Nodup
theorem okR.small {R : List (Ad × Ad)} (h : okR R) : smallR R := fun r hr => by have := h.sm r hr; omega
theorem okR_snoc {R : List (Ad × Ad)} {b g : Ad} (h : okR R) (hb : b.length ≤ 10) (hg : g.length ≤ 10) (hn : b ∉ R.map (·.1)) : okR (R ++ [(b, g)]) := by
  refine ⟨fun r hr => ?_, ?_⟩
  · rcases List.mem_append.mp hr with hr | hr
    · exact h.sm r hr
    · rw [List.mem_singleton] at hr; subst hr; exact ⟨hb, hg⟩
  · rw [List.map_append, List.nodup_append]
    refine ⟨h.nd, by simp, ?_⟩
    intro a ha c hc e
    simp only [List.map_cons, List.map_nil, List.mem_singleton] at hc
    subst hc
    subst e
    exact hn ha
theorem okR_find {R : List (Ad × Ad)} (h : (R.map (·.1)).Nodup) {r : Ad × Ad} (hr : r ∈ R) : R.find? (fun x => decide (x.1 = r.1)) = some r := by
  induction R with
  | nil => simp at hr
  | cons x R ih =>
    rw [List.map_cons, List.nodup_cons] at h
    rcases List.mem_cons.mp hr with rfl | hr
    · simp
    · rw [List.find?_cons_of_neg, ih h.2 hr]
      simp only [decide_eq_true_eq]
      intro e
      exact h.1 (by rw [e]; exact List.mem_map_of_mem hr)
theorem starts_comp {R : List (Ad × Ad)} {σ : Lc} {h : AH} (hR : R.length ≤ 10000) (e2 : σ[2]? = some (some (rusD R))) (hl : σ.length = 9) :
    b_law_rules_c1 σ h = .ok (.ref h.length) (h ++ [.lst (R.map fun r => adD r.1)]) := by
  unfold b_law_rules_c1
  refine dComp_mapA R ruD (gd := fun _ => True) (h1 := h) (by rw [iSeq_eq, dVar_at e2, DL.R.bindI_ok, iK_rus]) (fun r => adD r.1) (fun _ => trivial) (by omega) ?_
  intro x _ acc
  refine ⟨_, rfl, dVar_at ?_⟩
  rw [List.getElem?_set_ne (by omega), List.getElem?_set_self]
  simp only [wipeD_cons, wipeD_nil, List.length_set]
  omega
theorem rules_loop {ns : List Int} {g : AH} : ∀ (xs : List D) (R : List (Ad × Ad)) (k : Nat) (j : AH) (x3 x4 x5 x6 x7 x8 : Option D), okR R → R.length + xs.length ≤ 100 → k + 20 * xs.length ≤ 800000 →
    ∃ R' k' j' y3 y4 y5 y6 y7 y8, okR R' ∧ R'.length ≤ R.length + xs.length ∧ k' ≤ k + 20 * xs.length ∧ forL (fun _ => True) (gNm 3) b_law_rules_l1 xs [some (.ref 0), some (.ref 1), some (rusD R), x3, x4, x5, x6, x7, x8] (W ns k (g ++ j)) = .nx [some (.ref 0), some (.ref 1), some (rusD R'), y3, y4, y5, y6, y7, y8] (W ns k' (g ++ j'))
  | [], R, k, j, x3, x4, x5, x6, x7, x8, hR, _, _ => ⟨R, k, j, _, _, _, _, _, _, hR, by simp, by simp, by rw [forL_nil trivial]⟩
  | x :: xs, R, k, j, x3, x4, x5, x6, x7, x8, hR, hl, hk => by
    simp only [List.length_cons, Nat.mul_succ] at hl hk
    obtain ⟨b, k1, j1, m1, eb, hm1, hb, hk1, _⟩ := drawAd (ns := ns) (k := k) (g := g ++ j) (σ := [some (.ref 0), some (.ref 1), some (rusD R), some x, x4, x5, x6, x7, x8]) (s := 6) (n := 4) (L := (dCons (dC (.str [97])) (dCons (dC (.str [98])) (dCons (dC (.str [99])) dNil)))) (ls := abc) (fun σ h => by simp [abc]) (by decide) (by decide) one_abc (by omega) (by omega) (by omega) rfl rfl (by omega)
    have ec3 : b_law_rules_c3 [some (.ref 0), some (.ref 1), some (rusD R), some x, x4, x5, x6, x7, x8] (W ns k (g ++ j)) = _ := eb
    have et1 := tupleL_lst hm1
    obtain ⟨c, k2, j2, m2, ec, hm2, hc, hk2, _⟩ := drawAd (ns := ns) (k := k1) (g := g ++ j ++ j1) (σ := [some (.ref 0), some (.ref 1), some (rusD R), some x, some (adD b), x5, x6, x7, x8]) (s := 6) (n := 4) (L := lits [.str [97], .str [98], .str [99], .str [100]]) (ls := abcd) (fun σ h => by simp [abcd]) (by decide) (by decide) one_abcd (by omega) (by omega) (by omega) rfl rfl (by omega)
    have ec2 : b_law_rules_c2 [some (.ref 0), some (.ref 1), some (rusD R), some x, some (adD b), x5, x6, x7, x8] (W ns k1 (g ++ j ++ j1)) = _ := ec
    have et2 := tupleL_lst hm2
    obtain ⟨jj, hgg⟩ : ∃ jj, g ++ j ++ j1 ++ j2 = g ++ jj := ⟨j ++ j1 ++ j2, by simp⟩
    have ec1 : b_law_rules_c1 [some (.ref 0), some (.ref 1), some (rusD R), some x, some (adD b), some (adD c), x6, x7, x8] (W ns k2 (g ++ jj)) = _ := starts_comp (R := R) (by omega) rfl rfl
    rw [hgg] at et2 ec2
    simp only [W_app, W_len] at ec1
    have hm3 : (W ns k2 (g ++ jj ++ [.lst (R.map fun r => adD r.1)]))[(g ++ jj).length + 2]? = some (.lst (R.map fun r => adD r.1)) := W_new 0
    generalize (g ++ jj).length + 2 = m3 at ec1 hm3
    have ei : inD true (adD b) (.ref m3) (W ns k2 (g ++ jj ++ [.lst (R.map fun r => adD r.1)])) = _ :=
      inD_lst 1 (by omega) hm3 adD_okN (fun d hd => by
        obtain ⟨r, _, rfl⟩ := List.mem_map.mp hd
        exact adD_okN)
    have hmem : (adD b ∈ R.map fun r => adD r.1) ↔ b ∈ R.map (·.1) := by
      simp only [List.mem_map]
      exact ⟨fun ⟨r, h1, h2⟩ => ⟨r, h1, adD_inj.mp h2⟩, fun ⟨r, h1, h2⟩ => ⟨r, h1, by rw [h2]⟩⟩
    have hdec : decide (adD b ∈ R.map fun r => adD r.1) = decide (b ∈ R.map (·.1)) := decide_eq_decide.mpr hmem
    rw [hdec] at ei
    generalize hj3 : g ++ jj ++ [O.lst (R.map fun r => adD r.1)] = g3 at ei ec1
    have hg3 : g3 = g ++ (jj ++ [O.lst (R.map fun r => adD r.1)]) := by rw [← hj3, List.append_assoc]
    change tupleL [.ref m1] _ = some (adD b, _) at et1
    change tupleL [.ref m2] _ = some (adD c, _) at et2
    by_cases hm : b ∈ R.map (·.1)
    · rw [decide_eq_true hm] at ei
      obtain ⟨R', k', j', y3, y4, y5, y6, y7, y8, q1, q2, q3, q4⟩ := rules_loop (ns := ns) (g := g) xs R k2 (jj ++ [O.lst (R.map fun r => adD r.1)]) (some x) (some (adD b)) (some (adD c)) x6 x7 x8 hR (by omega) (by omega)
      refine ⟨R', k', j', y3, y4, y5, y6, y7, y8, q1, by simp; omega, by simp only [List.length_cons, Nat.mul_succ]; omega, ?_⟩
      rw [forL_cons (σ' := [some (.ref 0), some (.ref 1), some (rusD R), some x, x4, x5, x6, x7, x8]) trivial rfl]
      have body : b_law_rules_l1 [some (.ref 0), some (.ref 1), some (rusD R), some x, x4, x5, x6, x7, x8] (W ns k (g ++ j)) = .nx [some (.ref 0), some (.ref 1), some (rusD R), some x, some (adD b), some (adD c), x6, x7, x8] (W ns k2 g3) := by
        simp [-List.append_assoc, b_law_rules_l1, ec3, et1, ec2, et2, ec1, ei]
      rw [body]
      dsimp only
      rw [hg3]
      exact q4
    · rw [decide_eq_false hm] at ei
      obtain ⟨R', k', j', y3, y4, y5, y6, y7, y8, q1, q2, q3, q4⟩ := rules_loop (ns := ns) (g := g) xs (R ++ [(b, c)]) k2 (jj ++ [O.lst (R.map fun r => adD r.1)]) (some x) (some (adD b)) (some (adD c)) x6 x7 x8 (okR_snoc hR (by omega) (by omega) hm) (by simp; omega) (by omega)
      refine ⟨R', k', j', y3, y4, y5, y6, y7, y8, q1, by simp at q2 ⊢; omega, by simp only [List.length_cons, Nat.mul_succ]; omega, ?_⟩
      rw [forL_cons (σ' := [some (.ref 0), some (.ref 1), some (rusD R), some x, x4, x5, x6, x7, x8]) trivial rfl]
      have ea : addD (rusD R) (.tup [.tup [adD b, adD c]]) (W ns k2 g3) = some (rusD (R ++ [(b, c)]), W ns k2 g3) := by
        unfold rusD
        rw [addD_tt (by simp; omega), List.map_append]
        rfl
      have body : b_law_rules_l1 [some (.ref 0), some (.ref 1), some (rusD R), some x, x4, x5, x6, x7, x8] (W ns k (g ++ j)) = .nx [some (.ref 0), some (.ref 1), some (rusD (R ++ [(b, c)])), some x, some (adD b), some (adD c), x6, x7, x8] (W ns k2 g3) := by
        simp [-List.append_assoc, b_law_rules_l1, ec3, et1, ec2, et2, ec1, ei, ea]
      rw [body]
      dsimp only
      rw [hg3]
      exact q4
theorem law_rules_W {ns : List Int} {k : Nat} {g : AH} (hk : k ≤ 700000) : ∃ R k', okR R ∧ R.length ≤ 5 ∧ k' ≤ k + 200 ∧ m_law_rules [.ref 0, .ref 1] (W ns k g) = .ok (rusD R) (W ns k' g) := by
  obtain ⟨v, v0, v1, ev⟩ := draw_W (ns := ns) (k := k) (g := g) (m := 6) (by omega) (by omega)
  have er := iRg1K_int (n := v) (h := W ns (k + 1) g) v0 (by omega)
  have hil : (iota 0 v.toNat).length = v.toNat := iota_length
  obtain ⟨R, k', j', y3, y4, y5, y6, y7, y8, q1, q2, q3, q4⟩ := rules_loop (ns := ns) (g := g) (iota 0 v.toNat) [] (k + 1) [] none none none none none none ⟨by simp, by simp⟩ (by simp; omega) (by omega)
  simp only [List.length_nil] at q2
  refine ⟨R, k', q1, by omega, by omega, gc_W (x := j') ?_ rusD_bel⟩
  rw [List.append_nil] at q4
  have e0 : (D.tup []) = rusD [] := rfl
  simp only [runF, b_law_rules]
  simp [ev, er, e0, q4]
end DL


set_option maxRecDepth 100000
namespace DL
open PySem PySem.Spec PyProof.Rows L2

/-! ## rows_text, read_rows -/
theorem adT_len {a : Ad} (h : okAd a = true) : (adT a).length ≤ 52 ∧ joinLen [47] a ≤ 52 := by
  have hj : joinLen [47] a ≤ 52 := by
    have := joinLen_le (sep := [47]) (ws := a) (m := 12) fun w hw => isNm_len (ad_nm h w hw)
    have h4 := ad_le h
    have : a.length * (12 + [47].length) ≤ 4 * 13 := Nat.mul_le_mul h4 (by simp)
    omega
  refine ⟨?_, hj⟩
  have key : ∀ ws : List (List Nat), (TL.joinL [47] ws).length ≤ joinLen [47] ws := by
    intro ws
    induction ws with
    | nil => simp [TL.joinL]
    | cons w ws ih =>
      cases ws with
      | nil => simp [TL.joinL, joinLen]
      | cons x y =>
        show (w ++ ([47] ++ TL.joinL [47] (x :: y))).length ≤ _
        simp only [List.length_append, List.length_singleton]
        have e : joinLen [47] (w :: x :: y) = w.length + 1 + joinLen [47] (x :: y) := by
          unfold joinLen
          simp only [List.map_cons, List.sum_cons, List.length_cons, List.length_nil, Nat.zero_add, Nat.mul_one]
          omega
        omega
  exact Nat.le_trans (key a) hj
theorem lineP_len {r : Ad × Ad} (h : okRow r = true) : (bodyP r).length ≤ 105 ∧ (lineP r).length ≤ 106 := by
  unfold okRow at h
  rw [Bool.and_eq_true] at h
  have h1 := (adT_len h.1).1
  have h2 := (adT_len h.2).1
  unfold lineP bodyP
  simp only [List.length_append, List.length_singleton]
  omega
theorem flatten_len {n : Nat} : ∀ {ls : List (List Nat)}, (∀ l ∈ ls, l.length ≤ n) → ls.flatten.length ≤ ls.length * n
  | [], _ => by simp
  | l :: ls, h => by
    have := h l (by simp)
    have := flatten_len (n := n) (ls := ls) fun x hx => h x (by simp [hx])
    simp only [List.flatten_cons, List.length_append, List.length_cons, Nat.succ_mul]
    omega
theorem rtext_len {R : List (Ad × Ad)} (h : ∀ r ∈ R, okRow r = true) : (rtextP R).length ≤ R.length * 106 := by
  have := flatten_len (n := 106) (ls := R.map lineP) fun l hl => by
    obtain ⟨r, hr, rfl⟩ := List.mem_map.mp hl
    exact (lineP_len (h r hr)).2
  rwa [List.length_map] at this
@[simp] theorem R.bindA_exc {x : Str} {h : AH} {k : D → AH → RA} : (R.exc x h).bindA k = .exc x h := id rfl
@[simp] theorem R.bindT_exc {x : Str} {h : AH} {k : D → AH → RT} : (R.exc x h).bindT k = .exc x h := id rfl
@[simp] theorem R.bindI_exc {x : Str} {h : AH} {k : D → AH → RI} : (R.exc x h).bindI k = .exc x h := id rfl
@[simp] theorem RA.bind_exc {x : Str} {h : AH} {k : List D → AH → R} : (RA.exc x h).bind k = .exc x h := id rfl
@[simp] theorem RA.bindA_exc {x : Str} {h : AH} {k : List D → AH → RA} : (RA.exc x h).bindA k = .exc x h := id rfl
@[simp] theorem RA.bindI_exc {x : Str} {h : AH} {k : List D → AH → RI} : (RA.exc x h).bindI k = .exc x h := id rfl
@[simp] theorem RT.bindS_exc {x : Str} {h : AH} {σ : Lc} {k : Bool → AH → RS} : (RT.exc x h).bindS σ k = .exc x σ h := id rfl
/-- the lines of rows -/
theorem line_of {r : Ad × Ad} (hr : okRow r = true) {h : AH} : addD (.str (adT r.1)) (.str [32]) h = some (.str (adT r.1 ++ [32]), h) ∧ addD (.str (adT r.1 ++ [32])) (.str (adT r.2)) h = some (.str (bodyP r), h) ∧ addD (.str (bodyP r)) (.str [10]) h = some (.str (lineP r), h) := by
  have hl := lineP_len hr
  unfold okRow at hr
  rw [Bool.and_eq_true] at hr
  have h1 := (adT_len hr.1).1
  have h2 := (adT_len hr.2).1
  refine ⟨addD_ss (by simp; omega), ?_, ?_⟩
  · rw [addD_ss (by simp; omega)]; rfl
  · rw [addD_ss (by simp; omega)]; rfl
theorem m_rows_textOf {R : List (Ad × Ad)} (h : ∀ r ∈ R, okRow r = true) (hl : R.length ≤ 1000) {g : AH} : m_rows_text [rusD R] g = .ok (.str (rtextP R)) g := by
  have ec : b_rows_text_c1 [some (rusD R), none, none] g = .ok (.ref g.length) (g ++ [.lst (txs (R.map lineP))]) := by
    unfold b_rows_text_c1
    rw [show txs (R.map lineP) = R.map fun r => D.str (lineP r) from by unfold txs; rw [List.map_map]; rfl]
    refine dComp_mapA R ruD (gd := fun _ => True) (h1 := g) (by simp [iK_rus]) (fun r => .str (lineP r)) (fun _ => trivial) (by omega) fun r hr acc => ⟨[some (rusD R), some (adD r.1), some (adD r.2)], rfl, ?_⟩
    have hr := h r hr
    obtain ⟨l1, l2, l3⟩ := line_of hr (h := g ++ [.lst acc])
    unfold okRow at hr
    rw [Bool.and_eq_true] at hr
    have e1 := m_address_textOf (ws := r.1) (h := g ++ [.lst acc]) (by have := (adT_len hr.1).2; omega)
    have e2 := m_address_textOf (ws := r.2) (h := g ++ [.lst acc]) (by have := (adT_len hr.2).2; omega)
    have e1' : m_address_text [adD r.1] (g ++ [.lst acc]) = .ok (.str (adT r.1)) (g ++ [.lst acc]) := e1
    have e2' : m_address_text [adD r.2] (g ++ [.lst acc]) = .ok (.str (adT r.2)) (g ++ [.lst acc]) := e2
    simp [e1', e2', l1, l2, l3]
  have ej := mJoin_lst (sep := []) (ws := R.map lineP) (n := g.length) (h := g ++ [.lst (txs (R.map lineP))]) (by simp) (by
    have := flatten_len (n := 106) (ls := R.map lineP) fun l hl => by
      obtain ⟨r, hr, rfl⟩ := List.mem_map.mp hl
      exact (lineP_len (h r hr)).2
    rw [joinLen_nil]
    rw [List.length_map] at this
    omega)
  rw [joinL_nil] at ej
  refine gc_ok (g := [.lst (txs (R.map lineP))]) ?_ rfl
  rw [runF_at (σ := [some (rusD R), none, none]) (by rfl) (by rfl), b_rows_text]
  simp [ec, ej]
  rfl
/-! ### one line -/
theorem readL_no {l : List Nat} (h2 : ¬ (splitC 32 l).length = 2) : readL l = none := by
  unfold readL
  split
  · rename_i x y e
    rw [e] at h2; simp at h2
  · rfl
theorem rd_line {l : List Nat} (hl : l.length ≤ 900) {g : AH} {i : Nat} {acc : List D} (hi : g[i]? = some (.lst acc)) (ha : acc.length ≤ 1000) {t : List Nat} {a3 a4 a5 a6 a7 : Option D} :
    ∃ b5, b_read_rows_l1 [some (.str t), some (.ref i), some (.str l), a3, a4, a5, a6, a7] g = match readL l with
      | some r => .nx [some (.str t), some (.ref i), some (.str l), a3, a4, b5, a6, a7] ((g ++ [O.lst (txs (splitC 32 l))]).set i (.lst (acc ++ [ruD r])))
      | none => .exc "NoText" [some (.str t), some (.ref i), some (.str l), a3, a4, b5, a6, a7] (g ++ [O.lst (txs (splitC 32 l))]) := by
  have es := mSplit_one (c := 32) (by decide) (s := l) (h := g) (by omega)
  have hw : ∀ w ∈ splitC 32 l, w.length ≤ 900 := fun w hw => by have := split_mem_len 32 hw; omega
  have hg : (g ++ [O.lst (txs (splitC 32 l))])[i]? = some (.lst acc) := get_app hi
  have el := lenL_lst (n := g.length) (s := txs (splitC 32 l)) (h := g ++ [O.lst (txs (splitC 32 l))]) (by simp)
  rw [txs_length] at el
  refine ⟨some (.ref g.length), ?_⟩
  unfold b_read_rows_l1
  by_cases h2 : (splitC 32 l).length = 2
  · obtain ⟨x, y, e⟩ : ∃ x y, splitC 32 l = [x, y] := by
      cases q : splitC 32 l with
      | nil => rw [q] at h2; cases h2
      | cons x r => cases r with
        | nil => rw [q] at h2; cases h2
        | cons y r => cases r with
          | nil => exact ⟨x, y, rfl⟩
          | cons z r => rw [q] at h2; simp at h2
    have eR : readL l = if okAd (splitC 47 x) = true ∧ okAd (splitC 47 y) = true then some (splitC 47 x, splitC 47 y) else none := by unfold readL; rw [e]
    rw [eR]
    rw [e] at es el hw hg ⊢
    have hx := m_read_addressOf (s := x) (h := g ++ [.lst (txs [x, y])]) (hw x (by simp))
    have hy := m_read_addressOf (s := y) (h := g ++ [.lst (txs [x, y])]) (hw y (by simp))
    rw [adOf_eq, isAdD_ad] at hx hy
    have i0 : ixD (.ref g.length) (.int 0) (g ++ [.lst (txs [x, y])]) = some (.str x, g ++ [.lst (txs [x, y])]) := ixD_lst (s := txs [x, y]) (by simp) rfl
    have i1 : ixD (.ref g.length) (.int 1) (g ++ [.lst (txs [x, y])]) = some (.str y, g ++ [.lst (txs [x, y])]) := ixD_lst (s := txs [x, y]) (by simp) rfl
    have ga := gLst_lst hg
    have ma := mAppend_at (d := .tup [adD (splitC 47 x), adD (splitC 47 y)]) hg (by omega)
    simp only [txs_cons, txs_nil] at *
    by_cases cx : okAd (splitC 47 x) = true
    · rw [if_pos cx] at hx
      by_cases cy : okAd (splitC 47 y) = true
      · rw [if_pos cy] at hy
        simp [es, el, i0, i1, hx, hy, cx, cy, ga, ma, ruD]
      · rw [if_neg cy] at hy
        simp [es, el, i0, i1, hx, hy, cx, cy, ga]
    · rw [if_neg cx] at hx
      simp [es, el, i0, i1, hx, cx, ga]
  · have : ¬ ((splitC 32 l).length : Int) = 2 := by omega
    rw [readL_no h2]
    simp [es, el, this, sRse]
theorem set_same {h : AH} {i : Nat} {o : O} (e : h[i]? = some o) : h.set i o = h := by
  apply List.ext_getElem?
  intro n
  by_cases c : i = n
  · subst c; rw [List.getElem?_set_self (List.getElem?_eq_some_iff.mp e).1, e]
  · rw [List.getElem?_set_ne c]
/-! ### all lines -/
theorem rd_lines {t : List Nat} {a3 a4 a6 a7 : Option D} {s : Nat} {ls0 : List D} {i : Nat} : ∀ (ls : List (List Nat)) (acc : List (Ad × Ad)) (g : AH) (a2 a5 : Option D), (∀ l ∈ ls, l.length ≤ 900) → acc.length + ls.length ≤ 1000 →
    i < s → g[i]? = some (.lst (acc.map ruD)) → g[s]? = some (.lst ls0) →
    ∃ b2 b5 j, match readLs ls with
      | some R => forL (fun h => h[s]? = some (.lst ls0)) (gNm 2) b_read_rows_l1 (txs ls) [some (.str t), some (.ref i), a2, a3, a4, a5, a6, a7] g = .nx [some (.str t), some (.ref i), b2, a3, a4, b5, a6, a7] ((g ++ j).set i (.lst ((acc ++ R).map ruD)))
      | none => ∃ o, forL (fun h => h[s]? = some (.lst ls0)) (gNm 2) b_read_rows_l1 (txs ls) [some (.str t), some (.ref i), a2, a3, a4, a5, a6, a7] g = .exc "NoText" [some (.str t), some (.ref i), b2, a3, a4, b5, a6, a7] ((g ++ j).set i o)
  | [], acc, g, a2, a5, _, _, hi, hg, hs => by
    refine ⟨a2, a5, [], ?_⟩
    show forL _ _ _ _ _ _ = _
    rw [txs_nil, forL_nil hs, List.append_nil, List.append_nil]
    congr 1
    exact (set_same hg).symm
  | l :: ls, acc, g, a2, a5, hl, hn, hi, hg, hs => by
    obtain ⟨b5, e⟩ := rd_line (l := l) (hl l (by simp)) hg (by rw [List.length_map]; simp only [List.length_cons] at hn; omega) (t := t) (a3 := a3) (a4 := a4) (a5 := a5) (a6 := a6) (a7 := a7)
    have hil : i < g.length := (List.getElem?_eq_some_iff.mp hg).1
    unfold readLs
    rw [txs_cons, forL_cons (σ' := [some (.str t), some (.ref i), some (.str l), a3, a4, a5, a6, a7]) hs rfl, e]
    cases q : readL l with
    | none =>
      refine ⟨some (.str l), b5, [.lst (txs (splitC 32 l))], .lst (acc.map ruD), ?_⟩
      show RS.exc _ _ _ = _
      congr 1
      exact (set_same (get_app hg)).symm
    | some r =>
      have hg2 : ((g ++ [O.lst (txs (splitC 32 l))]).set i (.lst (acc.map ruD ++ [ruD r])))[i]? = some (.lst ((acc ++ [r]).map ruD)) := by
        rw [List.getElem?_set_self (by simp; omega), List.map_append]
        rfl
      have hs2 : ((g ++ [O.lst (txs (splitC 32 l))]).set i (.lst (acc.map ruD ++ [ruD r])))[s]? = some (.lst ls0) := by
        rw [List.getElem?_set_ne (by omega)]
        exact get_app hs
      obtain ⟨b2, b5', j, e2⟩ := rd_lines (t := t) (a3 := a3) (a4 := a4) (a6 := a6) (a7 := a7) (ls0 := ls0) ls (acc ++ [r]) _ (some (.str l)) b5 (fun x hx => hl x (by simp [hx])) (by simp only [List.length_append, List.length_cons, List.length_nil] at hn ⊢; omega) hi hg2 hs2
      have hset : ∀ o : O, ((g ++ [O.lst (txs (splitC 32 l))]).set i (.lst (acc.map ruD ++ [ruD r])) ++ j).set i o = (g ++ ([O.lst (txs (splitC 32 l))] ++ j)).set i o := fun o => by
        rw [← List.append_assoc]
        rw [← List.set_append_left _ _ (by simp; omega), List.set_set]
      refine ⟨b2, b5', [O.lst (txs (splitC 32 l))] ++ j, ?_⟩
      cases q2 : readLs ls with
      | none =>
        rw [q2] at e2
        obtain ⟨o, e2⟩ := e2
        refine ⟨o, ?_⟩
        show forL _ _ _ _ _ _ = _
        rw [e2, hset]
      | some R =>
        rw [q2] at e2
        show forL _ _ _ _ _ _ = _
        rw [show forL _ _ _ _ _ _ = _ from e2, hset, List.append_assoc]
        rfl
/-! ### sets of addresses -/
def keysOf (a : Ad) : List Key := a.map fun w => Sum.inr (S w)
theorem keysOf_inj {a b : Ad} (h : keysOf a = keysOf b) : a = b := by
  unfold keysOf at h
  exact List.map_inj_right (f := fun w => (Sum.inr (S w) : Key)) (fun x y e => S_inj (Sum.inr.inj e)) |>.mp h
theorem tkeys_ads : ∀ {A : List Ad}, (∀ a ∈ A, a ≠ []) → tkeys (A.map adD) = some (A.map keysOf)
  | [], _ => rfl
  | a :: A, h => by
    rw [List.map_cons]
    show tkeys (.tup (txs a) :: A.map adD) = _
    unfold tkeys
    rw [if_pos (keyAs_key (dkeys_txs a) (by cases a with | nil => exact absurd rfl (h [] (by simp)) | cons x y => simp)), dkeys_txs, tkeys_ads fun b hb => h b (by simp [hb])]
    rfl
theorem uniqA_map {α β : Type} [DecidableEq α] [DecidableEq β] {f : α → β} (hf : ∀ a b, f a = f b → a = b) : ∀ A : List α, uniqA (A.map f) = (uniqA A).map f
  | [] => rfl
  | a :: A => by
    rw [List.map_cons]
    unfold uniqA
    rw [uniqA_map hf A]
    have : f a ∈ (uniqA A).map f ↔ a ∈ uniqA A := by
      rw [List.mem_map]
      exact ⟨fun ⟨x, hx, e⟩ => hf _ _ e ▸ hx, fun hx => ⟨a, hx, rfl⟩⟩
    by_cases c : a ∈ uniqA A
    · rw [if_pos c, if_pos (this.mpr c)]
    · rw [if_neg c, if_neg fun z => c (this.mp z), List.map_cons]
theorem lenSet_ads {A : List Ad} (hA : ∀ a ∈ A, a ≠ []) (hl : A.length < 64) {n : Nat} {h : AH} (e : h[n]? = some (.lst (A.map adD))) : lenSetL [.ref n] h = some (.int (uniqA A).length, h) := by
  simp only [lenSetL, e, tkeys_ads hA, List.length_map, hl, if_true]
  rw [uniqA_map (f := keysOf) (fun a b => keysOf_inj), List.length_map]
/-! ### read_rows -/
theorem ruD_okN {n : Nat} {r : Ad × Ad} : okN (n + 2) (ruD r) = true := by
  unfold ruD okN
  simp [adD_okN]
theorem m_read_rowsOf {t : List Nat} (hl : t.length ≤ 900) (hn : (splitC 10 t).length ≤ 60) {h : AH} : m_read_rows [.str t] h = match readP t with
    | some R => .ok (rusD R) h
    | none => .exc "NoText" h := by
  have es := mSplit_one (c := 10) (by decide) (s := t) (h := h ++ [.lst []]) (by omega)
  have hlen : (h ++ [O.lst []]).length = h.length + 1 := by simp
  generalize hsp : splitC 10 t = ls at es
  rw [hsp] at hn
  have hw : ∀ l ∈ ls.dropLast, l.length ≤ 900 := fun l hl' => by
    have := split_mem_len 10 (l := t) (w := l) (by rw [hsp]; exact List.dropLast_subset _ hl')
    omega
  have hdl : ls.dropLast.length ≤ 60 := by rw [List.length_dropLast]; omega
  have esl : slK (.ref (h ++ [O.lst []]).length) none (some (-1)) (h ++ [.lst []] ++ [.lst (txs ls)]) = some (.ref (h.length + 2), h ++ [.lst []] ++ [.lst (txs ls)] ++ [.lst (txs ls.dropLast)]) := by
    rw [slK_lst (s := txs ls) (by simp), cut_but1, txs_dropLast]
    simp
  generalize hg : h ++ [O.lst []] ++ [O.lst (txs ls)] ++ [O.lst (txs ls.dropLast)] = g at esl
  have hgi : g[h.length]? = some (.lst (([] : List (Ad × Ad)).map ruD)) := by rw [← hg]; simp
  have hgs : g[h.length + 2]? = some (.lst (txs ls.dropLast)) := by rw [← hg]; simp
  obtain ⟨b2, b5, j, e⟩ := rd_lines (t := t) (a3 := none) (a4 := none) (a6 := none) (a7 := none) (s := h.length + 2) (ls0 := txs ls.dropLast) (i := h.length) ls.dropLast [] g none none hw (by simp; omega) (by omega) hgi hgs
  have hset : ∀ o : O, (g ++ j).set h.length o = h ++ (o :: O.lst (txs ls) :: O.lst (txs ls.dropLast) :: j) := fun o => by
    rw [← hg]
    simp
  have e1 : sSet 1 (dLst dNil) [some (.str t), none, none, none, none, none, none, none] h = .nx [some (.str t), some (.ref h.length), none, none, none, none, none, none] (h ++ [.lst []]) := by simp
  have ei : iSeq (dSl (dMt gStr mSplit (dVar 0) (dCons (dC (.str [10])) dNil)) none (some (dUn negD (dC (.int 1))))) [some (.str t), some (.ref h.length), none, none, none, none, none, none] (h ++ [.lst []]) = .ok (txs ls.dropLast) (fun h' => h'[h.length + 2]? = some (.lst (txs ls.dropLast))) g := by
    have := iK_lst hgs
    simp [-List.append_assoc, -List.length_append, es, esl, this]
  unfold readP
  rw [hsp]
  cases q : readLs ls.dropLast with
  | none =>
    rw [q] at e
    obtain ⟨o, e⟩ := e
    rw [hset] at e
    refine gc_exc (g := o :: O.lst (txs ls) :: O.lst (txs ls.dropLast) :: j) ?_
    rw [runF_at (σ := [some (.str t), none, none, none, none, none, none, none]) (by rfl) (by rfl), b_read_rows, sSeq_eq, e1, RS.bind_nx, sSeq_eq, sFor_eq, ei]
    dsimp only
    rw [e]
    rfl
  | some R =>
    rw [q] at e
    have e : forL _ _ _ _ _ _ = _ := e
    rw [hset, List.nil_append] at e
    have hok := readLs_ok q
    have hRl : R.length ≤ 60 := by
      have key : ∀ {ls : List (List Nat)} {R : List (Ad × Ad)}, readLs ls = some R → R.length = ls.length := by
        intro ls
        induction ls with
        | nil => intro R h; cases h; rfl
        | cons l ls ih =>
          intro R h
          unfold readLs at h
          split at h
          · obtain ⟨S, e2, rfl⟩ := Option.map_eq_some_iff.mp h
            rw [List.length_cons, List.length_cons, ih e2]
          · cases h
      rw [key q]; exact hdl
    generalize hG : h ++ (O.lst (R.map ruD) :: O.lst (txs ls) :: O.lst (txs ls.dropLast) :: j) = G at e
    have hGi : G[h.length]? = some (.lst (R.map ruD)) := by rw [← hG]; simp
    have et : tupleL [.ref h.length] G = some (rusD R, G) := tupleL_lst hGi
    have ec : b_read_rows_c1 [some (.str t), some (.ref h.length), b2, some (rusD R), none, b5, none, none] G = .ok (.ref G.length) (G ++ [.lst (R.map fun r => adD r.1)]) := by
      unfold b_read_rows_c1
      exact dComp_mapA R ruD (gd := fun _ => True) (h1 := G) (by simp [iK_rus]) (fun r => adD r.1) (fun _ => trivial) (by omega) fun r hr acc => ⟨[some (.str t), some (.ref h.length), b2, some (rusD R), none, b5, some (adD r.1), some (adD r.2)], rfl, by simp⟩
    have hst : (R.map fun r => adD r.1) = (R.map (·.1)).map adD := by rw [List.map_map]; rfl
    rw [hst] at ec
    generalize hG2 : G ++ [O.lst ((R.map (·.1)).map adD)] = G2 at ec
    have hG2i : G2[G.length]? = some (.lst ((R.map (·.1)).map adD)) := by rw [← hG2]; simp
    have er := m_rows_textOf (g := G2) hok (by omega)
    have el := lenSet_ads (A := R.map (·.1)) (fun a ha => by
      obtain ⟨r, hr, rfl⟩ := List.mem_map.mp ha
      have := hok r hr
      unfold okRow at this
      rw [Bool.and_eq_true] at this
      exact ad_ne this.1) (by rw [List.length_map]; omega) hG2i
    have el2 := lenL_lst hG2i
    rw [List.length_map] at el2
    have hGG : G2 = h ++ (O.lst (R.map ruD) :: O.lst (txs ls) :: O.lst (txs ls.dropLast) :: (j ++ [O.lst ((R.map (·.1)).map adD)])) := by rw [← hG2, ← hG]; simp
    have head : ∀ k : SS, (sSeq (sSet 1 (dLst dNil)) (sSeq (sFor (iSeq (dSl (dMt gStr mSplit (dVar 0) (dCons (dC (.str [10])) dNil)) none (some (dUn negD (dC (.int 1)))))) (gNm 2) b_read_rows_l1) (sSeq (sSet 3 (dCallB tupleL (dCons (dVar 1) dNil))) (sSeq (sSet 4 b_read_rows_c1) k)))) [some (.str t), none, none, none, none, none, none, none] h = k [some (.str t), some (.ref h.length), b2, some (rusD R), some (.ref G.length), b5, none, none] G2 := by
      intro k
      rw [sSeq_eq, e1, RS.bind_nx, sSeq_eq, sFor_eq, ei]
      dsimp only
      rw [e, RS.bind_nx, sSeq_eq]
      have e3 : sSet 3 (dCallB tupleL (dCons (dVar 1) dNil)) [some (.str t), some (.ref h.length), b2, none, none, b5, none, none] G = .nx [some (.str t), some (.ref h.length), b2, some (rusD R), none, b5, none, none] G := by simp [et]
      rw [e3, RS.bind_nx, sSeq_eq, sSet_eq, ec]
      rfl
    dsimp only
    by_cases c1 : rtextP R = t
    · have nd := uniqA_len (xs := R.map (·.1))
      by_cases c2 : (R.map (·.1)).Nodup
      · have c2' : ((uniqA (R.map (·.1))).length : Int) = (R.map (·.1)).length := by rw [nd.mpr c2]
        rw [if_pos ⟨c1, c2⟩]
        dsimp only
        refine gc_ok (g := O.lst (R.map ruD) :: O.lst (txs ls) :: O.lst (txs ls.dropLast) :: (j ++ [O.lst ((R.map (·.1)).map adD)])) ?_ rusD_bel
        rw [runF_at (σ := [some (.str t), none, none, none, none, none, none, none]) (by rfl) (by rfl), b_read_rows, head, ← hGG]
        rw [List.length_map] at c2' el2
        simp [er, el, el2, c1, c2']
      · have c2' : ¬ ((uniqA (R.map (·.1))).length : Int) = (R.map (·.1)).length := fun z => c2 (nd.mp (by omega))
        rw [if_neg fun z => c2 z.2]
        dsimp only
        refine gc_exc (g := O.lst (R.map ruD) :: O.lst (txs ls) :: O.lst (txs ls.dropLast) :: (j ++ [O.lst ((R.map (·.1)).map adD)])) ?_
        rw [runF_at (σ := [some (.str t), none, none, none, none, none, none, none]) (by rfl) (by rfl), b_read_rows, head, ← hGG]
        rw [List.length_map] at c2' el2
        simp [er, el, el2, c1, c2', sRse]
    · rw [if_neg fun z => c1 z.1]
      dsimp only
      refine gc_exc (g := O.lst (R.map ruD) :: O.lst (txs ls) :: O.lst (txs ls.dropLast) :: (j ++ [O.lst ((R.map (·.1)).map adD)])) ?_
      rw [runF_at (σ := [some (.str t), none, none, none, none, none, none, none]) (by rfl) (by rfl), b_read_rows, head, ← hGG]
      simp [er, c1, sRse]
end DL


set_option maxRecDepth 100000
namespace DL
open PySem PySem.Spec PyProof.Rows L2

/-! ## are_rows, of any known thing -/
def isRowD : D → Bool
  | .tup es => decide (es.length = 2)
  | _ => false
def okRowD : D → Bool
  | .tup [a, b] => isAdD a && isAdD b
  | _ => false
def row0 : D → D
  | .tup (a :: _) => a
  | _ => .non
noncomputable def areD : D → Bool
  | .tup rows => rows.all isRowD && rows.all okRowD && decide ((rows.map row0).Nodup)
  | _ => false
theorem areD_tup {rows : List D} : areD (.tup rows) = (rows.all isRowD && rows.all okRowD && decide ((rows.map row0).Nodup)) := rfl
def known3 (h : AH) (d : D) : Prop := known h d ∧ ∀ ds, d = .tup ds → ds.length ≤ 60 ∧ ∀ x ∈ ds, known h x ∧ ∀ es, x = .tup es → ∀ y ∈ es, knownD h y
theorem known3.app {h g : AH} {d : D} (k : known3 h d) : known3 (h ++ g) d := ⟨k.1.app, fun ds e => ⟨(k.2 ds e).1, fun x hx => ⟨((k.2 ds e).2 x hx).1.app, fun es e2 y hy => (((k.2 ds e).2 x hx).2 es e2 y hy).app⟩⟩⟩
theorem isAdD_of {d : D} (h : isAdD d = true) : ∃ a, d = adD a ∧ okAd a = true := by
  cases d with
  | tup ds =>
    have hd : ∀ x ∈ ds, isNmD x = true := by
      unfold isAdD at h
      simp only [Bool.and_eq_true, List.all_eq_true] at h
      exact h.2
    have : ∃ a : Ad, ds = txs a := by
      clear h
      induction ds with
      | nil => exact ⟨[], rfl⟩
      | cons x ds ih =>
        obtain ⟨a, rfl⟩ := ih fun y hy => hd y (by simp [hy])
        have hx := hd x (by simp)
        cases x with
        | str s => exact ⟨s :: a, rfl⟩
        | _ => cases hx
    obtain ⟨a, rfl⟩ := this
    exact ⟨a, rfl, by rw [← isAdD_ad]; exact h⟩
  | _ => cases h
theorem rows_of : ∀ {rows : List D}, rows.all okRowD = true → ∃ R : List (Ad × Ad), rows = R.map ruD ∧ ∀ r ∈ R, okRow r = true
  | [], _ => ⟨[], rfl, by simp⟩
  | x :: rows, h => by
    simp only [List.all_cons, Bool.and_eq_true] at h
    obtain ⟨R, rfl, hR⟩ := rows_of h.2
    have hx := h.1
    unfold okRowD at hx
    split at hx
    · rename_i a b
      rw [Bool.and_eq_true] at hx
      obtain ⟨p, rfl, hp⟩ := isAdD_of hx.1
      obtain ⟨q, rfl, hq⟩ := isAdD_of hx.2
      exact ⟨(p, q) :: R, rfl, fun r hr => by
        rcases List.mem_cons.mp hr with rfl | hr
        · unfold okRow; rw [hp, hq]; rfl
        · exact hR r hr⟩
    · cases hx
theorem row0_rus (R : List (Ad × Ad)) : (R.map ruD).map row0 = (R.map (·.1)).map adD := by
  rw [List.map_map, List.map_map]
  rfl
theorem nodup_ads {A : List Ad} : (A.map adD).Nodup ↔ A.Nodup := by
  constructor
  · exact fun h => (List.pairwise_map.mp h).imp fun hn e => hn (by rw [e])
  · exact fun h => List.Pairwise.map _ (fun a b hn e => hn (adD_inj.mp e)) h
theorem are_rus {R : List (Ad × Ad)} (hR : ∀ r ∈ R, okRow r = true) : areD (rusD R) = decide ((R.map (·.1)).Nodup) := by
  unfold rusD
  rw [areD_tup]
  have h1 : (R.map ruD).all isRowD = true := by
    rw [List.all_eq_true]
    intro x hx
    obtain ⟨r, _, rfl⟩ := List.mem_map.mp hx
    rfl
  have h2 : (R.map ruD).all okRowD = true := by
    rw [List.all_eq_true]
    intro x hx
    obtain ⟨r, hr, rfl⟩ := List.mem_map.mp hx
    have := hR r hr
    unfold okRow at this
    show (isAdD (adD r.1) && isAdD (adD r.2)) = true
    rw [isAdD_ad, isAdD_ad]
    exact this
  rw [h1, h2, row0_rus]
  simp only [Bool.true_and]
  rw [Bool.eq_iff_iff, decide_eq_true_iff, decide_eq_true_iff, nodup_ads]
theorem m_are_rowsD {d : D} {h : AH} (k : known3 h d) : m_are_rows [d] h = .ok (.bl (areD d)) h := by
  cases d with
  | tup rows =>
    obtain ⟨hl, hk⟩ := k.2 rows rfl
    have e3 : dCallB allL (dCons b_are_rows_c3 dNil) [some (.tup rows), none] h = .ok (.bl (rows.all isRowD)) (h ++ [.lst (bls (rows.map isRowD))]) := by
      refine all_A rows id (gd := fun _ => True) (by simp) isRowD (fun _ => trivial) (by omega) fun x hx acc => ⟨_, rfl, ?_⟩
      have kx := (hk x hx).1
      cases x with
      | tup es =>
        by_cases c : es.length = 2
        · have c' : (es.length : Int) = 2 := by omega
          simp [isRowD, c, c']
        · have c' : ¬ (es.length : Int) = 2 := by omega
          simp [isRowD, c, c']
      | ref n =>
        obtain ⟨ds, e⟩ := kx
        have e' : (h ++ [O.lst acc])[n]? = some (.lst ds) := get_app e
        simp [tyN_lst e', isRowD]
      | _ => simp [isRowD]
    simp only [dCallB_eq, dCons_eq, dNil_eq, RA.bindA_ok] at e3
    rw [areD_tup]
    cases q3 : rows.all isRowD with
    | false =>
      rw [q3] at e3
      refine gc_ok (g := [.lst (bls (rows.map isRowD))]) ?_ rfl
      rw [runF_at (σ := [some (.tup rows), none]) (by rfl) (by rfl), b_are_rows]
      simp [e3]
    | true =>
      rw [q3] at e3
      generalize hg1 : h ++ [O.lst (bls (rows.map isRowD))] = g1 at e3
      have hrow : ∀ x ∈ rows, ∃ a b, x = .tup [a, b] := fun x hx => by
        have := List.all_eq_true.mp q3 x hx
        cases x with
        | tup es =>
          cases es with
          | nil => cases this
          | cons a es => cases es with
            | nil => cases this
            | cons b es => cases es with
              | nil => exact ⟨a, b, rfl⟩
              | cons c es => unfold isRowD at this; simp at this
        | _ => cases this
      have e2 : dCallB allL (dCons b_are_rows_c2 dNil) [some (.tup rows), none] g1 = .ok (.bl (rows.all okRowD)) (g1 ++ [.lst (bls (rows.map okRowD))]) := by
        refine all_A rows id (gd := fun _ => True) (by simp) okRowD (fun _ => trivial) (by omega) fun x hx acc => ⟨_, rfl, ?_⟩
        obtain ⟨a, b, rfl⟩ := hrow x hx
        have ks := (hk _ hx).2 _ rfl
        have ka : knownD (g1 ++ [.lst acc]) a := by rw [← hg1]; exact (ks a (by simp)).app.app
        have kb : knownD (g1 ++ [.lst acc]) b := by rw [← hg1]; exact (ks b (by simp)).app.app
        have ea := m_is_addressD ka
        have eb := m_is_addressD kb
        have i0 : ixD (.tup [a, b]) (.int 0) (g1 ++ [.lst acc]) = some (a, g1 ++ [.lst acc]) := ixD_tup atI_get0
        have i1 : ixD (.tup [a, b]) (.int 1) (g1 ++ [.lst acc]) = some (b, g1 ++ [.lst acc]) := ixD_tup (by rfl)
        cases qa : isAdD a with
        | false =>
          rw [qa] at ea
          simp [i0, ea, okRowD, qa]
        | true =>
          rw [qa] at ea
          simp [i0, i1, ea, eb, okRowD, qa]
      simp only [dCallB_eq, dCons_eq, dNil_eq, RA.bindA_ok] at e2
      cases q2 : rows.all okRowD with
      | false =>
        rw [q2] at e2
        refine gc_ok (g := [.lst (bls (rows.map isRowD)), .lst (bls (rows.map okRowD))]) ?_ rfl
        rw [runF_at (σ := [some (.tup rows), none]) (by rfl) (by rfl), b_are_rows]
        rw [show h ++ [O.lst (bls (rows.map isRowD)), O.lst (bls (rows.map okRowD))] = g1 ++ [.lst (bls (rows.map okRowD))] by rw [← hg1]; simp]
        simp [e3, e2]
      | true =>
        rw [q2] at e2
        obtain ⟨R, rfl, hR⟩ := rows_of q2
        generalize hg2 : g1 ++ [O.lst (bls ((R.map ruD).map okRowD))] = g2 at e2
        have e1 : b_are_rows_c1 [some (.tup (R.map ruD)), none] g2 = .ok (.ref g2.length) (g2 ++ [.lst (R.map fun r => adD r.1)]) := by
          unfold b_are_rows_c1
          exact dComp_mapA R ruD (gd := fun _ => True) (h1 := g2) (by simp) (fun r => adD r.1) (fun _ => trivial) (by rw [List.length_map] at hl; omega) fun r hr acc => ⟨[some (.tup (R.map ruD)), some (ruD r)], rfl, by
            have i0 : ixD (ruD r) (.int 0) (g2 ++ [.lst acc]) = some (adD r.1, g2 ++ [.lst acc]) := ixD_tup atI_get0
            simp [i0]⟩
        have hst : (R.map fun r => adD r.1) = (R.map (·.1)).map adD := by rw [List.map_map]; rfl
        rw [hst] at e1
        have el := lenSet_ads (A := R.map (·.1)) (n := g2.length) (h := g2 ++ [.lst ((R.map (·.1)).map adD)]) (fun a ha => by
          obtain ⟨r, hr, rfl⟩ := List.mem_map.mp ha
          have := hR r hr
          unfold okRow at this
          rw [Bool.and_eq_true] at this
          exact ad_ne this.1) (by rw [List.length_map] at hl ⊢; omega) (by simp)
        have nd := uniqA_len (xs := R.map (·.1))
        have hv : decide (((uniqA (R.map (·.1))).length : Int) = R.length) = decide (((R.map ruD).map row0).Nodup) := by
          rw [row0_rus, Bool.eq_iff_iff, decide_eq_true_iff, decide_eq_true_iff, nodup_ads, ← nd, List.length_map]
          omega
        refine gc_ok (g := [.lst (bls ((R.map ruD).map isRowD)), .lst (bls ((R.map ruD).map okRowD)), .lst ((R.map (·.1)).map adD)]) ?_ rfl
        rw [runF_at (σ := [some (.tup (R.map ruD)), none]) (by rfl) (by rfl), b_are_rows]
        rw [show h ++ [O.lst (bls ((R.map ruD).map isRowD)), O.lst (bls ((R.map ruD).map okRowD)), .lst ((R.map (·.1)).map adD)] = g2 ++ [.lst ((R.map (·.1)).map adD)] by rw [← hg2, ← hg1]; simp]
        rw [Bool.true_and, Bool.true_and, ← hv]
        simp [-List.map_map, e3, e2, e1, el]
  | ref n =>
    obtain ⟨ds, e⟩ := k.1
    refine gc_ok (g := []) ?_ rfl
    simp [runF, b_are_rows, tyN_lst e, areD]
  | _ =>
    refine gc_ok (g := []) ?_ rfl
    simp [runF, b_are_rows, areD]
end DL


set_option maxRecDepth 100000
namespace DL
open PySem PySem.Spec PyProof.Rows L2

/-! ## the draws of the later laws -/
def drawn2 (c k m : Int) : Int := (((c + 104729 * k) % 4294967291 * ((c + 104729 * k) % 4294967291) % 4294967279 * 48271 % 4294967291 / 64 * 67108864) + ((c + 104729 * k) % 4294967291 * ((c + 104729 * k) % 4294967291) % 4294967279 * 48271 % 4294967291 * ((c + 104729 * k) % 4294967291 * ((c + 104729 * k) % 4294967291) % 4294967279 * 48271 % 4294967291) % 4294967279 * 69621 % 4294967291 / 64)) % m
def draw2_tail : SS :=
  (sSeq (sSet 5 (dBin modD (dBin addD (dVar 4) (dBin mulD (dC (.int 104729)) (dVar 3))) (dC (.int 4294967291))))
  (sSeq (sSet 5 (dBin modD (dBin mulD (dBin modD (dBin mulD (dVar 5) (dVar 5)) (dC (.int 4294967279))) (dC (.int 48271))) (dC (.int 4294967291))))
  (sSeq (sSet 6 (dBin modD (dBin mulD (dBin modD (dBin mulD (dVar 5) (dVar 5)) (dC (.int 4294967279))) (dC (.int 69621))) (dC (.int 4294967291))))
  (sRet (dBin modD (dBin addD (dBin mulD (dBin fdivD (dVar 5) (dC (.int 64))) (dC (.int 67108864))) (dBin fdivD (dVar 6) (dC (.int 64)))) (dVar 2))))))
theorem draw2_eq : b_law_draw_2 = draw_head 0 draw2_tail := rfl
theorem tail2_spec {a b : D} {m k c : Int} (hm : 0 < m) {h : AH} : draw2_tail [some a, some b, some (.int m), some (.int k), some (.int c), none, none] h = .rt (.int (drawn2 c k m)) h := by
  simp [draw2_tail, drawn2, mulD_l, mulD_r, modD_ii, fdivD_ii, hm]
theorem draw2_nil {k : Nat} {m : Int} (hm : 0 < m) {h : AH} {s t : Nat} (ht0 : h[t]? = some (.lst (List.replicate k (.int 0)))) (hk : k < 1000000)
   (ht1 : (h.set t (T0 (k + 1)))[t]? = some (.lst (List.replicate (k + 1) (.int 0)))) (hs1 : (h.set t (T0 (k + 1)))[s]? = some (.scr [])) (z : Int)
 :    draw_head z draw2_tail [some (.ref s), some (.ref t), some (.int m), none, none, none, none] h = .rt (.int (drawn2 z (k+1) m)) (h.set t (T0 (k + 1))) := by
  have : k < 16777216 := by omega
  simp only [draw_head, sSeq_eq]
  have e1 : sDrop (dMt gLst mAppend (dVar 1) (dCons (dC (.int 0)) dNil)) [some (.ref s), some (.ref t), some (.int m), none, none, none, none] h = .nx [some (.ref s), some (.ref t), some (.int m), none, none, none, none] (h.set t (T0 (k + 1))) := by
    simp [gLst_lst ht0, mAppend_at ht0, T0_snoc, this]
  rw [e1, RS.bind_nx]
  simp [lenL_lst ht1, truD_scr hs1, tail2_spec hm]
theorem draw2_spec {ns : List Int} {k : Nat} {m : Int} (hm : 0 < m) {h : AH} {s t : Nat} (hs : h[s]? = some (.scr (ns.map .int))) (ht : h[t]? = some (T0 k)) (hk : k < 1000000) :
    ∃ v : Int, 0 ≤ v ∧ v < m ∧ m_law_draw_2 [.ref s, .ref t, .int m] h = .ok (.int v) (h.set t (T0 (k + 1))) := by
  have htl : t < h.length := (List.getElem?_eq_some_iff.mp ht).1
  have hne : s ≠ t := fun e => by rw [e, ht] at hs; cases hs
  have ht0 : h[t]? = some (.lst (List.replicate k (.int 0))) := ht
  have ht1 : (h.set t (T0 (k + 1)))[t]? = some (.lst (List.replicate (k + 1) (.int 0))) := by rw [List.getElem?_set_self htl]; rfl
  have hs1 : (h.set t (T0 (k + 1)))[s]? = some (.scr (ns.map .int)) := by rw [List.getElem?_set_ne (Ne.symm hne)]; exact hs
  have key : ∃ v : Int, 0 ≤ v ∧ v < m ∧ runF 7 3 b_law_draw_2 [.ref s, .ref t, .int m] h = .ok (.int v) (h.set t (T0 (k + 1)) ++ []) := by
    have dr : ∀ c k' : Int, 0 ≤ drawn2 c k' m ∧ drawn2 c k' m < m := fun c k' => ⟨Int.emod_nonneg _ (by omega), Int.emod_lt_of_pos _ hm⟩
    by_cases hn : ns = []
    · subst hn
      refine ⟨drawn2 0 (k + 1) m, (dr _ _).1, (dr _ _).2, ?_⟩
      have e := draw2_nil hm ht0 hk ht1 hs1 0
      rw [← draw2_eq] at e
      simp [runF, e]
    · have hl : 0 < ns.length := List.length_pos_iff.mpr hn
      have hl' : (0 : Int) < ns.length := by omega
      obtain ⟨d, hd, hmem⟩ := atI_in (xs := ns.map D.int) (i := ((k : Int) + 1) % (ns.length : Int)) (Int.emod_nonneg _ (by omega)) (by rw [List.length_map]; exact Int.emod_lt_of_pos _ hl')
      obtain ⟨z, _, rfl⟩ := List.mem_map.mp hmem
      refine ⟨drawn2 z (k + 1) m, (dr _ _).1, (dr _ _).2, ?_⟩
      rw [draw2_eq]
      simp [runF, draw_head, gLst_lst ht0, mAppend_at ht0, T0_snoc, lenL_lst ht1, lenL_scr hs1, truD_scr hs1, modD_ii, hn, hl, ixD_scr hs1 hd, show k < 16777216 by omega, tail2_spec hm]
  obtain ⟨v, h0, h1, e⟩ := key
  exact ⟨v, h0, h1, gc_set e rfl (T0_bel _)⟩
section
variable {ns : List Int} {k : Nat} {g : AH}
theorem draw2_W {m : Int} (hm : 0 < m) (hk : k < 1000000) : ∃ v : Int, 0 ≤ v ∧ v < m ∧ m_law_draw_2 [.ref 0, .ref 1, .int m] (W ns k g) = .ok (.int v) (W ns (k + 1) g) :=
  draw2_spec hm W_scr W_T0 hk
theorem pick2_W {n : Nat} {ds : List D} (hk : k < 1000000) (hn : g[n]? = some (.lst ds)) (hne : ds ≠ []) (hb : ∀ d ∈ ds, d.bel 0 = true) : ∃ d ∈ ds, m_law_pick_2 [.ref 0, .ref 1, .ref (n + 2)] (W ns k g) = .ok d (W ns (k + 1) g) := by
  have hl : 0 < ds.length := List.length_pos_iff.mpr hne
  obtain ⟨v, h0, h1, e⟩ := draw2_W (ns := ns) (g := g) (m := ds.length) (by omega) hk
  obtain ⟨d, hd, hm⟩ := atI_in (xs := ds) h0 h1
  have hn0 : (W ns k g)[n + 2]? = some (.lst ds) := hn
  have hn1 : (W ns (k + 1) g)[n + 2]? = some (.lst ds) := hn
  refine ⟨d, hm, gc_W (x := []) ?_ (hb d hm)⟩
  simp [runF, b_law_pick_2, lenL_lst hn0, e, ixD_lst hn1 hd]
theorem pick2_txs {ws : List (List Nat)} (hk : k < 1000000) (hne : ws ≠ []) : ∃ w ∈ ws, m_law_pick_2 [.ref 0, .ref 1, .ref (g.length + 2)] (W ns k (g ++ [.lst (txs ws)])) = .ok (.str w) (W ns (k + 1) (g ++ [.lst (txs ws)])) := by
  obtain ⟨d, hd, e⟩ := pick2_W (ns := ns) (k := k) (g := g ++ [.lst (txs ws)]) (n := g.length) (ds := txs ws) hk (by simp) (by cases ws with | nil => exact absurd rfl hne | cons a b => simp) (fun d hd => by
    obtain ⟨w, _, rfl⟩ := List.mem_map.mp hd
    rfl)
  obtain ⟨w, hw, rfl⟩ := List.mem_map.mp hd
  exact ⟨w, hw, e⟩
theorem pick2_str {L : List Nat} (hk : k < 1000000) (hne : L ≠ []) (hl : L.length ≤ 1000) : ∃ c ∈ L, m_law_pick_2 [.ref 0, .ref 1, .str L] (W ns k g) = .ok (.str [c]) (W ns (k + 1) g) := by
  have h0 : 0 < L.length := List.length_pos_iff.mpr hne
  obtain ⟨v, h0, h1, e⟩ := draw2_W (ns := ns) (g := g) (m := L.length) (by omega) hk
  obtain ⟨c, hc, hm⟩ := atI_in (xs := L) h0 h1
  refine ⟨c, hm, gc_W (x := []) ?_ rfl⟩
  simp [runF, b_law_pick_2, lenL_str (s := L) (by omega), e, ixD_str (s := L) (by omega) hc]
end
/-! ## the law's own unlike -/
theorem m_law_dueOf {n : List Nat} {tk : D} {T : List (List Nat)} {h : AH} (hT : TxAt h tk T) (hl : n.length ≤ 1000) (hm : T.length ≤ 80) : m_law_due [.str n, tk] h = .ok (.str (unl n T)) h := by
  have hT' : ∀ neg w, inD neg (.str w) tk h = some (.bl (xor neg (decide (w ∈ T))), h) := hT
  refine gc_ok (g := []) ?_ rfl
  obtain ⟨s1, s2, s3, s4⟩ := firstFree_spec n T 90 2
  have hlt := firstFree_lt (n := n) hm
  have hfree := s4 (by omega)
  have hu : unl n T = if n ∈ T then num n (firstFree n T 90 2) else n := rfl
  generalize hff : firstFree n T 90 2 = ff at s1 s2 s3 hfree hlt hu
  have wl : (fun r => ∃ k e, r = RS.nx [some (.str n), some tk, some (.int k), some (.str (unl n T)), e] h) (sWhile b_law_due_t1 b_law_due_l1 [some (.str n), some tk, some (.int 1), some (.str n), none] h) := by
    refine while_inv (fun σ hh => ∃ (k : Nat) (got : List Nat) (e : Option D), σ = [some (.str n), some tk, some (.int k), some (.str got), e] ∧ hh = h ∧ (k = 1 ∧ got = n ∨ 2 ≤ k ∧ k ≤ ff ∧ n ∈ T ∧ got = num n k)) (fun σ _ => match σ[2]? with | some (some (D.int i)) => ff - i.toNat | _ => 0) (fun r => ∃ k e, r = RS.nx [some (.str n), some tk, some (.int k), some (.str (unl n T)), e] h) ?_ (by rintro ⟨_, _, e⟩; cases e) _ _ ⟨1, n, none, rfl, rfl, .inl ⟨rfl, rfl⟩⟩
    rintro σ hh ⟨k, got, e, rfl, rfl, hk⟩
    have et : b_law_due_t1 [some (.str n), some tk, some (.int k), some (.str got), e] hh = .ok (decide (got ∈ T)) hh := by
      simp [b_law_due_t1, hT']
    have step : k + 1 < 100 → b_law_due_l1 [some (.str n), some tk, some (.int k), some (.str got), e] hh = .nx [some (.str n), some tk, some (.int ((k + 1 : Nat) : Int)), some (.str (num n (k + 1))), some (.str (numEnd (k + 1)))] hh := by
      intro hk1
      obtain ⟨h2, h3⟩ := numEnd_len hk1
      have e1 := strL_nat hk1 (h := hh)
      have e2 := add_end hk1 (h := hh)
      have e3 := front_cut hk1 hl (h := hh)
      have e6 : lenL [.str (numEnd (k + 1))] hh = some (.int (numEnd (k + 1)).length, hh) := lenL_str (by omega)
      have e5 : addD (.str (strip45 (n.take (12 - (numEnd (k + 1)).length)))) (.str (numEnd (k + 1))) hh = some (.str (num n (k + 1)), hh) := by
        rw [addD_ss]
        · rfl
        · have := strip45_le (n.take (12 - (numEnd (k + 1)).length))
          rw [List.length_take] at this
          omega
      have e4 : mS1 Txt.rstripChars (.str (n.take (12 - (numEnd (k + 1)).length))) [.str [45]] hh = some (.str (strip45 (n.take (12 - (numEnd (k + 1)).length))), hh) := by
        unfold mS1
        dsimp only
        rw [if_pos (by rw [List.length_take]; omega), rstripC]
      have e0 : ((k : Int) + 1) = ((k + 1 : Nat) : Int) := by omega
      revert e1 e2 e3 e6 e5 e4 e0
      generalize numEnd (k + 1) = en
      generalize istr ((k + 1 : Nat) : Int) = s
      generalize ((k + 1 : Nat) : Int) = K
      generalize num n (k + 1) = r
      generalize n.take (12 - en.length) = F
      generalize strip45 F = G
      intro e1 e2 e3 e6 e5 e4 e0
      simp [b_law_due_l1, e0, e1, e2, e3, e4, e5, e6]
    rcases hk with ⟨rfl, rfl⟩ | ⟨hk2, hkf, hin, rfl⟩
    · by_cases hin : got ∈ T
      · refine .inr ⟨hh, _, hh, by rw [et, decide_eq_true hin], .inl (step (by omega)), ⟨2, num got 2, _, rfl, rfl, .inr ⟨by omega, s1, hin, rfl⟩⟩, ?_⟩
        simp only [List.getElem?_cons_succ, List.getElem?_cons_zero, Int.toNat_natCast]
        omega
      · refine .inl ⟨hh, by rw [et, decide_eq_false hin], ((1 : Nat) : Int), e, ?_⟩
        rw [hu, if_neg hin]
    · by_cases e' : k = ff
      · subst e'
        refine .inl ⟨hh, by rw [et, decide_eq_false hfree], ((k : Nat) : Int), e, ?_⟩
        rw [hu, if_pos hin]
      · refine .inr ⟨hh, _, hh, by rw [et, decide_eq_true (s3 k hk2 (by omega))], .inl (step (by omega)), ⟨k + 1, _, _, rfl, rfl, .inr ⟨by omega, by omega, hin, rfl⟩⟩, ?_⟩
        simp only [List.getElem?_cons_succ, List.getElem?_cons_zero, Int.toNat_natCast]
        omega
  obtain ⟨k, e, wl⟩ := wl
  simp [runF, b_law_due, wl]
end DL


set_option maxRecDepth 100000
namespace DL
open PySem PySem.Spec PyProof.Rows L2

/-! ## k32: addresses and rows drawn -/
def n32 : List (List Nat) := [[97], [98, 45, 99], [120, 57], [112, 97, 103, 101], [97, 98, 99, 100, 101, 102, 103, 104, 105, 106, 107, 108], [48]]
theorem n32_nm : ∀ w ∈ n32, isNm w = true := by decide
theorem okAd_of {ws : Ad} (h1 : 1 ≤ ws.length) (h2 : ws.length ≤ 4) (h : ∀ w ∈ ws, isNm w = true) : okAd ws = true := by
  unfold okAd
  simp only [Bool.and_eq_true, decide_eq_true_eq, List.all_eq_true]
  exact ⟨⟨h1, h2⟩, h⟩
theorem m_law_address_2Of {ns : List Int} {k : Nat} {g : AH} (hk : k ≤ 800000) : ∃ a k', okAd a = true ∧ k' ≤ k + 5 ∧ m_law_address_2 [.ref 0, .ref 1] (W ns k g) = .ok (adD a) (W ns k' g) := by
  obtain ⟨v, v0, v1, ev⟩ := draw2_W (ns := ns) (k := k) (g := g ++ [.lst (txs n32)]) (m := 4) (by omega) (by omega)
  have er := iRg1K_int (n := 1 + v) (h := W ns (k + 1) (g ++ [.lst (txs n32)])) (by omega) (by omega)
  have hil : (iota 0 (1 + v).toNat).length = (1 + v).toNat := iota_length
  obtain ⟨ds, k', j', e, hdl, hP, hk'⟩ := dComp_W (ns := ns) (g := g ++ [.lst (txs n32)]) (k := k + 1) (items := iota 0 (1 + v).toNat) (gd := fun _ => True) (fi := iRng1 (dCons (dBin addD (dC (.int 1)) (dCall m_law_draw_2 (dCons (dVar 0) (dCons (dVar 1) (dCons (dC (.int 4)) dNil))))) dNil)) (σ := [some (.ref 0), some (.ref 1), some (.ref (g.length + 2)), none]) (h := W ns k (g ++ [.lst (txs n32)])) (vs := [3]) (gf := gNm 3) (fe := dCall m_law_pick_2 (dCons (dVar 0) (dCons (dVar 1) (dCons (dVar 2) dNil)))) 1 (fun d => ∃ w, d = .str w ∧ isNm w = true)
    (by simp [-W_len, ev, er]) (fun _ _ => trivial) (by omega) (by omega) (by
      intro d hd acc k j hk
      obtain ⟨c, hc, ep⟩ := pick2_W (ns := ns) (k := k) (g := g ++ [.lst (txs n32)] ++ .lst acc :: j) (n := g.length) (ds := txs n32) (by omega) (by simp) (by unfold n32; simp) (by unfold n32; simp [D.bel])
      obtain ⟨w, hw, rfl⟩ := List.mem_map.mp hc
      exact ⟨[some (.ref 0), some (.ref 1), some (.ref (g.length + 2)), some d], .str w, k + 1, j, rfl, ⟨w, rfl, n32_nm w hw⟩, by omega, by simp [-W_len, -List.append_assoc, ep]⟩)
  obtain ⟨ws, rfl, hw⟩ := ds_txs hP
  generalize hm : (g ++ [O.lst (txs n32)]).length = m at e
  have et : tupleL [.ref (m + 2)] (W ns k' (g ++ [.lst (txs n32)] ++ .lst (txs ws) :: j')) = some (adD ws, W ns k' (g ++ [.lst (txs n32)] ++ .lst (txs ws) :: j')) := tupleL_lst (by rw [← hm]; exact W_new 0)
  rw [txs_length, hil] at hdl
  rw [hil] at hk'
  refine ⟨ws, k', okAd_of (by omega) (by omega) hw, by omega, gc_W (x := .lst (txs n32) :: .lst (txs ws) :: j') ?_ adD_bel⟩
  have e' : b_law_address_2_c1 [some (.ref 0), some (.ref 1), some (.ref (g.length + 2)), none] (W ns k (g ++ [.lst (txs n32)])) = _ := e
  have e1 : sSet 2 (dLst (lits (txs n32))) [some (.ref 0), some (.ref 1), none, none] (W ns k g) = .nx [some (.ref 0), some (.ref 1), some (.ref (g.length + 2)), none] (W ns k (g ++ [.lst (txs n32)])) := by
    have : n32.length ≤ 16777216 := by decide
    simp [this]
  have hb : b_law_address_2 = (sSeq (sSet 2 (dLst (lits (txs n32)))) (sRet (dCallB tupleL (dCons b_law_address_2_c1 dNil)))) := rfl
  rw [runF_at (σ := [some (.ref 0), some (.ref 1), none, none]) (by rfl) (by rfl), hb, sSeq_eq, e1, RS.bind_nx]
  simp only [sRet_eq, dCallB_eq, dCons_eq, dNil_eq, e', DL.R.bindA_ok, RA.bindA_ok, RA.bind_ok, et, ofO_some, DL.R.bindS_ok]
  simp
abbrev Rw := Ad × Ad
def kvA (R : List Rw) : List (D × D) := R.map fun r => (adD r.1, adD r.2)
theorem kvA_put {R : List Rw} {r : Rw} : putD (kvA R) (adD r.1) (adD r.2) = kvA (updA Prod.fst R r) :=
  putD_map (key := Prod.fst) (kd := fun r : Rw => adD r.1) (vd := fun r => adD r.2) (fun s _ => sameK_ad) (fun s _ e => by rw [e])
theorem updA_all {R : List Rw} {r : Rw} {P : Rw → Prop} (h : ∀ s ∈ R, P s) (hr : P r) : ∀ s ∈ updA Prod.fst R r, P s := by
  intro s hs
  unfold updA at hs
  split at hs
  · obtain ⟨q, hq, rfl⟩ := List.mem_map.mp hs
    split
    · exact hr
    · exact h q hq
  · rcases List.mem_append.mp hs with hs | hs
    · exact h s hs
    · rw [List.mem_singleton] at hs; rw [hs]; exact hr
theorem rows5_turn {ns : List Int} {k : Nat} {g : AH} {R : List Rw} (hk : k ≤ 700000) (hl : R.length ≤ 100) {x : Option D} :
    ∃ r k', okRow r = true ∧ k' ≤ k + 10 ∧ b_law_rows_5_l1 [some (.ref 0), some (.ref 1), some (.ref (g.length + 2)), x] (W ns k (g ++ [.dcT (kvA R)])) = .nx [some (.ref 0), some (.ref 1), some (.ref (g.length + 2)), x] (W ns k' (g ++ [.dcT (kvA (updA Prod.fst R r))])) := by
  obtain ⟨a, k1, ha, hk1, e1⟩ := m_law_address_2Of (ns := ns) (k := k) (g := g ++ [.dcT (kvA R)]) (by omega)
  obtain ⟨b, k2, hb, hk2, e2⟩ := m_law_address_2Of (ns := ns) (k := k1) (g := g ++ [.dcT (kvA R)]) (by omega)
  have hg : (W ns k2 (g ++ [.dcT (kvA R)]))[g.length + 2]? = some (.dcT (kvA R)) := by rw [W_get]; simp
  have ep := putH_T (v := adD a) hg (keyAs_ad (a := b) (ad_ne hb)) (by unfold kvA; rw [List.length_map]; omega)
  have hset : (W ns k2 (g ++ [O.dcT (kvA R)])).set (g.length + 2) (.dcT (putD (kvA R) (adD b) (adD a))) = W ns k2 (g ++ [.dcT (kvA (updA Prod.fst R (b, a)))]) := by
    rw [show putD (kvA R) (adD b) (adD a) = kvA (updA Prod.fst R (b, a)) from kvA_put (r := (b, a))]
    show W ns k2 ((g ++ [O.dcT (kvA R)]).set g.length (.dcT (kvA (updA Prod.fst R (b, a))))) = _
    rw [set_new0]
    rfl
  rw [hset] at ep
  refine ⟨(b, a), k2, by unfold okRow; rw [ha, hb]; rfl, by omega, ?_⟩
  unfold b_law_rows_5_l1
  simp [-W_len, e1, e2, ep]
theorem m_law_rows_5Of {ns : List Int} {k : Nat} {g : AH} (hk : k ≤ 600000) : ∃ R k', (∀ r ∈ R, okRow r = true) ∧ (R.map (·.1)).Nodup ∧ R.length ≤ 7 ∧ k' ≤ k + 100 ∧ m_law_rows_5 [.ref 0, .ref 1] (W ns k g) = .ok (rusD R) (W ns k' g) := by
  obtain ⟨v, v0, v1, ev⟩ := draw2_W (ns := ns) (k := k) (g := g ++ [.dcT (kvA [])]) (m := 8) (by omega) (by omega)
  have er := iRg1K_int (n := v) (h := W ns (k + 1) (g ++ [.dcT (kvA [])])) v0 (by omega)
  have hil : (iota 0 v.toNat).length = v.toNat := iota_length
  have lp := forL_all (gd := fun _ => True) (g := gNm 3) (body := b_law_rows_5_l1) (items := iota 0 v.toNat) (σ := [some (.ref 0), some (.ref 1), some (.ref (g.length + 2)), none]) (h := W ns (k + 1) (g ++ [.dcT (kvA [])]))
    (fun i σ h => ∃ R k' x, (R.map Prod.fst).Nodup ∧ (∀ s ∈ R, okRow s = true) ∧ R.length ≤ i ∧ i ≤ 7 ∧ k' ≤ k + 1 + 10 * i ∧ σ = [some (.ref 0), some (.ref 1), some (.ref (g.length + 2)), x] ∧ h = W ns k' (g ++ [.dcT (kvA R)])) ⟨[], k + 1, none, by simp, by simp, by simp, by omega, by omega, rfl, rfl⟩ (fun _ _ _ _ => trivial)
    (by
      rintro i σ h d hd ⟨R, k', x, nd, sm, hl, hi, hk', rfl, rfl⟩
      obtain ⟨rfl, hlt⟩ := iota_get hd
      obtain ⟨r, k2, h1, hk2, e⟩ := rows5_turn (ns := ns) (k := k') (g := g) (R := R) (x := some (.int (0 + (i : Int)))) (by omega) (by omega)
      have hlu : (updA Prod.fst R r).length ≤ R.length + 1 := by
        unfold updA
        split <;> simp
      exact ⟨_, _, _, rfl, .inl e, updA Prod.fst R r, k2, _, updA_nodup nd, updA_all sm h1, by omega, by omega, by omega, rfl, rfl⟩)
  obtain ⟨σ', h', el, R, k', x, nd, sm, hl, hi, hk', rfl, rfl⟩ := lp
  rw [hil] at hl hi hk'
  have hg : (W ns k' (g ++ [.dcT (kvA R)]))[g.length + 2]? = some (.dcT (kvA R)) := by rw [W_get]; simp
  have hT : D.tup ((kvA R).map pairD) = rusD R := by
    unfold kvA rusD
    rw [List.map_map]
    rfl
  have et : dTupIt (dVar 2) [some (.ref 0), some (.ref 1), some (.ref (g.length + 2)), x] (W ns k' (g ++ [.dcT (kvA R)])) = .ok (rusD R) (W ns k' (g ++ [.dcT (kvA R)])) := by
    show (DL.R.bind _ _) = _
    rw [dVar_at (d := .ref (g.length + 2)) rfl]
    simp only [DL.R.bind_ok, hg, hT]
  refine ⟨R, k', sm, nd, by omega, by omega, gc_W (x := [.dcT (kvA R)]) ?_ rusD_bel⟩
  have e0 : W ns k g ++ [.dcT []] = W ns k (g ++ [.dcT (kvA [])]) := rfl
  rw [runF_at (σ := [some (.ref 0), some (.ref 1), none, none]) (by rfl) (by rfl), b_law_rows_5]
  have e1 : sSet 2 (dDct true) [some (.ref 0), some (.ref 1), none, none] (W ns k g) = .nx [some (.ref 0), some (.ref 1), some (.ref (g.length + 2)), none] (W ns k (g ++ [.dcT (kvA [])])) := by
    simp [e0]
  rw [sSeq_eq, e1, RS.bind_nx, sSeq_eq]
  have e2 : sFor (iRng1 (dCons (dCall m_law_draw_2 (dCons (dVar 0) (dCons (dVar 1) (dCons (dC (.int 8)) dNil)))) dNil)) (gNm 3) b_law_rows_5_l1 [some (.ref 0), some (.ref 1), some (.ref (g.length + 2)), none] (W ns k (g ++ [.dcT (kvA [])])) = .nx [some (.ref 0), some (.ref 1), some (.ref (g.length + 2)), x] (W ns k' (g ++ [.dcT (kvA R)])) := by
    simp [-W_len, ev, er, el]
  rw [e2, RS.bind_nx, sRet_eq, et]
  simp
/-! ### read, refused -/
def oruP : Option (List Rw) → D
  | none => .non
  | some R => rusD R
theorem m_law_readOf {t : List Nat} (hl : t.length ≤ 900) (hn : (splitC 10 t).length ≤ 60) {h : AH} : m_law_read [.str t] h = .ok (oruP (readP t)) h := by
  have e := m_read_rowsOf hl hn (h := h)
  cases q : readP t with
  | none =>
    rw [q] at e
    refine gc_ok (g := []) ?_ rfl
    rw [runF_at (σ := [some (.str t)]) (by rfl) (by rfl), b_law_read, List.append_nil]
    simp [sTry, e, oruP]
  | some R =>
    rw [q] at e
    refine gc_ok (g := []) ?_ rusD_bel
    rw [runF_at (σ := [some (.str t)]) (by rfl) (by rfl), b_law_read, List.append_nil]
    simp [sTry, e, oruP]
def oadP (t : List Nat) : D := if isAdD (adOf t) = true then adOf t else .non
theorem m_law_read_oneOf {t : List Nat} (hl : t.length ≤ 900) {h : AH} : m_law_read_one [.str t] h = .ok (oadP t) h := by
  have e := m_read_addressOf hl (h := h)
  unfold oadP
  by_cases q : isAdD (adOf t) = true
  · rw [if_pos q] at e ⊢
    refine gc_ok (g := []) ?_ (txs_bel 0 _)
    rw [runF_at (σ := [some (.str t)]) (by rfl) (by rfl), b_law_read_one, List.append_nil]
    simp [sTry, e]
  · rw [if_neg q] at e ⊢
    refine gc_ok (g := []) ?_ rfl
    rw [runF_at (σ := [some (.str t)]) (by rfl) (by rfl), b_law_read_one, List.append_nil]
    simp [sTry, e]
/-- the lines -/
theorem m_law_linesOf {R : List Rw} (hR : ∀ r ∈ R, okRow r = true) (hl : R.length ≤ 1000) {h : AH} : m_law_lines [rusD R] h = .ok (.ref h.length) (h ++ [.lst (txs (R.map lineP))]) := by
  have ec : b_law_lines_c1 [some (rusD R), none, none] h = .ok (.ref h.length) (h ++ [.lst (txs (R.map lineP))]) := by
    unfold b_law_lines_c1
    rw [show txs (R.map lineP) = R.map fun r => D.str (lineP r) from by unfold txs; rw [List.map_map]; rfl]
    refine dComp_mapA R ruD (gd := fun _ => True) (h1 := h) (by simp [iK_rus]) (fun r => .str (lineP r)) (fun _ => trivial) (by omega) fun r hr acc => ⟨[some (rusD R), some (adD r.1), some (adD r.2)], rfl, ?_⟩
    have hr := hR r hr
    obtain ⟨l1, l2, l3⟩ := line_of hr (h := h ++ [.lst acc])
    unfold okRow at hr
    rw [Bool.and_eq_true] at hr
    have e1 : mJoin (.str [47]) [adD r.1] (h ++ [.lst acc]) = some (.str (adT r.1), h ++ [.lst acc]) := mJoin_tup (by have := (adT_len hr.1).2; omega)
    have e2 : mJoin (.str [47]) [adD r.2] (h ++ [.lst acc]) = some (.str (adT r.2), h ++ [.lst acc]) := mJoin_tup (by have := (adT_len hr.2).2; omega)
    simp [e1, e2, l1, l2, l3]
  refine gc_new (m := h.length) (g := [.lst (txs (R.map lineP))]) ?_ (Nat.le_refl _) (by rw [Nat.sub_self]; rfl) (txs_bel 0 _) rfl
  rw [runF_at (σ := [some (rusD R), none, none]) (by rfl) (by rfl), b_law_lines]
  simp [ec]
end DL


set_option maxRecDepth 100000
namespace DL
open PySem PySem.Spec PyProof.Rows L2

/-! ## k32: the parts of a turn -/
theorem cut_one {α : Type} {xs : List α} {i : Nat} {x : α} (hi : xs[i]? = some x) : cut xs (some (i : Int)) (some ((i + 1 : Nat) : Int)) = [x] := by
  have hl : i < xs.length := (List.getElem?_eq_some_iff.mp hi).1
  have e : cut xs (some (i : Int)) (some ((i + 1 : Nat) : Int)) = (xs.drop i).take 1 := by
    unfold cut
    rw [HT.sIx_nat, HT.sIx_nat, Nat.min_eq_left (by omega), Nat.min_eq_left (by omega)]
    congr 1
    omega
  rw [e, List.drop_eq_getElem_cons hl, List.take_succ_cons, List.take_zero]
  rw [List.getElem?_eq_getElem hl] at hi
  rw [Option.some.inj hi]
theorem eqD_rus {neg : Bool} {R Q : List Rw} {h : AH} : eqD neg (rusD R) (rusD Q) h = some (.bl (xor neg (decide (R = Q))), h) := by
  have hb : ∀ R : List Rw, okN 3 (rusD R) = true := fun R => by
    unfold rusD okN
    rw [List.all_eq_true]
    intro d hd
    obtain ⟨r, _, rfl⟩ := List.mem_map.mp hd
    exact ruD_okN
  have hi : rusD R = rusD Q ↔ R = Q := by
    refine ⟨fun e => ?_, fun e => by rw [e]⟩
    unfold rusD at e
    injection e with e
    refine List.map_inj_right (f := ruD) (fun a b e => ?_) |>.mp e
    unfold ruD at e
    injection e with e
    simp only [List.cons.injEq, and_true] at e
    obtain ⟨p, q⟩ := a
    obtain ⟨u, v⟩ := b
    exact Prod.ext (adD_inj.mp e.1) (adD_inj.mp e.2)
  rw [eqD_okN 3 (by omega) (hb R) (hb Q)]
  simp only [hi]
theorem join_lines {R : List Rw} (hR : ∀ r ∈ R, okRow r = true) (hl : R.length ≤ 1000) {n : Nat} {h : AH} (e : h[n]? = some (.lst (txs (R.map lineP)))) : mJoin (.str []) [.ref n] h = some (.str (rtextP R), h) := by
  have ej := mJoin_lst (sep := []) (ws := R.map lineP) (n := n) (h := h) e (by
    have := flatten_len (n := 106) (ls := R.map lineP) fun l hl => by
      obtain ⟨r, hr, rfl⟩ := List.mem_map.mp hl
      exact (lineP_len (hR r hr)).2
    rw [joinLen_nil]
    rw [List.length_map] at this
    omega)
  rw [joinL_nil] at ej
  exact ej
theorem split_cnt {R : List Rw} (hR : ∀ r ∈ R, okRow r = true) (hl : R.length ≤ 20) : (splitC 10 (rtextP R)).length ≤ 60 := by
  rw [split_rtext0 hR]
  simp only [List.length_append, List.length_map, List.length_singleton]
  omega
theorem law_read_rows {R : List Rw} (hR : ∀ r ∈ R, okRow r = true) (hl : R.length ≤ 7) (nd : (R.map (·.1)).Nodup) {h : AH} : m_law_read [.str (rtextP R)] h = .ok (rusD R) h := by
  have := rtext_len hR
  rw [m_law_readOf (by omega) (split_cnt hR (by omega)), read_rtext hR nd]
  rfl
theorem known3_rus {R : List Rw} (hR : ∀ r ∈ R, okRow r = true) (hl : R.length ≤ 60) {h : AH} : known3 h (rusD R) := by
  refine ⟨trivial, fun ds e => ?_⟩
  cases e
  refine ⟨by rw [List.length_map]; exact hl, fun x hx => ?_⟩
  obtain ⟨r, hr, rfl⟩ := List.mem_map.mp hx
  refine ⟨trivial, fun es e y hy => ?_⟩
  cases e
  have hr := hR r hr
  unfold okRow at hr
  rw [Bool.and_eq_true] at hr
  have kk : ∀ a : Ad, okAd a = true → knownD h (adD a) := fun a ha => knownD_txs (by have := ad_le ha; omega) fun w hw => by have := isNm_len (ad_nm ha w hw); omega
  simp only [List.mem_cons, List.not_mem_nil, or_false] at hy
  rcases hy with rfl | rfl
  · exact kk _ hr.1
  · exact kk _ hr.2
theorem oadP_adT {a : Ad} (h : okAd a = true) : oadP (adT a) = adD a := by
  unfold oadP
  rw [adOf_eq, split_adT h, isAdD_ad, if_pos h]
theorem nodup_mid {R : List Rw} {i : Nat} (nd : (R.map (·.1)).Nodup) : ((R.take i ++ R.drop (i + 1)).map (·.1)).Nodup := by
  refine nd.sublist (List.Sublist.map _ ?_)
  have e : R = R.take i ++ R.drop i := (List.take_append_drop i R).symm
  conv => rhs; rw [e]
  exact List.Sublist.append (List.Sublist.refl _) (List.drop_sublist_drop_left R (by omega))
theorem k32_one {R : List Rw} (hR : ∀ r ∈ R, okRow r = true) (nd : (R.map (·.1)).Nodup) (hl : R.length ≤ 7) {i : Nat} {r : Rw} (hi : R[i]? = some r) {n : Nat} {h : AH} (hn : h[n]? = some (.lst (txs (R.map lineP)))) {a0 a1 a2 a4 a5 a7 a9 : Option D} :
    ∃ b9 j, b_law_k32_l3 [a0, a1, a2, some (rusD R), a4, a5, some (.ref n), a7, some (.int (i : Nat)), a9, some (adD r.1), some (adD r.2)] h = .nx [a0, a1, a2, some (rusD R), a4, a5, some (.ref n), a7, some (.int (i : Nat)), b9, some (adD r.1), some (adD r.2)] (h ++ j) := by
  have hil : i < R.length := (List.getElem?_eq_some_iff.mp hi).1
  have hrm : r ∈ R := List.mem_of_getElem? hi
  have hr := hR r hrm
  have hr1 : okAd r.1 = true := by unfold okRow at hr; rw [Bool.and_eq_true] at hr; exact hr.1
  have q1 : m_address_text [adD r.1] h = .ok (.str (adT r.1)) h := m_address_textOf (ws := r.1) (by have := (adT_len hr1).2; omega)
  have q2 : mJoin (.str [47]) [adD r.1] h = some (.str (adT r.1), h) := mJoin_tup (by have := (adT_len hr1).2; omega)
  have q3 : m_law_read_one [.str (adT r.1)] h = .ok (adD r.1) h := by
    rw [m_law_read_oneOf (by have := (adT_len hr1).1; omega), oadP_adT hr1]
  have q4 : m_is_address [adD r.1] h = .ok (.bl true) h := by
    have := m_is_addressD (d := adD r.1) (h := h) (knownD_txs (by have := ad_le hr1; omega) fun w hw => by have := isNm_len (ad_nm hr1 w hw); omega)
    rw [isAdD_ad, hr1] at this
    exact this
  have q5 : eqD true (adD r.1) (adD r.1) h = some (.bl false, h) := by rw [eqD_ad]; simp
  -- the lines but one
  generalize hL : R.map lineP = L at hn
  have hLi : (txs L)[i]? = some (.str (lineP r)) := by
    rw [← hL]; unfold txs
    rw [List.getElem?_map, List.getElem?_map, hi]; rfl
  have c1 : slK (.ref n) none (some (i : Int)) h = some (.ref h.length, h ++ [.lst (txs (L.take i))]) := by rw [slK_lst hn, cut_hi, txs_take]
  have c2 : slK (.ref n) (some ((i : Int) + 1)) none (h ++ [.lst (txs (L.take i))]) = some (.ref (h.length + 1), h ++ [.lst (txs (L.take i))] ++ [.lst (txs (L.drop (i + 1)))]) := by
    have : ((i : Int) + 1) = ((i + 1 : Nat) : Int) := by omega
    rw [slK_lst (get_app hn), this, cut_lo, txs_drop]
    simp
  have hLl : L.length ≤ 7 := by rw [← hL, List.length_map]; exact hl
  have c3 : addD (.ref h.length) (.ref (h.length + 1)) (h ++ [O.lst (txs (L.take i))] ++ [O.lst (txs (L.drop (i + 1)))]) = some (.ref (h.length + 2), h ++ [.lst (txs (L.take i))] ++ [.lst (txs (L.drop (i + 1)))] ++ [.lst (txs (L.take i) ++ txs (L.drop (i + 1)))]) := by
    rw [addD_ll (xs := txs (L.take i)) (ys := txs (L.drop (i + 1))) (by simp) (by simp) (by simp; omega)]
    simp
  have hlm : txs (L.take i) ++ txs (L.drop (i + 1)) = txs ((R.take i ++ R.drop (i + 1)).map lineP) := by
    rw [← txs_app, ← hL, ← List.map_take, ← List.map_drop, ← List.map_append]
  generalize hG : h ++ [O.lst (txs (L.take i))] ++ [O.lst (txs (L.drop (i + 1)))] ++ [O.lst (txs (L.take i) ++ txs (L.drop (i + 1)))] = G at c3
  have hG2 : G[h.length + 2]? = some (.lst (txs ((R.take i ++ R.drop (i + 1)).map lineP))) := by rw [← hG, hlm]; simp
  have hmid : ∀ x ∈ R.take i ++ R.drop (i + 1), okRow x = true := fun x hx => by
    rcases List.mem_append.mp hx with hx | hx
    · exact hR x (List.mem_of_mem_take hx)
    · exact hR x (List.mem_of_mem_drop hx)
  have hml : (R.take i ++ R.drop (i + 1)).length ≤ 7 := by simp; omega
  have c4 := join_lines hmid (by omega) hG2
  have c5 := law_read_rows hmid hml (nodup_mid nd) (h := G)
  generalize hM : R.take i ++ R.drop (i + 1) = M at *
  have t1 : slK (rusD R) none (some (i : Int)) G = some (rusD (R.take i), G) := by unfold rusD; rw [slK_tup, cut_hi, List.map_take]
  have t2 : slK (rusD R) (some ((i : Int) + 1)) none G = some (rusD (R.drop (i + 1)), G) := by
    have : ((i : Int) + 1) = ((i + 1 : Nat) : Int) := by omega
    unfold rusD; rw [slK_tup, this, cut_lo, List.map_drop]
  have t3 : addD (rusD (R.take i)) (rusD (R.drop (i + 1))) G = some (rusD M, G) := by
    unfold rusD
    rw [addD_tt (by simp; omega), ← List.map_append, hM]
  have t4 : eqD true (rusD M) (rusD M) G = some (.bl false, G) := by rw [eqD_rus]; simp
  -- one line twice
  have hnG : G[n]? = some (.lst (txs L)) := by rw [← hG]; exact get_app (get_app (get_app hn))
  have d1 : slK (.ref n) (some (i : Int)) (some ((i : Int) + 1)) G = some (.ref G.length, G ++ [.lst [.str (lineP r)]]) := by
    have : ((i : Int) + 1) = ((i + 1 : Nat) : Int) := by omega
    rw [slK_lst hnG, this, cut_one hLi]
  have d2 : addD (.ref n) (.ref G.length) (G ++ [O.lst [.str (lineP r)]]) = some (.ref (G.length + 1), G ++ [.lst [.str (lineP r)]] ++ [.lst (txs L ++ [.str (lineP r)])]) := by
    rw [addD_ll (xs := txs L) (ys := [.str (lineP r)]) (get_app hnG) (by simp) (by simp; omega)]
    simp
  have hl2 : txs L ++ [.str (lineP r)] = txs ((R ++ [r]).map lineP) := by rw [List.map_append, txs_app, hL]; rfl
  generalize hG3 : G ++ [O.lst [.str (lineP r)]] ++ [O.lst (txs L ++ [.str (lineP r)])] = G3 at d2
  have hG3i : G3[G.length + 1]? = some (.lst (txs ((R ++ [r]).map lineP))) := by rw [← hG3, hl2]; simp
  have hR2 : ∀ x ∈ R ++ [r], okRow x = true := fun x hx => by
    rcases List.mem_append.mp hx with hx | hx
    · exact hR x hx
    · rw [List.mem_singleton.mp hx]; exact hr
  have d3 := join_lines hR2 (by simp; omega) hG3i
  have nn : ¬ ((R ++ [r]).map (·.1)).Nodup := by
    rw [List.map_append, List.nodup_append]
    rintro ⟨_, _, z⟩
    exact z r.1 (List.mem_map.mpr ⟨r, hrm, rfl⟩) r.1 (by simp) rfl
  have d4 : m_law_read [.str (rtextP (R ++ [r]))] G3 = .ok .non G3 := by
    have := rtext_len hR2
    simp only [List.length_append, List.length_singleton] at this
    have h8 : (R ++ [r]).length ≤ 20 := by simp; omega
    rw [m_law_readOf (by omega) (split_cnt hR2 h8), read_twice hR2 nn]
    rfl
  have hq : okAd [[113]] = true := by decide
  have d5 : addD (rusD R) (.tup [.tup [adD r.1, .tup [.str [113]]]]) G3 = some (rusD (R ++ [(r.1, [[113]])]), G3) := by
    unfold rusD
    rw [addD_tt (by simp; omega), List.map_append]
    rfl
  have hR3 : ∀ x ∈ R ++ [(r.1, ([[113]] : Ad))], okRow x = true := fun x hx => by
    rcases List.mem_append.mp hx with hx | hx
    · exact hR x hx
    · rw [List.mem_singleton.mp hx]; unfold okRow; rw [hr1, hq]; rfl
  have d6 : m_are_rows [rusD (R ++ [(r.1, [[113]])])] G3 = .ok (.bl false) G3 := by
    rw [m_are_rowsD (known3_rus hR3 (by simp; omega)), are_rus hR3, decide_eq_false]
    rw [List.map_append, List.nodup_append]
    rintro ⟨_, _, z⟩
    exact z r.1 (List.mem_map.mpr ⟨r, hrm, rfl⟩) r.1 (by simp) rfl
  refine ⟨some (.str (rtextP M)), [O.lst (txs (L.take i)), O.lst (txs (L.drop (i + 1))), O.lst (txs (L.take i) ++ txs (L.drop (i + 1))), O.lst [.str (lineP r)], O.lst (txs L ++ [.str (lineP r)])], ?_⟩
  have hend : h ++ [O.lst (txs (L.take i)), O.lst (txs (L.drop (i + 1))), O.lst (txs (L.take i) ++ txs (L.drop (i + 1))), O.lst [.str (lineP r)], O.lst (txs L ++ [.str (lineP r)])] = G3 := by rw [← hG3, ← hG]; simp
  rw [hend]
  unfold b_law_k32_l3
  simp [-List.append_assoc, q1, q2, q3, q4, q5, c1, c2, c3, c4, c5, t1, t2, t3, t4, d1, d2, d3, d4, d5, d6]
end DL


set_option maxRecDepth 100000
namespace DL
open PySem PySem.Spec PyProof.Rows L2
noncomputable section
def b_law_told_5 : SS :=
  (sSeq (sSet 1 (dC .non))
  (sSeq (sTry [("NoText", true)] (sSet 1 (dCall m_read_rows (dCons (dVar 0) dNil))) (sSet 1 (dC (.str [114, 101, 102, 117, 115, 101, 100]))))
  (sRet (dVar 1))))
def m_law_told_5 : Fn := gcF (runF 2 1 b_law_told_5)
def b_law_are_l1 : SS :=
  (sSeq (sIf (dOr (dNot (dTru (dIsi "tuple" (dVar 2)))) (dOr (isB (dBin (eqD true) (dCallB lenL (dCons (dVar 2) dNil)) (dC (.int 2)))) (dOr (dNot (dTru (dCall m_law_is_address (dCons (dBin ixD (dVar 2) (dC (.int 0))) dNil)))) (dNot (dTru (dCall m_law_is_address (dCons (dBin ixD (dVar 2) (dC (.int 1))) dNil)))))))
    (sRet (dC (.bl false)))
    sNil)
   (sSeq (sIf (isB (dBin (inD false) (dBin ixD (dVar 2) (dC (.int 0))) (dVar 1)))
    (sRet (dC (.bl false)))
    sNil)
   (sDrop (dMt gLst mAppend (dVar 1) (dCons (dBin ixD (dVar 2) (dC (.int 0))) dNil)))))
def b_law_are : SS :=
  (sSeq (sIf (dNot (dTru (dIsi "tuple" (dVar 0))))
   (sRet (dC (.bl false)))
   sNil)
  (sSeq (sSet 1 (dLst dNil))
  (sSeq (sFor (iSeq (dVar 0)) (gNm 2)
   b_law_are_l1)
  (sRet (dC (.bl true))))))
def m_law_are : Fn := gcF (runF 3 1 b_law_are)
def b_law_text_c1 : SE :=
  dComp (iSeq (dVar 0)) (gTp 2 (gsCons (gNm 1) (gsCons (gNm 2) gsNil))) bYes (dBin addD (dBin addD (dBin addD (dMt gStr mJoin (dC (.str [47])) (dCons (dVar 1) dNil)) (dC (.str [32]))) (dMt gStr mJoin (dC (.str [47])) (dCons (dVar 2) dNil))) (dC (.str [10]))) [1, 2]
def b_law_text : SS :=
  (sRet (dMt gStr mJoin (dC (.str [])) (dCons b_law_text_c1 dNil)))
def m_law_text : Fn := gcF (runF 3 1 b_law_text)
def b_law_read_2_l1 : SS :=
  (sSeq (sSet 4 (dMt gStr mSplit (dVar 3) (dCons (dC (.str [32])) dNil)))
   (sSeq (sIf (isB (dBin (eqD true) (dCallB lenL (dCons (dVar 4) dNil)) (dC (.int 2))))
    (sRet (dC .non))
    sNil)
   (sDrop (dMt gLst mAppend (dVar 2) (dCons (dTup (dCons (dCallB tupleL (dCons (dMt gStr mSplit (dBin ixD (dVar 4) (dC (.int 0))) (dCons (dC (.str [47])) dNil)) dNil)) (dCons (dCallB tupleL (dCons (dMt gStr mSplit (dBin ixD (dVar 4) (dC (.int 1))) (dCons (dC (.str [47])) dNil)) dNil)) dNil))) dNil)))))
def b_law_read_2 : SS :=
  (sSeq (sSet 1 (dMt gStr mSplit (dVar 0) (dCons (dC (.str [10])) dNil)))
  (sSeq (sSet 2 (dLst dNil))
  (sSeq (sFor (iSeq (dSl (dVar 1) none (some (dUn negD (dC (.int 1)))))) (gNm 3)
   b_law_read_2_l1)
  (sSeq (sIf (dOr (isB (dBin (eqD true) (dBin ixD (dVar 1) (dUn negD (dC (.int 1)))) (dC (.str [])))) (dNot (dTru (dCall m_law_are (dCons (dCallB tupleL (dCons (dVar 2) dNil)) dNil)))))
   (sRet (dC .non))
   sNil)
  (sRet (dCallB tupleL (dCons (dVar 2) dNil)))))))
def m_law_read_2 : Fn := gcF (runF 5 1 b_law_read_2)
def b_law_address_3_c1 : SE :=
  dComp (iRng1 (dCons (dBin addD (dC (.int 1)) (dCall m_law_draw (dCons (dVar 0) (dCons (dVar 1) (dCons (dC (.int 4)) dNil))))) dNil)) (gNm 3) bYes (dCall m_law_pick (dCons (dVar 0) (dCons (dVar 1) (dCons (dVar 2) dNil)))) [3]
def b_law_address_3 : SS :=
  (sSeq (sSet 2 (dLst (lits [.str [97], .str [98, 45, 50], .str [110, 101, 119, 115], .str [120], .str [111, 108, 100, 45, 110, 101, 119, 115]])))
  (sRet (dCallB tupleL (dCons b_law_address_3_c1 dNil))))
def m_law_address_3 : Fn := gcF (runF 4 2 b_law_address_3)
def b_law_k11_l1 : SS :=
  (sIf (dNot (dTru (dCall (m_law_same_ 4) (dCons (dCall m_are_rows (dCons (dVar 10) dNil)) (dCons (dCall m_law_are (dCons (dVar 10) dNil)) dNil)))))
     (sRet (dC (.bl false)))
     sNil)
def b_law_k11_l2 : SS :=
  (sIf (dNot (dTru (dCall (m_law_same_ 4) (dCons (dCall m_law_told_5 (dCons (dVar 10) dNil)) (dCons (dCall m_law_or (dCons (dCall m_law_read_2 (dCons (dVar 10) dNil)) dNil)) dNil)))))
     (sRet (dC (.bl false)))
     sNil)
def b_law_k11_c1 : SE :=
  dComp (iSeq (dVar 3)) (gTp 2 (gsCons (gNm 13) (gsCons (gNm 14) gsNil))) bYes (dVar 13) [13, 14]
def b_law_k11_l3 : SS :=
  (sSeq (sSet 12 (dTup (dCons (dCall m_law_address_3 (dCons (dVar 0) (dCons (dVar 1) dNil))) (dCons (dCall m_law_address_3 (dCons (dVar 0) (dCons (dVar 1) dNil))) dNil))))
    (sIf (isB (dBin (inD true) (dBin ixD (dVar 12) (dC (.int 0))) b_law_k11_c1))
     (sSet 3 (dBin addD (dVar 3) (dTup (dCons (dVar 12) dNil))))
     sNil))
def b_law_k11_l4 : SS :=
  (sSeq (sSet 3 (dTup dNil))
   (sSeq (sFor (iRng1 (dCons (dCall m_law_draw (dCons (dVar 0) (dCons (dVar 1) (dCons (dC (.int 7)) dNil)))) dNil)) (gNm 4)
    b_law_k11_l3)
   (sSeq (sSet 5 (dCall m_law_text (dCons (dVar 3) dNil)))
   (sSeq (sIf (dOr (dNot (dTru (dCall (m_law_same_ 4) (dCons (dCall m_rows_text (dCons (dVar 3) dNil)) (dCons (dVar 5) dNil))))) (dNot (dTru (dCall (m_law_same_ 4) (dCons (dCall m_law_told_5 (dCons (dVar 5) dNil)) (dCons (dVar 3) dNil))))))
    (sRet (dC (.bl false)))
    sNil)
   (sSeq (sSet 6 (dCall m_law_draw (dCons (dVar 0) (dCons (dVar 1) (dCons (dBin addD (dCallB lenL (dCons (dVar 5) dNil)) (dC (.int 1))) dNil)))))
   (sSeq (sSet 7 (dCall m_law_pick (dCons (dVar 0) (dCons (dVar 1) (dCons (dLst (lits [.str [97], .str [32], .str [47], .str [45], .str [10], .str [65], .str [57]])) dNil)))))
   (sSeq (sSet 8 (dLst (dCons (dBin addD (dBin addD (dSl (dVar 5) none (some (dVar 6))) (dVar 7)) (dSl (dVar 5) (some (dVar 6)) none)) (dCons (dBin addD (dSl (dVar 5) none (some (dVar 6))) (dSl (dVar 5) (some (dBin addD (dVar 6) (dC (.int 1)))) none)) (dCons (dBin addD (dBin addD (dSl (dVar 5) none (some (dVar 6))) (dVar 7)) (dSl (dVar 5) (some (dBin addD (dVar 6) (dC (.int 1)))) none)) dNil)))))
   (sSeq (sSet 9 (dMt gStr mSplit (dVar 5) (dCons (dC (.str [10])) dNil)))
   (sSeq (sSet 8 (dBin addD (dVar 8) (dLst (dCons (dBin addD (dVar 5) (dC (.str [10]))) (dCons (dBin addD (dBin addD (dVar 5) (dBin ixD (dVar 9) (dC (.int 0)))) (dC (.str [10]))) (dCons (dMt gStr mJoin (dC (.str [10])) (dCons (dSl (dVar 9) (some (dC (.int 1))) none) dNil)) (dCons (dC (.str [97, 32, 98])) (dCons (dC (.str [97, 32, 98, 10])) (dCons (dC (.str [97, 32, 32, 98, 10])) (dCons (dC (.str [])) dNil))))))))))
   (sSeq (sFor (iSeq (dVar 8)) (gNm 10)
    b_law_k11_l2)
   (sSeq (sSet 11 (dLst (dCons (dVar 3) (dCons (dCallB listL (dCons (dVar 3) dNil)) (dCons (dBin addD (dVar 3) (dSl (dVar 3) none (some (dC (.int 1))))) (dCons (dBin addD (dVar 3) (dTup (dCons (dTup (dCons (dTup (dCons (dC (.str [97])) dNil)) (dCons (dC (.str [98])) dNil))) dNil))) (dCons (dBin addD (dVar 3) (dTup (dCons (dTup (dCons (dTup (dCons (dC (.str [97])) dNil)) dNil)) dNil))) (dCons (dC .non) (dCons (dC (.int 7)) (dCons (dTup (dCons (dC (.str [97])) (dCons (dC (.str [98])) dNil))) dNil))))))))))
   (sFor (iSeq (dBin addD (dVar 11) (dLst (dCons (dBin addD (dVar 3) (dTup (dCons (dTup (dCons (dTup (dCons (dC (.str [65])) dNil)) (dCons (dTup (dCons (dC (.str [98])) dNil)) dNil))) dNil))) (dCons (dTup (dCons (dVar 3) dNil)) (dCons (dTup (dCons (dTup (dCons (dBin mulD (dTup (dCons (dC (.str [97])) dNil)) (dC (.int 5))) (dCons (dTup (dCons (dC (.str [98])) dNil)) dNil))) dNil)) dNil)))))) (gNm 10)
    b_law_k11_l1))))))))))))
def b_law_k11 : SS :=
  (sSeq (sSet 1 (dLst dNil))
  (sSeq (sFor (iRng1 (dCons (dC (.int 8)) dNil)) (gNm 2)
   b_law_k11_l4)
  (sRet (dC (.bl true)))))
def m_law_k11 : Fn := gcF (runF 15 1 b_law_k11)
end
end DL


set_option maxRecDepth 100000
namespace DL
open PySem PySem.Spec PyProof.Rows L2

/-! ## k11: rows read by hand -/
theorem split_count (c : Nat) (s : List Nat) : (splitC c s).length = s.count c + 1 := by
  have key : ∀ (s acc : List Nat), (TL.spl [c] 0 acc s).length = s.count c + 1 := by
    intro s
    induction s with
    | nil => intro acc; rw [TL.spl_nil]; rfl
    | cons a s ih =>
      intro acc
      rw [spl_cons]
      by_cases h : a = c
      · subst h
        rw [if_pos rfl, List.length_cons, ih, List.count_cons_self]
      · rw [if_neg h, ih, List.count_cons_of_ne h]
  exact key s []
theorem row_in {A : List Ad} {a : Ad} {n : Nat} {h : AH} (e : h[n]? = some (.lst (A.map adD))) : inD false (adD a) (.ref n) h = some (.bl (decide (a ∈ A)), h) := by
  rw [inD_lst 1 (by omega) e adD_okN (fun x hx => by
    obtain ⟨b, _, rfl⟩ := List.mem_map.mp hx
    exact adD_okN)]
  congr 2
  rw [Bool.false_xor]
  congr 1
  have : adD a ∈ A.map adD ↔ a ∈ A := by
    rw [List.mem_map]
    exact ⟨fun ⟨b, hb, e⟩ => adD_inj.mp e ▸ hb, fun hb => ⟨a, hb, rfl⟩⟩
  rw [Bool.eq_iff_iff, decide_eq_true_iff, decide_eq_true_iff]
  exact this
/-- one row, by hand -/
theorem are_one {d : D} (kd : ∀ h : AH, True) {A : List Ad} {n : Nat} {h : AH} (hn : h[n]? = some (.lst (A.map adD))) (hA : A.length ≤ 1000) (kx : known h d) (ky : ∀ es, d = .tup es → ∀ y ∈ es, knownD h y) {a0 : Option D} :
    b_law_are_l1 [a0, some (.ref n), some d] h = if isRowD d = true ∧ okRowD d = true then (match row0 d with
      | .tup ts => if (D.tup ts) ∈ A.map adD then .rt (.bl false) h else .nx [a0, some (.ref n), some d] (h.set n (.lst (A.map adD ++ [.tup ts])))
      | _ => .bad) else .rt (.bl false) h := by
  cases d with
  | tup es =>
    by_cases c : es.length = 2
    · obtain ⟨a, b, rfl⟩ : ∃ a b, es = [a, b] := by
        cases es with
        | nil => cases c
        | cons a es => cases es with
          | nil => cases c
          | cons b es => cases es with
            | nil => exact ⟨a, b, rfl⟩
            | cons z es => simp at c
      have ea := m_law_is_addressD (h := h) (ky _ rfl a (by simp))
      have eb := m_law_is_addressD (h := h) (ky _ rfl b (by simp))
      have i0 : ixD (.tup [a, b]) (.int 0) h = some (a, h) := ixD_tup atI_get0
      have i1 : ixD (.tup [a, b]) (.int 1) h = some (b, h) := ixD_tup (by rfl)
      have hr : isRowD (.tup [a, b]) = true := rfl
      rw [hr, show okRowD (.tup [a, b]) = (isAdD a && isAdD b) from rfl]
      unfold b_law_are_l1
      cases qa : isAdD a with
      | false => rw [qa] at ea; simp [i0, i1, ea]
      | true =>
        rw [qa] at ea
        cases qb : isAdD b with
        | false => rw [qb] at eb; simp [i0, i1, ea, eb]
        | true =>
          rw [qb] at eb
          obtain ⟨p, rfl, hp⟩ := isAdD_of qa
          have hin := row_in (a := p) hn
          have hmem : (D.tup (txs p) ∈ A.map adD) ↔ p ∈ A := by
            rw [List.mem_map]
            exact ⟨fun ⟨b, hb, e⟩ => adD_inj.mp e ▸ hb, fun hb => ⟨p, hb, rfl⟩⟩
          have hro : row0 (.tup [adD p, b]) = .tup (txs p) := rfl
          have ga := gLst_lst hn
          have ma := mAppend_at (d := adD p) hn (by rw [List.length_map]; omega)
          rw [hro]
          by_cases cm : p ∈ A
          · rw [decide_eq_true cm] at hin
            simp [i0, i1, ea, eb, hin, hmem, cm]
          · rw [decide_eq_false cm] at hin
            simp [i0, i1, ea, eb, hin, hmem, cm, ga, ma]
            rfl
    · have hr : isRowD (.tup es) = false := by unfold isRowD; simp [c]
      have c' : ¬ (es.length : Int) = 2 := by omega
      rw [hr]
      unfold b_law_are_l1
      simp [c']
  | ref m =>
    obtain ⟨ds, e⟩ := kx
    unfold b_law_are_l1
    simp [tyN_lst e, isRowD]
  | _ =>
    unfold b_law_are_l1
    simp [isRowD]
theorem are_loop {a0 : Option D} {h : AH} : ∀ (rows : List D) (A : List Ad) (a2 : Option D) , A.length + rows.length ≤ 1000 → (∀ x ∈ rows, known h x ∧ ∀ es, x = .tup es → ∀ y ∈ es, knownD h y) →
    (rows.all isRowD = true ∧ rows.all okRowD = true ∧ (∀ x ∈ rows.map row0, x ∉ A.map adD) ∧ (rows.map row0).Nodup ∧ ∃ b2 B, forL (fun _ => True) (gNm 2) b_law_are_l1 rows [a0, some (.ref h.length), a2] (h ++ [.lst (A.map adD)]) = .nx [a0, some (.ref h.length), b2] (h ++ [.lst B]))
    ∨ (¬ (rows.all isRowD = true ∧ rows.all okRowD = true ∧ (∀ x ∈ rows.map row0, x ∉ A.map adD) ∧ (rows.map row0).Nodup) ∧ ∃ o, forL (fun _ => True) (gNm 2) b_law_are_l1 rows [a0, some (.ref h.length), a2] (h ++ [.lst (A.map adD)]) = .rt (.bl false) (h ++ [o]))
  | [], A, a2, _, _ => .inl ⟨rfl, rfl, by simp, by simp, a2, A.map adD, by rw [forL_nil trivial]⟩
  | x :: rows, A, a2, hl, hk => by
    obtain ⟨kx, ky⟩ := hk x (by simp)
    simp only [List.length_cons] at hl
    have e := are_one (d := x) (fun _ => trivial) (A := A) (n := h.length) (h := h ++ [.lst (A.map adD)]) (by simp) (by omega) kx.app (fun es e y hy => (ky es e y hy).app) (a0 := a0)
    rw [forL_cons (σ' := [a0, some (.ref h.length), some x]) trivial rfl, e]
    by_cases c : isRowD x = true ∧ okRowD x = true
    · rw [if_pos c]
      obtain ⟨p, hp⟩ : ∃ p, row0 x = adD p := by
        obtain ⟨_, c2⟩ := c
        unfold okRowD at c2
        split at c2
        · rename_i a b
          rw [Bool.and_eq_true] at c2
          obtain ⟨p, rfl, _⟩ := isAdD_of c2.1
          exact ⟨p, rfl⟩
        · cases c2
      rw [hp]
      show _ ∨ _
      dsimp only [adD]
      by_cases cm : D.tup (txs p) ∈ A.map adD
      · rw [if_pos cm]
        refine .inr ⟨?_, _, rfl⟩
        rintro ⟨_, _, z, _⟩
        exact z (row0 x) (by simp) (by rw [hp]; exact cm)
      · rw [if_neg cm]
        have hset : (h ++ [O.lst (A.map adD)]).set h.length (.lst (A.map adD ++ [.tup (txs p)])) = h ++ [.lst ((A ++ [p]).map adD)] := by
          rw [set_new0, List.map_append]; rfl
        rw [hset]
        have hcons : ∀ P : Prop, (((x :: rows).all isRowD = true ∧ (x :: rows).all okRowD = true ∧ (∀ y ∈ (x :: rows).map row0, y ∉ A.map adD) ∧ ((x :: rows).map row0).Nodup) ↔ (rows.all isRowD = true ∧ rows.all okRowD = true ∧ (∀ y ∈ rows.map row0, y ∉ (A ++ [p]).map adD) ∧ (rows.map row0).Nodup)) := by
          intro _
          rw [List.all_cons, List.all_cons, c.1, c.2, Bool.true_and, Bool.true_and, List.map_cons, List.nodup_cons, List.map_append, hp]
          constructor
          · rintro ⟨h1, h2, h3, h4, h5⟩
            refine ⟨h1, h2, fun y hy z => ?_, h5⟩
            rcases List.mem_append.mp z with z | z
            · exact h3 y (by simp only [List.mem_cons]; exact .inr hy) z
            · simp only [List.map_cons, List.map_nil, List.mem_singleton] at z
              subst z
              exact h4 hy
          · rintro ⟨h1, h2, h3, h5⟩
            refine ⟨h1, h2, fun y hy z => ?_, fun z => ?_, h5⟩
            · rcases List.mem_cons.mp hy with rfl | hy
              · exact cm z
              · exact h3 y hy (List.mem_append_left _ z)
            · exact h3 _ z (by simp)
        rcases are_loop (a0 := a0) (h := h) rows (A ++ [p]) (some x) (by rw [List.length_append, List.length_singleton]; omega) (fun y hy => hk y (by simp [hy])) with ⟨h1, h2, h3, h4, b2, B, e2⟩ | ⟨hn, o, e2⟩
        · obtain ⟨g1, g2, g3, g4⟩ := (hcons True).mpr ⟨h1, h2, h3, h4⟩
          exact .inl ⟨g1, g2, g3, g4, b2, B, e2⟩
        · exact .inr ⟨fun z => hn ((hcons True).mp z), o, e2⟩
    · rw [if_neg c]
      refine .inr ⟨?_, _, rfl⟩
      rintro ⟨h1, h2, _⟩
      rw [List.all_cons, Bool.and_eq_true] at h1 h2
      exact c ⟨h1.1, h2.1⟩
theorem m_law_areD {d : D} {h : AH} (k : known3 h d) : m_law_are [d] h = .ok (.bl (areD d)) h := by
  cases d with
  | tup rows =>
    obtain ⟨hl, hk⟩ := k.2 rows rfl
    have lp := are_loop (a0 := some (.tup rows)) (h := h) rows [] none (by simp; omega) hk
    rw [areD_tup]
    have hb : b_law_are = (sSeq (sIf (dNot (dTru (dIsi "tuple" (dVar 0)))) (sRet (dC (.bl false))) sNil) (sSeq (sSet 1 (dLst dNil)) (sSeq (sFor (iSeq (dVar 0)) (gNm 2) b_law_are_l1) (sRet (dC (.bl true)))))) := rfl
    rcases lp with ⟨h1, h2, h3, h4, b2, B, e⟩ | ⟨hn, o, e⟩
    · rw [h1, h2, decide_eq_true h4]
      refine gc_ok (g := [.lst B]) ?_ rfl
      rw [runF_at (σ := [some (.tup rows), none, none]) (by rfl) (by rfl), hb]
      rw [List.map_nil] at e
      simp [e]
    · have hf : (rows.all isRowD && rows.all okRowD && decide (rows.map row0).Nodup) = false := by
        rw [← Bool.not_eq_true, Bool.and_eq_true, Bool.and_eq_true, decide_eq_true_iff]
        rintro ⟨⟨h1, h2⟩, h3⟩
        exact hn ⟨h1, h2, by simp, h3⟩
      rw [hf]
      refine gc_ok (g := [o]) ?_ rfl
      rw [runF_at (σ := [some (.tup rows), none, none]) (by rfl) (by rfl), hb]
      rw [List.map_nil] at e
      simp [e]
  | ref n =>
    obtain ⟨ds, e⟩ := k.1
    refine gc_ok (g := []) ?_ rfl
    simp [runF, b_law_are, tyN_lst e, areD]
  | _ =>
    refine gc_ok (g := []) ?_ rfl
    simp [runF, b_law_are, areD]
end DL


set_option maxRecDepth 100000
namespace DL
open PySem PySem.Spec PyProof.Rows L2

/-! ## k34: names drawn, names by hand -/
theorem bad_more {c : Nat} : ∀ (l : List Nat) (p : Bool), bad p (l ++ [97]) = false → (c = 45 → l.getLast? ≠ some 45 ∧ (l ≠ [] ∨ p = false)) → bad p (l ++ [c] ++ [97]) = false
  | [], p, _, hc => by
    show (if c = 45 then p || bad true [97] else bad false [97]) = false
    by_cases e : c = 45
    · rw [if_pos e]
      rcases (hc e).2 with z | z
      · exact absurd rfl z
      · rw [z]; rfl
    · rw [if_neg e]; rfl
  | a :: l, p, h, hc => by
    show (if a = 45 then p || bad true (l ++ [c] ++ [97]) else bad false (l ++ [c] ++ [97])) = false
    have h : (if a = 45 then p || bad true (l ++ [97]) else bad false (l ++ [97])) = false := h
    by_cases e : a = 45
    · rw [if_pos e] at h ⊢
      rw [Bool.or_eq_false_iff] at h ⊢
      refine ⟨h.1, bad_more l true h.2 fun z => ?_⟩
      have hz := (hc z).1
      cases l with
      | nil => exact absurd (by rw [e]; rfl) hz
      | cons b l => exact ⟨by simpa using hz, .inl (by simp)⟩
    · rw [if_neg e] at h ⊢
      refine bad_more l false h fun z => ⟨?_, .inr rfl⟩
      have hz := (hc z).1
      cases l with
      | nil => simp
      | cons b l => simpa using hz
/-- what the draws make -/
structure Gn (s : List Nat) : Prop where
  ne : s ≠ []
  nm : ∀ c ∈ s, nameC c = true
  bd : bad true (s ++ [97]) = false
theorem Gn.strip {s : List Nat} (g : Gn s) (hl : s.length ≤ 12) : isNm (strip45 s) = true ∧ strip45 s ≠ [] := by
  have key : ∀ t : List Nat, t ≠ [] → t.length ≤ 12 → (∀ c ∈ t, nameC c = true) → bad true t = false → isNm t = true := by
    intro t h1 h2 h3 h4
    unfold isNm
    simp only [Bool.and_eq_true, decide_eq_true_eq, List.all_eq_true, Bool.not_eq_true']
    exact ⟨⟨⟨List.length_pos_iff.mpr h1, h2⟩, h3⟩, h4⟩
  by_cases c : s.getLast? = some 45
  · obtain ⟨q, z, e⟩ : ∃ q z, s = q ++ [z] := by
      rcases List.eq_nil_or_concat s with e | ⟨q, z, e⟩
      · exact absurd e g.ne
      · exact ⟨q, z, by rw [e, List.concat_eq_append]⟩
    subst e
    have hz : z = 45 := by simpa using c
    subst hz
    have hb := g.bd
    rw [List.append_assoc] at hb
    have hq : q.getLast? ≠ some 45 := fun z => by
      obtain ⟨r, y, e⟩ : ∃ r y, q = r ++ [y] := by
        rcases List.eq_nil_or_concat q with e | ⟨r, y, e⟩
        · rw [e] at z; cases z
        · exact ⟨r, y, by rw [e, List.concat_eq_append]⟩
      subst e
      have hy : y = 45 := by simpa using z
      subst hy
      have two : ∀ (r : List Nat) (p : Bool), bad p (r ++ [45] ++ ([45] ++ [97])) = true := by
        intro r
        induction r with
        | nil => intro p; show (if (45:Nat) = 45 then p || bad true [45, 97] else _) = true; rw [if_pos rfl]; simp [bad]
        | cons a r ih =>
          intro p
          show (if a = 45 then p || bad true (r ++ [45] ++ ([45] ++ [97])) else bad false (r ++ [45] ++ ([45] ++ [97]))) = true
          by_cases e : a = 45
          · rw [if_pos e, ih, Bool.or_true]
          · rw [if_neg e, ih]
      rw [two] at hb
      cases hb
    have hne : q ≠ [] := fun z => by subst z; simp [bad] at hb
    have e : strip45 (q ++ [45]) = q := by rw [strip45_concat, strip45_no hq]
    rw [e]
    refine ⟨key q hne (by simp at hl; omega) (fun c hc => g.nm c (by simp [hc])) (bad_prefix q _ true hb hq fun z => absurd z hne), hne⟩
  · rw [strip45_no c]
    exact ⟨key s g.ne hl g.nm (bad_prefix s _ true g.bd c fun z => absurd z g.ne), g.ne⟩
theorem name_turn {ns : List Int} {k : Nat} {g : AH} {s : List Nat} (hs : Gn s) (hl : s.length ≤ 100) (hk : k ≤ 900000) {a3 a4 : Option D} :
    ∃ t b4, Gn t ∧ t.length = s.length + 1 ∧ b_law_name_2_l1 [some (.ref 0), some (.ref 1), some (.str s), a3, a4] (W ns k g) = .nx [some (.ref 0), some (.ref 1), some (.str t), a3, b4] (W ns (k + 1) g) := by
  obtain ⟨c, hc, ep⟩ := pick2_str (ns := ns) (k := k) (g := g) (L := [97, 98, 122, 48, 57, 45]) (by omega) (by simp) (by simp)
  have hcn : nameC c = true := by
    have : ∀ c ∈ ([97, 98, 122, 48, 57, 45] : List Nat), nameC c = true := by decide
    exact this c hc
  obtain ⟨z, ez⟩ : ∃ z, s.getLast? = some z := by
    cases e : s.getLast? with
    | none => rw [List.getLast?_eq_none_iff] at e; exact absurd e hs.ne
    | some z => exact ⟨z, rfl⟩
  have em : ixD (.str s) (.int (-1)) (W ns (k + 1) g) = some (.str [z], W ns (k + 1) g) := ixD_str (by omega) (atI_last ez)
  have add : ∀ d : Nat, nameC d = true → (d = 45 → z ≠ 45) → Gn (s ++ [d]) := fun d h1 h2 => ⟨by simp, fun x hx => by
    rcases List.mem_append.mp hx with hx | hx
    · exact hs.nm x hx
    · rw [List.mem_singleton.mp hx]; exact h1, bad_more s true hs.bd fun e => ⟨by rw [ez]; exact fun y => h2 e (Option.some.inj y), .inl hs.ne⟩⟩
  have hadd : ∀ d : Nat, addD (.str s) (.str [d]) (W ns (k + 1) g) = some (.str (s ++ [d]), W ns (k + 1) g) := fun d => addD_ss (by simp; omega)
  unfold b_law_name_2_l1
  by_cases c1 : c = 45
  · by_cases c2 : z = 45
    · exact ⟨s ++ [113], some (.str [c]), add 113 (by decide) (fun e => absurd e (by decide)), by simp, by simp [ep, c1, em, c2, hadd]⟩
    · exact ⟨s ++ [c], some (.str [c]), add c hcn (fun _ => c2), by simp, by simp [ep, c1, em, c2, hadd]⟩
  · exact ⟨s ++ [c], some (.str [c]), add c hcn (fun e => absurd e c1), by simp, by simp [ep, c1, em, hadd]⟩
theorem m_law_name_2Of {ns : List Int} {k : Nat} {g : AH} (hk : k ≤ 800000) : ∃ w k', isNm w = true ∧ k' ≤ k + 13 ∧ m_law_name_2 [.ref 0, .ref 1] (W ns k g) = .ok (.str w) (W ns k' g) := by
  obtain ⟨c, hc, ep⟩ := pick2_str (ns := ns) (k := k) (g := g) (L := [97, 98, 122, 48, 57]) (by omega) (by simp) (by simp)
  have hc0 : Gn [c] := by
    have : ∀ c ∈ ([97, 98, 122, 48, 57] : List Nat), nameC c = true ∧ c ≠ 45 := by decide
    obtain ⟨h1, h2⟩ := this c hc
    exact ⟨by simp, fun x hx => by rw [List.mem_singleton.mp hx]; exact h1, by simp [bad, h2]⟩
  obtain ⟨v, v0, v1, ev⟩ := draw2_W (ns := ns) (k := k + 1) (g := g) (m := 12) (by omega) (by omega)
  have er := iRg1K_int (n := v) (h := W ns (k + 1 + 1) g) v0 (by omega)
  have hil : (iota 0 v.toNat).length = v.toNat := iota_length
  have lp := forL_all (gd := fun _ => True) (g := gNm 3) (body := b_law_name_2_l1) (items := iota 0 v.toNat) (σ := [some (.ref 0), some (.ref 1), some (.str [c]), none, none]) (h := W ns (k + 1 + 1) g)
    (fun i σ h => ∃ s b3 b4, Gn s ∧ s.length = i + 1 ∧ i ≤ 11 ∧ σ = [some (.ref 0), some (.ref 1), some (.str s), b3, b4] ∧ h = W ns (k + 1 + 1 + i) g) ⟨[c], none, none, hc0, rfl, by omega, rfl, rfl⟩ (fun _ _ _ _ => trivial)
    (by
      rintro i σ h d hd ⟨s, b3, b4, hs, hl, hi, rfl, rfl⟩
      obtain ⟨rfl, hlt⟩ := iota_get hd
      obtain ⟨t, c4, ht, htl, e⟩ := name_turn (ns := ns) (k := k + 1 + 1 + i) (g := g) hs (by omega) (by omega) (a3 := some (.int (0 + (i : Int)))) (a4 := b4)
      exact ⟨_, _, _, rfl, .inl e, t, _, c4, ht, by omega, by omega, rfl, rfl⟩)
  obtain ⟨σ', h', el, s, b3, b4, hs, hl, hi, rfl, rfl⟩ := lp
  rw [hil] at hl hi el
  obtain ⟨hnm, hne⟩ := hs.strip (by omega)
  refine ⟨strip45 s, k + 1 + 1 + v.toNat, hnm, by omega, gc_W (x := []) ?_ rfl⟩
  have e4 : mS1 Txt.rstripChars (.str s) [.str [45]] (W ns (k + 1 + 1 + v.toNat) g) = some (.str (strip45 s), W ns (k + 1 + 1 + v.toNat) g) := by
    unfold mS1
    dsimp only
    rw [if_pos (by omega), rstripC]
  have e5 : truD (.str (strip45 s)) (W ns (k + 1 + 1 + v.toNat) g) = some true := by
    rw [truD_str (by have := strip45_le s; omega)]
    cases q : strip45 s with
    | nil => exact absurd q hne
    | cons a b => rfl
  rw [runF_at (σ := [some (.ref 0), some (.ref 1), none, none, none]) (by rfl) (by rfl), b_law_name_2, List.append_nil]
  simp [ep, ev, er, el, e4, e5]
/-! ### strip of signs -/
theorem strip_sub {s cs : List Nat} : un2 Txt.stripChars s cs = [] ↔ ∀ c ∈ s, c ∈ cs := by
  have e0 : un2 Txt.stripChars s cs = (s.drop (s.takeWhile fun c => decide (c ∈ cs)).length).take (s.length - ((s.drop (s.takeWhile fun c => decide (c ∈ cs)).length).reverse.takeWhile fun c => decide (c ∈ cs)).length - (s.takeWhile fun c => decide (c ∈ cs)).length) := by
    unfold un2 Txt.stripChars
    rw [show Txt.stripBy _ true true (S s) = _ from PyProof.Rows.stripBy_eq _ _ _ _, PySem.StrLaws.strSub_toList]
    have e : ((S cs).cps.contains : Nat → Bool) = fun c => decide (c ∈ cs) := by
      funext c
      show (cs.toArray).contains c = _
      rw [Bool.eq_iff_iff]
      simp
    rw [e]
    rfl
  rw [e0]
  generalize hp : (fun c => decide (c ∈ cs)) = p
  have hp' : ∀ c, p c = true ↔ c ∈ cs := fun c => by rw [← hp]; simp
  constructor
  · intro h
    by_cases hall : ∀ c ∈ s, c ∈ cs
    · exact hall
    · exfalso
      have hd : ∃ c r, s.dropWhile p = c :: r ∧ p c = false := by
        clear h hp e0
        induction s with
        | nil => simp at hall
        | cons a s ih =>
          rw [List.dropWhile_cons]
          by_cases ha : p a = true
          · rw [if_pos ha]
            refine ih fun z => hall fun c hc => ?_
            rcases List.mem_cons.mp hc with rfl | hc
            · exact (hp' c).mp ha
            · exact z c hc
          · rw [if_neg ha]
            exact ⟨a, s, rfl, by simpa using ha⟩
      obtain ⟨c, r, hc, hpc⟩ := hd
      have htd : s.takeWhile p ++ s.dropWhile p = s := List.takeWhile_append_dropWhile
      have hdrop : s.drop (s.takeWhile p).length = c :: r := by
        rw [← hc]
        conv => lhs; rw [← htd]
        have : (s.takeWhile p ++ s.dropWhile p).takeWhile p = s.takeWhile p := by rw [htd]
        rw [this, List.drop_left]
      rw [hdrop] at h
      have hlen : s.length = (s.takeWhile p).length + (r.length + 1) := by
        have := congrArg List.length htd
        rw [List.length_append, hc, List.length_cons] at this
        omega
      have hrev : ((c :: r).reverse.takeWhile p).length ≤ r.length := by
        rw [List.reverse_cons]
        have : ∀ (x : List Nat), ((x ++ [c]).takeWhile p).length ≤ x.length := by
          intro x
          induction x with
          | nil => simp [hpc]
          | cons a x ih =>
            rw [List.cons_append, List.takeWhile_cons]
            split
            · simp only [List.length_cons]; omega
            · simp
        have := this r.reverse
        rwa [List.length_reverse] at this
      have h2 := congrArg List.length h
      rw [List.length_take, List.length_cons, List.length_nil] at h2
      omega
  · intro h
    have : s.takeWhile p = s := by
      clear e0
      induction s with
      | nil => rfl
      | cons a s ih =>
        rw [List.takeWhile_cons, if_pos ((hp' a).mpr (h a (by simp))), ih fun c hc => h c (by simp [hc])]
    rw [this, List.drop_length]
    simp
def set36 : List Nat := [97, 98, 99, 100, 101, 102, 103, 104, 105, 106, 107, 108, 109, 110, 111, 112, 113, 114, 115, 116, 117, 118, 119, 120, 121, 122, 48, 49, 50, 51, 52, 53, 54, 55, 56, 57]
theorem set36_mem {c : Nat} : (c ∈ set36 ∨ c = 45) ↔ nameC c = true := by
  by_cases hc : c < 128
  · have : ∀ c < 128, (c ∈ set36 ∨ c = 45) ↔ nameC c = true := by decide +kernel
    exact this c hc
  · constructor
    · rintro (h | h)
      · have : ∀ c ∈ set36, c < 128 := by decide
        exact absurd (this c h) hc
      · omega
    · intro h
      exfalso
      unfold nameC at h
      simp [alnum] at h
      omega
theorem set36_45 : (45 : Nat) ∉ set36 := by decide
theorem isNm_hand {s : List Nat} (h1 : 1 ≤ s.length) (h2 : s.length ≤ 12) : ((splitC 45 s).all fun w => !decide (w = []) && decide (un2 Txt.stripChars w set36 = [])) = isNm s := by
  unfold isNm
  rw [decide_eq_true h1, decide_eq_true h2, Bool.true_and, Bool.true_and, Bool.eq_iff_iff, List.all_eq_true, Bool.and_eq_true, List.all_eq_true, Bool.not_eq_true']
  constructor
  · intro h
    refine ⟨fun c hc => ?_, ?_⟩
    · have hj := join_split (c := 45) s
      rw [← hj] at hc
      rcases mem_joinL hc with rfl | ⟨w, hw, hcw⟩
      · rfl
      · have := h w hw
        rw [Bool.and_eq_true, decide_eq_true_iff, strip_sub] at this
        exact set36_mem.mp (.inl (this.2 c hcw))
    · rw [← Bool.not_eq_true, ← bad_split]
      intro z
      have := h [] z
      simp at this
  · rintro ⟨h3, h4⟩ w hw
    rw [Bool.and_eq_true, Bool.not_eq_true', decide_eq_false_iff_not, decide_eq_true_iff, strip_sub]
    refine ⟨fun z => ?_, fun c hc => ?_⟩
    · subst z
      rw [bad_split] at hw
      rw [hw] at h4
      cases h4
    · obtain ⟨m1, m2⟩ := spl_mem hw hc
      rcases set36_mem.mpr (h3 c m1) with z | z
      · exact z
      · exact absurd z m2
end DL


set_option maxRecDepth 100000
namespace DL
open PySem PySem.Spec PyProof.Rows L2

/-! ## k34: by hand, of known things -/
theorem m_law_is_name_2D {d : D} {h : AH} (k : known h d) : m_law_is_name_2 [d] h = .ok (.bl (isNmD d)) h := by
  cases d with
  | str s =>
    have hl : s.length ≤ 1000 := k
    show _ = R.ok (.bl (isNm s)) h
    by_cases h1 : 1 ≤ s.length
    · have q0 : (1 : Int) ≤ s.length := by omega
      by_cases h2 : s.length ≤ 12
      · have q2 : (s.length : Int) ≤ 12 := by omega
        have es := mSplit_one (c := 45) (by decide) (s := s) (h := h) (by omega)
        have hps : ∀ w ∈ splitC 45 s, w.length ≤ 1000 := fun w hw => by have := split_mem_len 45 hw; omega
        have hpl : (splitC 45 s).length ≤ 1000 := by have := split_len 45 s; omega
        have ec : dCallB allL (dCons b_law_is_name_2_c1 dNil) [some (.str s), some (.ref h.length), none] (h ++ [.lst (txs (splitC 45 s))]) = .ok (.bl ((splitC 45 s).all fun w => !decide (w = []) && decide (un2 Txt.stripChars w set36 = []))) (h ++ [.lst (txs (splitC 45 s))] ++ [.lst (bls ((splitC 45 s).map fun w => !decide (w = []) && decide (un2 Txt.stripChars w set36 = [])))]) := by
          have hg : (h ++ [O.lst (txs (splitC 45 s))])[h.length]? = some (.lst (txs (splitC 45 s))) := by simp
          have hik := iK_lst hg
          refine all_A (splitC 45 s) D.str (gd := fun h' => h'[h.length]? = some (.lst (txs (splitC 45 s)))) (by rw [iSeq_eq, dVar_at rfl, DL.R.bindI_ok, hik]; rfl) _ (fun acc => by rw [List.append_assoc]; simp) (by omega) fun w hw acc => ⟨[some (.str s), some (.ref h.length), some (.str w)], rfl, ?_⟩
          have e1 : ∀ h : AH, mS1 Txt.stripChars (.str w) [.str set36] h = some (.str (un2 Txt.stripChars w set36), h) := fun h => by
            unfold mS1
            dsimp only
            rw [if_pos (by have := hps w hw; omega)]
          unfold set36 at e1 ⊢
          by_cases c : w = []
          · simp [c]
          · simp [c, e1]
        simp only [dCallB_eq, dCons_eq, dNil_eq, RA.bindA_ok] at ec
        rw [isNm_hand h1 h2] at ec
        generalize hbl : (splitC 45 s).map (fun w => !decide (w = []) && decide (un2 Txt.stripChars w set36 = [])) = bb at ec
        generalize hps' : txs (splitC 45 s) = ps at es ec
        refine gc_ok (g := [.lst ps, .lst (bls bb)]) ?_ rfl
        rw [show h ++ [O.lst ps, .lst (bls bb)] = h ++ [.lst ps] ++ [.lst (bls bb)] by simp]
        rw [runF_at (σ := [some (.str s), none, none]) (by rfl) (by rfl), b_law_is_name_2]
        simp [-List.append_assoc, lenL_str (s := s) (by omega), q0, q2, es, ec]
      · have q2 : ¬ (s.length : Int) ≤ 12 := by omega
        refine gc_ok (g := []) ?_ rfl
        simp [runF, b_law_is_name_2, lenL_str (s := s) (by omega), q0, q2, isNm, h2]
    · have q0 : ¬ (1 : Int) ≤ s.length := by omega
      refine gc_ok (g := []) ?_ rfl
      unfold isNm
      rw [decide_eq_false h1]
      simp [runF, b_law_is_name_2, lenL_str (s := s) (by omega), q0]
  | ref n =>
    obtain ⟨ds, e⟩ := k
    refine gc_ok (g := []) ?_ rfl
    simp [runF, b_law_is_name_2, tyN_lst e, isNmD]
  | _ =>
    refine gc_ok (g := []) ?_ rfl
    simp [runF, b_law_is_name_2, isNmD]
theorem m_law_is_title_2Of {s : List Nat} {h : AH} (hl : s.length ≤ 1000) (ha : s.all ascii = true) : m_law_is_title_2 [.str s] h = .ok (.bl (isTi s)) h := by
  unfold isTi
  by_cases h1 : s = []
  · subst h1
    refine gc_ok (g := []) ?_ rfl
    simp [runF, b_law_is_title_2]
  · have h0 : 1 ≤ s.length := List.length_pos_iff.mpr h1
    have q0 : (1 : Int) ≤ s.length := by omega
    refine gc_ok (g := []) ?_ rfl
    by_cases h2 : s.length ≤ 30
    · have q2 : (s.length : Int) ≤ 30 := by omega
      have es : mS1 Txt.stripChars (.str s) [.str [32]] h = some (.str (un2 Txt.stripChars s [32]), h) := by
        unfold mS1
        dsimp only
        rw [if_pos (by omega)]
      have ed : decide (un2 Txt.stripChars s [32] = s) = (!decide (s.head? = some 32) && !decide (s.getLast? = some 32)) := by
        rw [Bool.eq_iff_iff, decide_eq_true_iff, strip_id h1]
        simp
      rw [decide_eq_true h0, decide_eq_true h2, ha]
      revert es ed
      generalize un2 Txt.stripChars s [32] = u
      intro es ed
      simp [runF, b_law_is_title_2, lenL_str (s := s) (by omega), q0, q2, es, ed]
    · have q2 : ¬ (s.length : Int) ≤ 30 := by omega
      simp [runF, b_law_is_title_2, lenL_str (s := s) (by omega), q0, q2, h2]
theorem m_law_is_title_2D {d : D} {h : AH} (k : known h d) (ha : asciiD d = true) : m_law_is_title_2 [d] h = .ok (.bl (isTiD d)) h := by
  cases d with
  | str s => exact m_law_is_title_2Of k ha
  | ref n =>
    obtain ⟨ds, e⟩ := k
    refine gc_ok (g := []) ?_ rfl
    simp [runF, b_law_is_title_2, tyN_lst e, isTiD]
  | _ =>
    refine gc_ok (g := []) ?_ rfl
    simp [runF, b_law_is_title_2, isTiD]
theorem m_law_is_address_2D {d : D} {h : AH} (k : knownD h d) : m_law_is_address_2 [d] h = .ok (.bl (isAdD d)) h := by
  cases d with
  | tup ds =>
    obtain ⟨hl, hk⟩ := k.2 ds rfl
    rw [show isAdD (.tup ds) = (decide (1 ≤ ds.length) && decide (ds.length ≤ 4) && ds.all isNmD) from rfl]
    by_cases h1 : 1 ≤ ds.length
    · have q0 : (1 : Int) ≤ ds.length := by omega
      by_cases h2 : ds.length ≤ 4
      · have q2 : (ds.length : Int) ≤ 4 := by omega
        have ea : dCallB allL (dCons b_law_is_address_2_c1 dNil) [some (.tup ds), none] h = .ok (.bl (ds.all isNmD)) (h ++ [.lst (bls (ds.map isNmD))]) := by
          refine all_A ds id (gd := fun _ => True) (by simp) isNmD (fun _ => trivial) (by omega) fun x hx acc => ⟨_, rfl, ?_⟩
          have := m_law_is_name_2D (h := h ++ [.lst acc]) (hk x hx).app
          simp [this]
        simp only [dCallB_eq, dCons_eq, dNil_eq, RA.bindA_ok] at ea
        refine gc_ok (g := [.lst (bls (ds.map isNmD))]) ?_ rfl
        rw [decide_eq_true h1, decide_eq_true h2]
        revert ea
        generalize ds.all isNmD = r
        generalize bls (ds.map isNmD) = b
        intro ea
        simp [runF, b_law_is_address_2, q0, q2, ea]
      · have q2 : ¬ (ds.length : Int) ≤ 4 := by omega
        refine gc_ok (g := []) ?_ rfl
        simp [runF, b_law_is_address_2, q0, q2, h2]
    · have q0 : ¬ (1 : Int) ≤ ds.length := by omega
      refine gc_ok (g := []) ?_ rfl
      rw [decide_eq_false h1]
      simp [runF, b_law_is_address_2, q0]
  | ref n =>
    obtain ⟨ds, e⟩ := k.1
    refine gc_ok (g := []) ?_ rfl
    simp [runF, b_law_is_address_2, tyN_lst e, isAdD]
  | _ =>
    refine gc_ok (g := []) ?_ rfl
    simp [runF, b_law_is_address_2, isAdD]
@[simp] theorem lenE_tup {s : List D} {h : AH} : lenE [.tup s] h = some (.int s.length, h) := id rfl
/-! ### rows, by hand -/
theorem arw_one {d : D} {h : AH} (kx : known h d) (ky : ∀ es, d = .tup es → ∀ y ∈ es, knownD h y) {a0 : Option D} :
    b_law_are_rows_l1 [a0, some d] h = if isRowD d = true ∧ okRowD d = true then .nx [a0, some d] h else .rt (.bl false) h := by
  cases d with
  | tup es =>
    by_cases c : es.length = 2
    · obtain ⟨a, b, rfl⟩ : ∃ a b, es = [a, b] := by
        cases es with
        | nil => cases c
        | cons a es => cases es with
          | nil => cases c
          | cons b es => cases es with
            | nil => exact ⟨a, b, rfl⟩
            | cons z es => simp at c
      have ea := m_law_is_address_2D (h := h) (ky _ rfl a (by simp))
      have eb := m_law_is_address_2D (h := h) (ky _ rfl b (by simp))
      have i0 : ixE (.tup [a, b]) (.int 0) h = some (a, h) := ixE_tup atI_get0
      have i1 : ixE (.tup [a, b]) (.int 1) h = some (b, h) := ixE_tup (by rfl)
      have hr : isRowD (.tup [a, b]) = true := rfl
      rw [hr, show okRowD (.tup [a, b]) = (isAdD a && isAdD b) from rfl]
      unfold b_law_are_rows_l1
      cases qa : isAdD a with
      | false => rw [qa] at ea; simp [i0, i1, ea]
      | true =>
        rw [qa] at ea
        cases qb : isAdD b with
        | false => rw [qb] at eb; simp [i0, i1, ea, eb]
        | true => rw [qb] at eb; simp [i0, i1, ea, eb]
    · have hr : isRowD (.tup es) = false := by unfold isRowD; simp [c]
      have c' : ¬ (es.length : Int) = 2 := by omega
      rw [hr]
      unfold b_law_are_rows_l1
      simp [c']
  | ref m =>
    obtain ⟨ds, e⟩ := kx
    unfold b_law_are_rows_l1
    simp [tyN_lst e, isRowD]
  | _ =>
    unfold b_law_are_rows_l1
    simp [isRowD]
theorem arw_loop {a0 : Option D} {h : AH} : ∀ (rows : List D) (a1 : Option D), (∀ x ∈ rows, known h x ∧ ∀ es, x = .tup es → ∀ y ∈ es, knownD h y) →
    if rows.all isRowD = true ∧ rows.all okRowD = true then ∃ b1, forL (fun _ => True) (gNm 1) b_law_are_rows_l1 rows [a0, a1] h = .nx [a0, b1] h else forL (fun _ => True) (gNm 1) b_law_are_rows_l1 rows [a0, a1] h = .rt (.bl false) h
  | [], a1, _ => by
    rw [if_pos ⟨rfl, rfl⟩]
    exact ⟨a1, forL_nil trivial⟩
  | x :: rows, a1, hk => by
    obtain ⟨kx, ky⟩ := hk x (by simp)
    have e := arw_one (h := h) (d := x) kx ky (a0 := a0)
    have ih := arw_loop (a0 := a0) (h := h) rows (some x) fun y hy => hk y (by simp [hy])
    rw [forL_cons (σ' := [a0, some x]) trivial rfl, e]
    by_cases c : isRowD x = true ∧ okRowD x = true
    · rw [if_pos c]
      dsimp only
      rw [List.all_cons, List.all_cons, c.1, c.2, Bool.true_and, Bool.true_and]
      exact ih
    · rw [if_neg c, if_neg]
      rintro ⟨h1, h2⟩
      rw [List.all_cons, Bool.and_eq_true] at h1 h2
      exact c ⟨h1.1, h2.1⟩
theorem merge_len {A : List Ad} : (mergeD [] (A.map fun a => (adD a, D.int 0))).length = (uniqA A).length := by
  have h1 := mergeD_map (key := id) (kd := adD) (vd := fun _ => D.int 0) A [] (fun s _ r _ => by rw [sameK_ad]; rfl) (fun s _ r _ e => by rw [show r = s from e])
  rw [List.map_nil] at h1
  rw [h1, List.length_map]
  have key : ∀ (B C : List Ad), C.Nodup → (B.foldl (updA id) C).Nodup ∧ ∀ x, x ∈ B.foldl (updA id) C ↔ x ∈ C ∨ x ∈ B := by
    intro B
    induction B with
    | nil => intro C hC; exact ⟨hC, fun x => by simp⟩
    | cons b B ih =>
      intro C hC
      have hn : (updA id C b).Nodup := by
        have := updA_nodup (key := id) (R := C) (r := b) (by rw [List.map_id]; exact hC)
        rwa [List.map_id] at this
      have hm : ∀ x, x ∈ updA id C b ↔ x ∈ C ∨ x = b := fun x => by
        have := updA_keys (key := id) (R := C) (r := b)
        rw [List.map_id, List.map_id] at this
        rw [this]
        split
        · rename_i hb
          exact ⟨.inl, fun z => z.elim id fun e => e ▸ hb⟩
        · rw [List.mem_append, List.mem_singleton]; rfl
      obtain ⟨i1, i2⟩ := ih _ hn
      refine ⟨i1, fun x => ?_⟩
      rw [List.foldl_cons, i2, hm, List.mem_cons, or_assoc]
  obtain ⟨k1, k2⟩ := key A [] .nil
  refine ((List.perm_ext_iff_of_nodup k1 uniqA_nd).mpr fun x => ?_).length_eq
  rw [k2, uniqA_mem]
  simp
theorem m_law_are_rowsD {d : D} {h : AH} (k : known3 h d) : m_law_are_rows [d] h = .ok (.bl (areD d)) h := by
  cases d with
  | tup rows =>
    obtain ⟨hl, hk⟩ := k.2 rows rfl
    have lp := arw_loop (a0 := some (.tup rows)) (h := h) rows none hk
    rw [areD_tup]
    by_cases c : rows.all isRowD = true ∧ rows.all okRowD = true
    · rw [if_pos c] at lp
      obtain ⟨b1, lp⟩ := lp
      rw [c.1, c.2, Bool.true_and, Bool.true_and]
      obtain ⟨R, rfl, hR⟩ := rows_of c.2
      rw [List.length_map] at hl
      have hne : ∀ a ∈ R.map (·.1), a ≠ [] := fun a ha => by
        obtain ⟨r, hr, rfl⟩ := List.mem_map.mp ha
        have := hR r hr
        unfold okRow at this
        rw [Bool.and_eq_true] at this
        exact ad_ne this.1
      have ec : b_law_are_rows_c1 [some (.tup (R.map ruD)), b1] h = .ok (.ref h.length) (h ++ [.lst (R.map fun r => .tup [adD r.1, .int 0])]) := by
        unfold b_law_are_rows_c1
        exact dComp_mapA R ruD (gd := fun _ => True) (h1 := h) (by simp) (fun r => .tup [adD r.1, .int 0]) (fun _ => trivial) (by omega) fun r hr acc => ⟨[some (.tup (R.map ruD)), some (ruD r)], rfl, by
          have i0 : ixE (ruD r) (.int 0) (h ++ [.lst acc]) = some (adD r.1, h ++ [.lst acc]) := ixE_tup atI_get0
          simp [i0]⟩
      have hp := pairsOf_map (fun r : Rw => adD r.1) (fun _ => D.int 0) R
      have hkv : (R.map fun r => (adD r.1, D.int 0)) = (R.map (·.1)).map fun a => (adD a, D.int 0) := by rw [List.map_map]; rfl
      have ed := dictL_T (n := h.length) (h := h ++ [.lst (R.map fun r => .tup [adD r.1, .int 0])]) (by simp) hp (by
        rw [List.all_eq_true]
        intro p hp
        obtain ⟨r, hr, rfl⟩ := List.mem_map.mp hp
        exact keyAs_ad (hne _ (List.mem_map.mpr ⟨r, hr, rfl⟩))) (by rw [List.length_map]; omega)
      rw [hkv] at ed
      have hml := merge_len (A := R.map (·.1))
      generalize mergeD [] ((R.map (·.1)).map fun a => (adD a, D.int 0)) = M at ed hml
      generalize hh1 : h ++ [O.lst (R.map fun r => .tup [adD r.1, .int 0])] = h1 at ec ed
      have el : lenE [.ref h1.length] (h1 ++ [.dcT M]) = some (.int (uniqA (R.map (·.1))).length, h1 ++ [.dcT M]) := by
        have : (h1 ++ [O.dcT M])[h1.length]? = some (.dcT M) := by simp
        simp only [lenE, this, hml]
      have el2 : lenE [.tup (R.map ruD)] (h1 ++ [.dcT M]) = some (.int R.length, h1 ++ [.dcT M]) := by
        simp [lenE]
      have nd := uniqA_len (xs := R.map (·.1))
      have hv : decide (((uniqA (R.map (·.1))).length : Int) = R.length) = decide (((R.map ruD).map row0).Nodup) := by
        rw [row0_rus, Bool.eq_iff_iff, decide_eq_true_iff, decide_eq_true_iff, nodup_ads, ← nd, List.length_map]
        omega
      rw [← hv]
      refine gc_ok (g := [.lst (R.map fun r => .tup [adD r.1, .int 0]), .dcT M]) ?_ rfl
      rw [show h ++ [O.lst (R.map fun r => .tup [adD r.1, .int 0]), O.dcT M] = h1 ++ [.dcT M] by rw [← hh1]; simp]
      rw [runF_at (σ := [some (.tup (R.map ruD)), none]) (by rfl) (by rfl), b_law_are_rows]
      have hrl : (R.map ruD).length = R.length := List.length_map _
      generalize hm : R.map ruD = rows at *
      simp [lp, ec, ed, el, hrl]
    · rw [if_neg c] at lp
      have hf : (rows.all isRowD && rows.all okRowD && decide (rows.map row0).Nodup) = false := by
        rw [← Bool.not_eq_true, Bool.and_eq_true, Bool.and_eq_true]
        exact fun z => c z.1
      rw [hf]
      refine gc_ok (g := []) ?_ rfl
      rw [runF_at (σ := [some (.tup rows), none]) (by rfl) (by rfl), b_law_are_rows, List.append_nil]
      simp [lp]
  | ref n =>
    obtain ⟨ds, e⟩ := k.1
    refine gc_ok (g := []) ?_ rfl
    simp [runF, b_law_are_rows, tyN_lst e, areD]
  | _ =>
    refine gc_ok (g := []) ?_ rfl
    simp [runF, b_law_are_rows, areD]
theorem known3.toD {h : AH} {d : D} (k : known3 h d) : knownD h d := ⟨k.1, fun ds e => ⟨by have := (k.2 ds e).1; omega, fun x hx => ((k.2 ds e).2 x hx).1⟩⟩
theorem m_law_holdD {d : D} {h : AH} (k : known3 h d) (ha : asciiD d = true) : m_law_hold [d] h = .ok (.bl true) h := by
  have e1 := m_is_nameD k.1
  have e2 := m_law_is_name_2D k.1
  have e3 := m_is_titleD k.1
  have e4 := m_law_is_title_2D k.1 ha
  have e5 := m_is_addressD k.toD
  have e6 := m_law_is_address_2D k.toD
  have e7 := m_are_rowsD k
  have e8 := m_law_are_rowsD k
  refine gc_ok (g := []) ?_ rfl
  rw [runF_at (σ := [some d]) (by rfl) (by rfl), b_law_hold, List.append_nil]
  simp [e1, e2, e3, e4, e5, e6, e7, e8]
end DL


set_option maxRecDepth 100000
namespace DL
open PySem PySem.Spec PyProof.Rows L2

/-! ## k34: things bent -/
def AA : Nat → AH → D → Prop
  | 0, h, d => known h d ∧ asciiD d = true
  | n + 1, h, d => (known h d ∧ asciiD d = true) ∧ ∀ es, d = .tup es → es.length ≤ 60 ∧ ∀ x ∈ es, AA n h x
def TT : Nat → D → Prop
  | 0, d => ∃ s : List Nat, d = .str s ∧ s.length ≤ 30 ∧ s ≠ [] ∧ s.all ascii = true
  | n + 1, d => ∃ es : List D, d = .tup es ∧ es ≠ [] ∧ es.length ≤ 4 ∧ ∀ x ∈ es, TT n x
def Grow (h h' : AH) : Prop := ∀ (m : Nat) (ds : List D), h[m]? = some (O.lst ds) → ∃ ds', h'[m]? = some (O.lst ds')
theorem Grow.refl (h : AH) : Grow h h := fun m ds e => ⟨ds, e⟩
theorem Grow.trans {a b c : AH} (h1 : Grow a b) (h2 : Grow b c) : Grow a c := fun m ds e => by
  obtain ⟨ds', e'⟩ := h1 m ds e
  exact h2 m ds' e'
theorem Grow.app {h g : AH} : Grow h (h ++ g) := fun m ds e => ⟨ds, get_app e⟩
theorem Grow.set {h : AH} {i : Nat} {ds : List D} : Grow h (h.set i (.lst ds)) := fun m es e => by
  by_cases c : i = m
  · subst c; exact ⟨ds, by rw [List.getElem?_set_self (List.getElem?_eq_some_iff.mp e).1]⟩
  · exact ⟨es, by rw [List.getElem?_set_ne c]; exact e⟩
theorem Grow.tick {ns : List Int} {k k' : Nat} {g : AH} : Grow (W ns k g) (W ns k' g) := fun m ds e => by
  cases m with
  | zero => cases e
  | succ m => cases m with
    | zero => exact ⟨_, rfl⟩
    | succ m => exact ⟨ds, e⟩
theorem known.mono {h h' : AH} {d : D} (g : Grow h h') (k : known h d) : known h' d := by
  cases d with
  | ref n => obtain ⟨ds, e⟩ := k; exact g n ds e
  | _ => exact k
theorem AA.mono : ∀ {n : Nat} {h h' : AH} {d : D}, Grow h h' → AA n h d → AA n h' d
  | 0, _, _, _, g, a => ⟨a.1.mono g, a.2⟩
  | n + 1, _, _, _, g, a => ⟨⟨a.1.1.mono g, a.1.2⟩, fun es e => ⟨(a.2 es e).1, fun x hx => ((a.2 es e).2 x hx).mono g⟩⟩
theorem AA.base : ∀ {n : Nat} {h : AH} {d : D}, AA n h d → known h d ∧ asciiD d = true
  | 0, _, _, a => a
  | _ + 1, _, _, a => a.1
theorem AA.flat {n : Nat} {h : AH} {d : D} (hk : known h d) (ha : asciiD d = true) (ht : ∀ es, d ≠ .tup es) : AA n h d := by
  cases n with
  | zero => exact ⟨hk, ha⟩
  | succ n => exact ⟨⟨hk, ha⟩, fun es e => absurd e (ht es)⟩
theorem AA.tup {n : Nat} {h : AH} {es : List D} (hl : es.length ≤ 60) (hx : ∀ x ∈ es, AA n h x) : AA (n + 1) h (.tup es) := ⟨⟨trivial, rfl⟩, fun es' e => by cases e; exact ⟨hl, hx⟩⟩
theorem TT.aa : ∀ {n m : Nat} {h : AH} {d : D}, TT n d → AA m h d
  | 0, m, h, d, t => by
    obtain ⟨s, rfl, h1, h2, h3⟩ := t
    exact AA.flat (by show s.length ≤ 1000; omega) h3 (fun _ z => by cases z)
  | n + 1, 0, h, d, t => by
    obtain ⟨es, rfl, h1, h2, h3⟩ := t
    exact ⟨trivial, rfl⟩
  | n + 1, m + 1, h, d, t => by
    obtain ⟨es, rfl, h1, h2, h3⟩ := t
    exact AA.tup (by omega) fun x hx => TT.aa (h3 x hx)
theorem AA.non {n : Nat} {h : AH} : AA n h .non := AA.flat trivial rfl (fun _ z => by cases z)
theorem AA.known3 {h : AH} {d : D} (a : AA 3 h d) : known3 h d := by
  refine ⟨a.1.1, fun ds e => ?_⟩
  obtain ⟨h1, h2⟩ := a.2 ds e
  refine ⟨h1, fun x hx => ?_⟩
  have ax : AA 2 h x := h2 x hx
  refine ⟨ax.base.1, fun es e y hy => ?_⟩
  have ay : AA 1 h y := (ax.2 es e).2 y hy
  exact ⟨ay.base.1, fun fs e => ⟨by have := (ay.2 fs e).1; omega, fun z hz => ((ay.2 fs e).2 z hz).1⟩⟩
theorem bels_false {n : Nat} {d : D} : ∀ {ds : List D}, d ∈ ds → d.bel n = false → D.bels n ds = false
  | [], h, _ => by cases h
  | x :: ds, h, hd => by
    rcases List.mem_cons.mp h with rfl | h
    · simp only [D.bels, hd, Bool.false_and]
    · simp only [D.bels, bels_false h hd, Bool.and_false]
theorem lst_bel_false {n m : Nat} {ds : List D} (h : D.ref m ∈ ds) (hm : n ≤ m) : (O.lst ds).bel n = false := bels_false h (by simp only [D.bel, decide_eq_false_iff_not]; omega)
theorem gc_W_keep {ns : List Int} {F : Fn} {ds : List D} {m j k : Nat} {g x : AH} {o : O} (e : F ds (W ns k g) = .ok (.ref (m + 2)) (W ns j (g ++ x))) (hm : g.length ≤ m) (eo : (g ++ x)[m]? = some o) (b : o.bel (g.length + 2) = false) : gcF F ds (W ns k g) = .ok (.ref (m + 2)) (W ns j (g ++ x)) := by
  unfold gcF
  rw [e]
  dsimp only [gcR]
  have hb : ¬ (D.ref (m + 2)).bel (W ns k g).length = true := by rw [W_len]; simp only [D.bel, decide_eq_true_eq]; omega
  have hw : (W ns j (g ++ x))[m + 2]? = some o := eo
  rw [if_pos gcable_W, if_neg hb]
  simp only [hw, W_len, b]
  simp
/-! ### texts bent -/
def sgn8 : List (List Nat) := [[45], [45, 45], [65], [32], [95], [122], [97, 98, 99, 100, 101, 102, 103, 104, 105, 106, 107, 108], List.replicate 30 120]
theorem m_law_textsOf {ns : List Int} {k : Nat} {g : AH} {s : List Nat} (hl : s.length ≤ 30) (ha : s.all ascii = true) (hk : k ≤ 900000) :
    ∃ m ds j, m_law_texts [.ref 0, .ref 1, .str s] (W ns k g) = .ok (.ref (m + 2)) (W ns (k + 1) (g ++ j)) ∧ g.length ≤ m ∧ (g ++ j)[m]? = some (.lst ds) ∧ ds.length ≤ 20 ∧ (O.lst ds).bel (g.length + 2) = false ∧ ∀ x ∈ ds, ∀ n, AA n (W ns (k + 1) (g ++ j)) x := by
  obtain ⟨v, v0, v1, ev⟩ := draw2_W (ns := ns) (k := k) (g := g) (m := (s.length : Int) + 1) (by omega) (by omega)
  obtain ⟨n, rfl⟩ : ∃ n : Nat, v = (n : Int) := ⟨v.toNat, by omega⟩
  let f : List Nat → List Nat := fun z => s.take n ++ z ++ s.drop n
  have lt := List.length_take_le n s
  have ld := List.length_drop (i := n) (l := s)
  have c1 : ∀ h : AH, slK (.str s) none (some (n : Int)) h = some (.str (s.take n), h) := fun h => by rw [slK_str (by omega), cut_hi]
  have c2 : ∀ h : AH, slK (.str s) (some (n : Int)) none h = some (.str (s.drop n), h) := fun h => by rw [slK_str (by omega), cut_lo]
  have h30 : ∀ z ∈ sgn8, z.length ≤ 30 ∧ z.all ascii = true := by decide
  have e8 : b_law_texts_c1 [some (.ref 0), some (.ref 1), some (.str s), some (.int (n : Nat)), none, none] (W ns (k + 1) g) = .ok (.ref (g.length + 2)) (W ns (k + 1) (g ++ [.lst (txs (sgn8.map f))])) := by
    have hmu : ∀ h : AH, mulD (.str [120]) (.int 30) h = some (.str (List.replicate 30 120), h) := fun h => rfl
    have hit : iSeq (dTup (dCons (dC (.str [45])) (dCons (dC (.str [45, 45])) (dCons (dC (.str [65])) (dCons (dC (.str [32])) (dCons (dC (.str [95])) (dCons (dC (.str [122])) (dCons (dC (.str [97, 98, 99, 100, 101, 102, 103, 104, 105, 106, 107, 108])) (dCons (dBin mulD (dC (.str [120])) (dC (.int 30))) dNil))))))))) [some (.ref 0), some (.ref 1), some (.str s), some (.int (n : Nat)), none, none] (W ns (k + 1) g) = .ok (sgn8.map D.str) (fun _ => True) (W ns (k + 1) g) := by
      simp [hmu, sgn8]
    have := dComp_mapA (g := gNm 5) (fe := dBin addD (dBin addD (dSl (dVar 2) none (some (dVar 3))) (dVar 5)) (dSl (dVar 2) (some (dVar 3)) none)) (vs := [5]) sgn8 D.str (gd := fun _ => True) hit (fun z => .str (f z)) (fun _ => trivial) (by decide) fun z hz acc => ⟨[some (.ref 0), some (.ref 1), some (.str s), some (.int (n : Nat)), none, some (.str z)], rfl, by
        have p1 : ∀ h : AH, addD (.str (s.take n)) (.str z) h = some (.str (s.take n ++ z), h) := fun h => addD_ss (by have := (h30 z hz).1; omega)
        have p2 : ∀ h : AH, addD (.str (s.take n ++ z)) (.str (s.drop n)) h = some (.str (s.take n ++ z ++ s.drop n), h) := fun h => addD_ss (by have := (h30 z hz).1; rw [List.length_append]; omega)
        simp [-List.append_assoc, c1, c2, p1, p2, f]⟩
    rw [show txs (sgn8.map f) = sgn8.map fun z => D.str (f z) from by unfold txs; rw [List.map_map]; rfl]
    exact this
  let I8 := txs (sgn8.map f)
  let I9 : List D := [.str (s.drop 1), .str s.dropLast, .str [], .str (s ++ s), .non, .int 7, .bl true, .tup [.str s], .ref (g.length + 1 + 2)]
  have d1 : ∀ h : AH, slK (.str s) (some (1 : Int)) none h = some (.str (s.drop 1), h) := fun h => by
    have : (1 : Int) = ((1 : Nat) : Int) := rfl
    rw [slK_str (by omega), this, cut_lo]
  have d2 : ∀ h : AH, slK (.str s) none (some (-1 : Int)) h = some (.str s.dropLast, h) := fun h => by rw [slK_str (by omega), cut_but1]
  have d3 : ∀ h : AH, addD (.str s) (.str s) h = some (.str (s ++ s), h) := fun h => addD_ss (by omega)
  have e9 : dLst (dCons (dSl (dVar 2) (some (dC (.int 1))) none) (dCons (dSl (dVar 2) none (some (dUn negD (dC (.int 1))))) (dCons (dC (.str [])) (dCons (dBin addD (dVar 2) (dVar 2)) (dCons (dC .non) (dCons (dC (.int 7)) (dCons (dC (.bl true)) (dCons (dTup (dCons (dVar 2) dNil)) (dCons (dLst (dCons (dVar 2) dNil)) dNil))))))))) [some (.ref 0), some (.ref 1), some (.str s), some (.int (n : Nat)), some (.ref (g.length + 2)), none] (W ns (k + 1) (g ++ [.lst I8])) = .ok (.ref (g.length + 2 + 2)) (W ns (k + 1) (g ++ [.lst I8, .lst [.str s], .lst I9])) := by
    simp [d1, d2, d3, I9]
  have ea : addD (.ref (g.length + 2)) (.ref (g.length + 2 + 2)) (W ns (k + 1) (g ++ [O.lst I8, .lst [.str s], .lst I9])) = some (.ref (g.length + 3 + 2), W ns (k + 1) (g ++ [O.lst I8, .lst [.str s], .lst I9, .lst (I8 ++ I9)])) := by
    rw [addD_ll (xs := I8) (ys := I9) (by rw [W_get]; simp) (by rw [W_get, get_new]; rfl) (by simp [I8, I9, sgn8])]
    rw [W_app, W_len]
    simp only [List.length_append, List.length_cons, List.length_nil, List.append_assoc, List.cons_append, List.nil_append]
  have hbel : (O.lst (I8 ++ I9)).bel (g.length + 2) = false := lst_bel_false (m := g.length + 1 + 2) (List.mem_append_right _ (by simp [I9])) (by omega)
  have hix : (g ++ [O.lst I8, .lst [.str s], .lst I9, .lst (I8 ++ I9)])[g.length + 3]? = some (.lst (I8 ++ I9)) := by rw [get_new]; rfl
  refine ⟨g.length + 3, I8 ++ I9, [.lst I8, .lst [.str s], .lst I9, .lst (I8 ++ I9)], gc_W_keep ?_ (by omega) hix hbel, by omega, hix, by simp [I8, I9, sgn8], hbel, ?_⟩
  · rw [runF_at (σ := [some (.ref 0), some (.ref 1), some (.str s), none, none, none]) (by rfl) (by rfl), b_law_texts]
    have s1 : sSet 3 (dCall m_law_draw_2 (dCons (dVar 0) (dCons (dVar 1) (dCons (dBin addD (dCallB lenL (dCons (dVar 2) dNil)) (dC (.int 1))) dNil)))) [some (.ref 0), some (.ref 1), some (.str s), none, none, none] (W ns k g) = .nx [some (.ref 0), some (.ref 1), some (.str s), some (.int (n : Nat)), none, none] (W ns (k + 1) g) := by
      simp [lenL_str (s := s) (by omega), ev]
    rw [sSeq_eq, s1, RS.bind_nx, sSeq_eq, sSet_eq, e8]
    simp only [DL.R.bindS_ok, List.set_cons_succ, List.set_cons_zero, RS.bind_nx]
    rw [sRet_eq, dBin_eq, dVar_at rfl, DL.R.bind_ok, e9, DL.R.bind_ok, ea]
    rfl
  · have hst : ∀ z : List Nat, z.length ≤ 1000 → z.all ascii = true → ∀ n, AA n (W ns (k + 1) (g ++ [O.lst I8, .lst [.str s], .lst I9, .lst (I8 ++ I9)])) (.str z) := fun z h1 h2 n => AA.flat h1 h2 (fun _ z => by cases z)
    have hsub : ∀ {u : List Nat}, (∀ c ∈ u, c ∈ s) → u.all ascii = true := fun {u} h => by
      rw [List.all_eq_true] at ha ⊢
      exact fun c hc => ha c (h c hc)
    intro x hx n'
    rcases List.mem_append.mp hx with hx | hx
    · obtain ⟨w, hw, rfl⟩ := List.mem_map.mp hx
      obtain ⟨z, hz, rfl⟩ := List.mem_map.mp hw
      obtain ⟨z1, z2⟩ := h30 z hz
      refine hst _ (by show (s.take n ++ z ++ s.drop n).length ≤ 1000; rw [List.length_append, List.length_append]; omega) ?_ n'
      show (s.take n ++ z ++ s.drop n).all ascii = true
      rw [List.all_append, List.all_append, z2, hsub fun c hc => List.mem_of_mem_take hc, hsub fun c hc => List.mem_of_mem_drop hc]
      rfl
    · simp only [I9, List.mem_cons, List.not_mem_nil, or_false] at hx
      rcases hx with rfl | rfl | rfl | rfl | rfl | rfl | rfl | rfl | rfl
      · exact hst _ (by rw [List.length_drop]; omega) (hsub fun c hc => List.mem_of_mem_drop hc) n'
      · exact hst _ (by rw [List.length_dropLast]; omega) (hsub fun c hc => List.dropLast_subset _ hc) n'
      · exact hst _ (by simp) rfl n'
      · exact hst _ (by rw [List.length_append]; omega) (by rw [List.all_append, ha]; rfl) n'
      · exact AA.non
      · exact AA.flat trivial rfl (fun _ z => by cases z)
      · exact AA.flat trivial rfl (fun _ z => by cases z)
      · cases n' with
        | zero => exact ⟨trivial, rfl⟩
        | succ n' =>
          refine AA.tup (by simp) fun y hy => ?_
          rw [List.mem_singleton.mp hy]
          exact hst _ (by omega) ha n'
      · refine AA.flat ⟨[.str s], ?_⟩ rfl (fun _ z => by cases z)
        rw [W_get, get_new]
        rfl
end DL


set_option maxRecDepth 100000
namespace DL
open PySem PySem.Spec PyProof.Rows L2

/-! ## k34: bent, deeper -/
def AW (h : AH) (d : D) : Prop := ∀ n, AA n h d
theorem AW.mono {h h' : AH} {d : D} (g : Grow h h') (a : AW h d) : AW h' d := fun n => (a n).mono g
theorem AW.flat {h : AH} {d : D} (hk : known h d) (ha : asciiD d = true) (ht : ∀ es, d ≠ .tup es) : AW h d := fun n => AA.flat hk ha ht
theorem AW.tup {h : AH} {es : List D} (hl : es.length ≤ 60) (hx : ∀ x ∈ es, AW h x) : AW h (.tup es) := fun n => by
  cases n with
  | zero => exact ⟨trivial, rfl⟩
  | succ n => exact AA.tup hl fun x hy => hx x hy n
theorem AW.non {h : AH} : AW h .non := fun _ => AA.non
theorem TT.aw {n : Nat} {h : AH} {d : D} (t : TT n d) : AW h d := fun _ => t.aa
/-- a bent part put in -/
theorem bent_put {ns : List Int} {k n : Nat} {g j : AH} {es acc : List D} {x : D} {i : Nat} (hes : es.length ≤ 4) (hT : ∀ y ∈ es, TT n y) (hj : j[1]? = some (.lst acc)) (hal : acc.length ≤ 1000) (hA : ∀ y ∈ acc, AW (W ns k (g ++ j)) y) (hx : AW (W ns k (g ++ j)) x) {a0 a1 a5 : Option D} :
    ∃ j' : AH, j'.length = j.length ∧ (∀ p, p ≠ 1 → j'[p]? = j[p]?) ∧ j'[1]? = some (.lst (acc ++ [.tup (es.take i ++ [x] ++ es.drop (i + 1))])) ∧ Grow (W ns k (g ++ j)) (W ns k (g ++ j')) ∧
      (∀ y ∈ acc ++ [.tup (es.take i ++ [x] ++ es.drop (i + 1))], AW (W ns k (g ++ j')) y) ∧
      b_law_bent_l1 [a0, a1, some (.tup es), some (.ref (g.length + 1 + 2)), some (.int (i : Nat)), a5, some x] (W ns k (g ++ j)) = .nx [a0, a1, some (.tup es), some (.ref (g.length + 1 + 2)), some (.int (i : Nat)), a5, some x] (W ns k (g ++ j')) := by
  let y0 : D := .tup (es.take i ++ [x] ++ es.drop (i + 1))
  have hget : (W ns k (g ++ j))[g.length + 1 + 2]? = some (.lst acc) := by rw [W_get, get_new]; exact hj
  have hgrow : Grow (W ns k (g ++ j)) (W ns k (g ++ j.set 1 (.lst (acc ++ [y0])))) := by
    have : W ns k (g ++ j.set 1 (.lst (acc ++ [y0]))) = (W ns k (g ++ j)).set (g.length + 1 + 2) (.lst (acc ++ [y0])) := by
      rw [W_set, set_new]
    rw [this]
    exact Grow.set
  refine ⟨j.set 1 (.lst (acc ++ [y0])), List.length_set, fun p hp => List.getElem?_set_ne (fun z => hp z.symm), ?_, hgrow, ?_, ?_⟩
  · rw [List.getElem?_set_self (List.getElem?_eq_some_iff.mp hj).1]
  · intro y hy
    rcases List.mem_append.mp hy with hy | hy
    · exact (hA y hy).mono hgrow
    · rw [List.mem_singleton.mp hy]
      refine AW.tup (by simp; omega) fun z hz => ?_
      rw [List.mem_append, List.mem_append] at hz
      rcases hz with (hz | hz) | hz
      · exact (hT z (List.mem_of_mem_take hz)).aw
      · rw [List.mem_singleton.mp hz]; exact hx.mono hgrow
      · exact (hT z (List.mem_of_mem_drop hz)).aw
  · have hgl : gLst (.ref (g.length + 1 + 2)) (W ns k (g ++ j)) = true := gLst_lst hget
    have c1 : slK (.tup es) none (some (i : Int)) (W ns k (g ++ j)) = some (.tup (es.take i), W ns k (g ++ j)) := by rw [slK_tup, cut_hi]
    have c2 : slK (.tup es) (some ((i : Int) + 1)) none (W ns k (g ++ j)) = some (.tup (es.drop (i + 1)), W ns k (g ++ j)) := by
      have : ((i : Int) + 1) = ((i + 1 : Nat) : Int) := by omega
      rw [slK_tup, this, cut_lo]
    have p1 : addD (.tup (es.take i)) (.tup [x]) (W ns k (g ++ j)) = some (.tup (es.take i ++ [x]), W ns k (g ++ j)) := addD_tt (by simp; omega)
    have p2 : addD (.tup (es.take i ++ [x])) (.tup (es.drop (i + 1))) (W ns k (g ++ j)) = some (y0, W ns k (g ++ j)) := addD_tt (by simp; omega)
    have ma := mAppend_at (d := y0) hget (by omega)
    rw [W_set, set_new] at ma
    unfold b_law_bent_l1
    generalize g.length + 1 + 2 = q at *
    simp only [sDrop_eq, dMt_eq, dCons_eq, dNil_eq, dBin_eq, dSl_eq, dTup_eq, evP_none, evP_some, dC_eq]
    simp [-slK_tup, -List.append_assoc, hgl, c1, c2, p1, p2, ma]
/-- all that a part gives -/
theorem bent_in {ns : List Int} {k n : Nat} {g : AH} {es : List D} {i s : Nat} {L : List D} (hes : es.length ≤ 4) (hT : ∀ y ∈ es, TT n y) (hs : 1 < s) {a0 a1 a5 : Option D} : ∀ (xs : List D) (j : AH) (acc : List D) (a6 : Option D), j[1]? = some (.lst acc) → j[s]? = some (.lst L) → acc.length + xs.length ≤ 1000 →
    (∀ y ∈ acc, AW (W ns k (g ++ j)) y) → (∀ y ∈ xs, AW (W ns k (g ++ j)) y) →
    ∃ j' acc' b6, j'[1]? = some (.lst acc') ∧ acc'.length = acc.length + xs.length ∧ (∀ y ∈ acc, y ∈ acc') ∧ (∀ y ∈ acc', AW (W ns k (g ++ j')) y) ∧ Grow (W ns k (g ++ j)) (W ns k (g ++ j')) ∧
      forL (fun h => h[g.length + s + 2]? = some (.lst L)) (gNm 6) b_law_bent_l1 xs [a0, a1, some (.tup es), some (.ref (g.length + 1 + 2)), some (.int (i : Nat)), a5, a6] (W ns k (g ++ j)) = .nx [a0, a1, some (.tup es), some (.ref (g.length + 1 + 2)), some (.int (i : Nat)), a5, b6] (W ns k (g ++ j'))
  | [], j, acc, a6, hj, hL, _, hA, _ => ⟨j, acc, a6, hj, by simp, fun _ z => z, hA, Grow.refl _, forL_nil (by rw [W_get, get_new]; exact hL)⟩
  | x :: xs, j, acc, a6, hj, hL, hl, hA, hX => by
    simp only [List.length_cons] at hl
    obtain ⟨j1, l1, k1, q1, w1, r1, e1⟩ := bent_put (ns := ns) (k := k) (n := n) (g := g) (i := i) hes hT hj (by omega) hA (hX x (by simp)) (a0 := a0) (a1 := a1) (a5 := a5)
    obtain ⟨j2, acc2, b6, h1, h2, h3, h4, h5, h6⟩ := bent_in (ns := ns) (k := k) (n := n) (g := g) (i := i) (s := s) (L := L) hes hT hs (a0 := a0) (a1 := a1) (a5 := a5) xs j1 _ (some x) q1 (by rw [k1 s (by omega)]; exact hL) (by simp; omega) r1 (fun y hy => (hX y (by simp [hy])).mono w1)
    refine ⟨j2, acc2, b6, h1, by rw [h2]; simp; omega, fun y hy => h3 y (by simp [hy]), h4, w1.trans h5, ?_⟩
    rw [forL_cons (σ' := [a0, a1, some (.tup es), some (.ref (g.length + 1 + 2)), some (.int (i : Nat)), a5, some x]) (by rw [W_get, get_new]; exact hL) rfl, e1]
    exact h6
theorem bent_spec {ns : List Int} : ∀ (n f : Nat) (d : D), n < f → TT n d → ∀ (k : Nat) (g : AH), k + 5 ^ n ≤ 800000 →
    ∃ m ds j k', m_law_bent_ f [.ref 0, .ref 1, d] (W ns k g) = .ok (.ref (m + 2)) (W ns k' (g ++ j)) ∧ g.length ≤ m ∧ (g ++ j)[m]? = some (.lst ds) ∧ ds.length ≤ 60 ∧ k' ≤ k + 5 ^ n ∧ (O.lst ds).bel (g.length + 2) = false ∧ ∀ x ∈ ds, AW (W ns k' (g ++ j)) x
  | _, 0, _, hf, _, _, _, _ => by omega
  | 0, f + 1, d, hf, t, k, g, hk => by
    obtain ⟨s, rfl, h1, h2, h3⟩ := t
    obtain ⟨m, ds, j, e, q1, q2, q3, q4, q5⟩ := m_law_textsOf (ns := ns) (k := k) (g := g) h1 h3 (by simp at hk; omega)
    refine ⟨m, ds, j, k + 1, gc_W_keep ?_ q1 q2 q4, q1, q2, by omega, by simp, q4, fun x hx => q5 x hx⟩
    rw [runF_at (σ := [some (.ref 0), some (.ref 1), some (.str s), none, none, none, none]) (by rfl) (by rfl), b_law_bent]
    simp [e]
  | n + 1, f + 1, d, hf, t, k, g, hk => by
    obtain ⟨es, rfl, hne, hes, hT⟩ := t
    have hpow : 5 ^ (n + 1) = 5 ^ n * 5 := Nat.pow_succ ..
    generalize hp : 5 ^ n = p at hpow
    have hp1 : 1 ≤ p := by rw [← hp]; exact Nat.one_le_pow _ _ (by decide)
    rw [hpow] at hk ⊢
    let J9 : List D := [.ref (g.length + 2), .tup es.reverse, .tup (es.drop 1), .tup (es ++ es.take 1), .tup [.tup es], .non, .tup [], .tup (es ++ [.non]), .tup (es ++ (es ++ es))]
    let j0 : AH := [.lst es, .lst J9]
    have e3 : sSet 3 (dLst (dCons (dCallB listL (dCons (dVar 2) dNil)) (dCons (dUn revD (dVar 2)) (dCons (dSl (dVar 2) (some (dC (.int 1))) none) (dCons (dBin addD (dVar 2) (dSl (dVar 2) none (some (dC (.int 1))))) (dCons (dTup (dCons (dVar 2) dNil)) (dCons (dC .non) (dCons (dTup dNil) (dCons (dBin addD (dVar 2) (dTup (dCons (dC .non) dNil))) (dCons (dBin mulD (dVar 2) (dC (.int 3))) dNil)))))))))) [some (.ref 0), some (.ref 1), some (.tup es), none, none, none, none] (W ns k g) = .nx [some (.ref 0), some (.ref 1), some (.tup es), some (.ref (g.length + 1 + 2)), none, none, none] (W ns k (g ++ j0)) := by
      have c1 : ∀ h : AH, slK (.tup es) (some (1 : Int)) none h = some (.tup (es.drop 1), h) := fun h => by
        have : (1 : Int) = ((1 : Nat) : Int) := rfl
        rw [slK_tup, this, cut_lo]
      have c2 : ∀ h : AH, slK (.tup es) none (some (1 : Int)) h = some (.tup (es.take 1), h) := fun h => by
        have : (1 : Int) = ((1 : Nat) : Int) := rfl
        rw [slK_tup, this, cut_hi]
      have c3 : ∀ h : AH, addD (.tup es) (.tup (es.take 1)) h = some (.tup (es ++ es.take 1), h) := fun h => addD_tt (by simp; omega)
      have c4 : ∀ h : AH, addD (.tup es) (.tup [.non]) h = some (.tup (es ++ [.non]), h) := fun h => addD_tt (by simp; omega)
      have c5 : ∀ h : AH, mulD (.tup es) (.int 3) h = some (.tup (es ++ (es ++ es)), h) := fun h => by
        have hr : (List.replicate 3 es).flatten = es ++ (es ++ es) := by simp [List.replicate]
        simp [mulD, hne, show es.length ≤ 1000 by omega, hr]
      have c6 : listL [.tup es] (W ns k g) = some (.ref (g.length + 2), W ns k (g ++ [.lst es])) := by simp [listL]
      simp [-slK_tup, c1, c2, c3, c4, c5, c6, j0, J9]
    have hA0 : ∀ y ∈ J9, AW (W ns k (g ++ j0)) y := by
      intro y hy
      have ta : ∀ z ∈ es, AW (W ns k (g ++ j0)) z := fun z hz => (hT z hz).aw
      have tn : AW (W ns k (g ++ j0)) .non := AW.non
      simp only [J9, List.mem_cons, List.not_mem_nil, or_false] at hy
      rcases hy with rfl | rfl | rfl | rfl | rfl | rfl | rfl | rfl | rfl
      · exact AW.flat ⟨es, by rw [W_get]; simp [j0]⟩ rfl (fun _ z => by cases z)
      · exact AW.tup (by simp; omega) fun z hz => ta z (List.mem_reverse.mp hz)
      · exact AW.tup (by simp; omega) fun z hz => ta z (List.mem_of_mem_drop hz)
      · refine AW.tup (by simp; omega) fun z hz => ?_
        rcases List.mem_append.mp hz with hz | hz
        · exact ta z hz
        · exact ta z (List.mem_of_mem_take hz)
      · refine AW.tup (by simp) fun z hz => ?_
        rw [List.mem_singleton.mp hz]
        exact TT.aw (n := n + 1) ⟨es, rfl, hne, hes, hT⟩
      · exact AW.non
      · exact AW.tup (by simp) (by simp)
      · refine AW.tup (by simp; omega) fun z hz => ?_
        rcases List.mem_append.mp hz with hz | hz
        · exact ta z hz
        · rw [List.mem_singleton.mp hz]; exact tn
      · refine AW.tup (by simp; omega) fun z hz => ?_
        rw [List.mem_append, List.mem_append] at hz
        rcases hz with hz | hz | hz <;> exact ta z hz
    -- the loop
    have lp := forL_all (gd := fun _ => True) (g := gTp 2 (gsCons (gNm 4) (gsCons (gNm 5) gsNil))) (body := b_law_bent_l2 (m_law_bent_ f)) (items := pairs (iota 0 es.length) es) (σ := [some (.ref 0), some (.ref 1), some (.tup es), some (.ref (g.length + 1 + 2)), none, none, none]) (h := W ns k (g ++ j0))
      (fun i σ h => ∃ k' j acc b4 b5 b6, k' ≤ k + i * p ∧ i ≤ 4 ∧ j[1]? = some (.lst acc) ∧ acc.length ≤ 9 + 12 * i ∧ D.ref (g.length + 2) ∈ acc ∧ (∀ y ∈ acc, AW (W ns k' (g ++ j)) y) ∧ σ = [some (.ref 0), some (.ref 1), some (.tup es), some (.ref (g.length + 1 + 2)), b4, b5, b6] ∧ h = W ns k' (g ++ j)) ⟨k, j0, J9, none, none, none, by omega, by omega, rfl, by simp [J9], by simp [J9], hA0, rfl, rfl⟩ (fun _ _ _ _ => trivial)
      (by
        rintro i σ h d hd ⟨k1, j1, acc, b4, b5, b6, hk1, hi, hj1, hal, href, hA, rfl, rfl⟩
        unfold pairs at hd
        rw [List.getElem?_map, Option.map_eq_some_iff] at hd
        obtain ⟨q, hq, rfl⟩ := hd
        obtain ⟨x, y⟩ := q
        rw [List.getElem?_zip_eq_some] at hq
        obtain ⟨h1, h2⟩ := hq
        obtain ⟨rfl, hlt⟩ := iota_get h1
        have hy : y ∈ es := List.mem_of_getElem? h2
        have hip : i * p ≤ 3 * p := Nat.mul_le_mul_right p (by omega)
        obtain ⟨m2, ds2, j2, k2, e2, q1, q2, q3, q4, q5, q6⟩ := bent_spec n f y (by omega) (hT y hy) k1 (g ++ j1) (by rw [hp]; omega)
        rw [hp] at q4
        have z0 : (0 + (i : Int)) = i := by omega
        have hsl : slK (.ref (m2 + 2)) none (some (12 : Int)) (W ns k2 (g ++ j1 ++ j2)) = some (.ref (g.length + (j1 ++ j2).length + 2), W ns k2 (g ++ (j1 ++ j2 ++ [.lst (ds2.take 12)]))) := by
          have : (12 : Int) = ((12 : Nat) : Int) := rfl
          rw [slK_lst (s := ds2) (by rw [W_get]; exact q2), this, cut_hi, W_app, W_len]
          simp only [List.append_assoc, List.length_append]
        have gr1 : Grow (W ns k1 (g ++ j1)) (W ns k2 (g ++ (j1 ++ j2 ++ [.lst (ds2.take 12)]))) := by
          have : W ns k2 (g ++ (j1 ++ j2 ++ [.lst (ds2.take 12)])) = W ns k2 (g ++ j1) ++ (j2 ++ [.lst (ds2.take 12)]) := by rw [W_app]; simp only [List.append_assoc]
          rw [this]
          exact Grow.tick.trans Grow.app
        have gr2 : Grow (W ns k2 (g ++ j1 ++ j2)) (W ns k2 (g ++ (j1 ++ j2 ++ [.lst (ds2.take 12)]))) := by
          have : W ns k2 (g ++ (j1 ++ j2 ++ [.lst (ds2.take 12)])) = W ns k2 (g ++ j1 ++ j2) ++ [.lst (ds2.take 12)] := by rw [W_app]; simp only [List.append_assoc]
          rw [this]
          exact Grow.app
        have hj3 : (j1 ++ j2 ++ [O.lst (ds2.take 12)])[1]? = some (.lst acc) := get_app (get_app hj1)
        have hjs : (j1 ++ j2 ++ [O.lst (ds2.take 12)])[(j1 ++ j2).length]? = some (.lst (ds2.take 12)) := by simp
        have hlj : 1 < (j1 ++ j2).length := by
          have := (List.getElem?_eq_some_iff.mp hj1).1
          rw [List.length_append]; omega
        have htk : (ds2.take 12).length ≤ 12 := List.length_take_le ..
        obtain ⟨j4, acc4, c6, r1, r2, r3, r4, r5, r6⟩ := bent_in (ns := ns) (k := k2) (n := n) (g := g) (es := es) (i := i) (s := (j1 ++ j2).length) (L := ds2.take 12) hes hT hlj (a0 := some (.ref 0)) (a1 := some (.ref 1)) (a5 := some y) (ds2.take 12) _ acc b6 hj3 hjs (by omega) (fun z hz => (hA z hz).mono gr1) (fun z hz => (q6 z (List.mem_of_mem_take hz)).mono gr2)
        refine ⟨[some (.ref 0), some (.ref 1), some (.tup es), some (.ref (g.length + 1 + 2)), some (.int (i : Nat)), some y, b6], _, _, by rw [z0]; rfl, .inl ?_, k2, j4, acc4, some (.int (i : Nat)), some y, c6, ?_, by omega, r1, by omega, r3 _ href, r4, rfl, rfl⟩
        · unfold b_law_bent_l2
          have hik := iK_lst (n := g.length + (j1 ++ j2).length + 2) (ds := ds2.take 12) (h := W ns k2 (g ++ (j1 ++ j2 ++ [.lst (ds2.take 12)]))) (by rw [W_get, get_new]; exact hjs)
          have hit : iSeq (dSl (dCall (m_law_bent_ f) (dCons (dVar 0) (dCons (dVar 1) (dCons (dVar 5) dNil)))) none (some (dC (.int 12)))) [some (.ref 0), some (.ref 1), some (.tup es), some (.ref (g.length + 1 + 2)), some (.int (i : Nat)), some y, b6] (W ns k1 (g ++ j1)) = .ok (ds2.take 12) (fun h' => h'[g.length + (j1 ++ j2).length + 2]? = some (.lst (ds2.take 12))) (W ns k2 (g ++ (j1 ++ j2 ++ [.lst (ds2.take 12)]))) := by
            simp [-List.append_assoc, -List.length_append, e2, hsl, hik]
          rw [sFor_eq, hit]
          exact r6
        · rw [Nat.succ_mul]; omega)
    obtain ⟨σ', h', el, k', j, acc, b4, b5, b6, hk', hi, hj, hal, href, hA, rfl, rfl⟩ := lp
    have hpl : (pairs (iota 0 es.length) es).length = es.length := by rw [pairs_length, iota_length]; omega
    rw [hpl] at hk' hal hi
    have hip : es.length * p ≤ 4 * p := Nat.mul_le_mul_right p hes
    have hbel : (O.lst acc).bel (g.length + 2) = false := lst_bel_false href (Nat.le_refl _)
    have hix : (g ++ j)[g.length + 1]? = some (.lst acc) := by rw [get_new]; exact hj
    refine ⟨g.length + 1, acc, j, k', gc_W_keep ?_ (by omega) hix hbel, by omega, hix, by omega, by omega, hbel, hA⟩
    have hik : iEaK [.tup es] (W ns k (g ++ j0)) = .ok (pairs (iota 0 es.length) es) (fun _ => True) (W ns k (g ++ j0)) := rfl
    rw [runF_at (σ := [some (.ref 0), some (.ref 1), some (.tup es), none, none, none, none]) (by rfl) (by rfl), b_law_bent]
    have s0 : sIf (dNot (dTru (dIsi "tuple" (dVar 2)))) (sRet (dCall m_law_texts (dCons (dVar 0) (dCons (dVar 1) (dCons (dVar 2) dNil))))) sNil [some (.ref 0), some (.ref 1), some (.tup es), none, none, none, none] (W ns k g) = .nx [some (.ref 0), some (.ref 1), some (.tup es), none, none, none, none] (W ns k g) := by simp
    rw [sSeq_eq, s0, RS.bind_nx, sSeq_eq, e3, RS.bind_nx, sSeq_eq]
    have s4 : sFor (iEa (dCons (dVar 2) dNil)) (gTp 2 (gsCons (gNm 4) (gsCons (gNm 5) gsNil))) (b_law_bent_l2 (m_law_bent_ f)) [some (.ref 0), some (.ref 1), some (.tup es), some (.ref (g.length + 1 + 2)), none, none, none] (W ns k (g ++ j0)) = .nx [some (.ref 0), some (.ref 1), some (.tup es), some (.ref (g.length + 1 + 2)), b4, b5, b6] (W ns k' (g ++ j)) := by
      rw [sFor_eq]
      have : iEa (dCons (dVar 2) dNil) [some (.ref 0), some (.ref 1), some (.tup es), some (.ref (g.length + 1 + 2)), none, none, none] (W ns k (g ++ j0)) = .ok (pairs (iota 0 es.length) es) (fun _ => True) (W ns k (g ++ j0)) := by
        simp [iEa, hik]
      rw [this]
      exact el
    rw [s4, RS.bind_nx]
    simp
end DL


set_option maxRecDepth 100000
namespace DL
open PySem PySem.Spec PyProof.Rows L2

/-! ## the law k34 -/
theorem compL_WK' {ns : List Int} {gd : AH → Prop} {gf : GF} {fe : SE} {vs : List Nat} {σ : Lc} {g : AH} (K : Nat) (c : Nat) (P : D → Prop) (hgd : ∀ k x, gd (W ns k x)) : ∀ (items : List D) (acc : List D) (k : Nat) (j : AH), acc.length + items.length ≤ 1000000 → k + c * items.length ≤ K → (∀ d ∈ acc, P d) →
    (∀ d ∈ items, ∀ acc k j, k ≤ K → ∃ σ2 v k' j', gf d (wipeD σ vs) (W ns k (g ++ .lst acc :: j)) = some σ2 ∧ P v ∧ k' ≤ k + c ∧ fe σ2 (W ns k (g ++ .lst acc :: j)) = .ok v (W ns k' (g ++ .lst acc :: j'))) →
    ∃ ds k' j', compL gd gf bYes fe vs (g.length + 2) items σ (W ns k (g ++ .lst acc :: j)) = .ok (.ref (g.length + 2)) (W ns k' (g ++ .lst ds :: j')) ∧ ds.length = acc.length + items.length ∧ (∀ d ∈ ds, P d) ∧ k' ≤ k + c * items.length
  | [], acc, k, j, _, _, ha, _ => by
    refine ⟨acc, k, j, ?_, by simp, ha, by simp⟩
    unfold compL
    rw [if_pos (hgd _ _)]
  | d :: items, acc, k, j, hl, hk, ha, hb => by
    simp only [List.length_cons, Nat.mul_succ] at hl hk
    obtain ⟨σ2, v, k1, j1, e1, pv, hk1, e2⟩ := hb d (by simp) acc k j (by omega)
    obtain ⟨ds, k', j', e, h1, h2, h3⟩ := compL_WK' (ns := ns) (gd := gd) (gf := gf) (fe := fe) (vs := vs) (σ := σ) (g := g) K c P hgd items (acc ++ [v]) k1 j1 (by simp; omega) (by omega) (fun x hx => by
      rcases List.mem_append.mp hx with hx | hx
      · exact ha x hx
      · rw [List.mem_singleton] at hx; rw [hx]; exact pv) fun x hx => hb x (List.mem_cons_of_mem _ hx)
    refine ⟨ds, k', j', ?_, by rw [h1]; simp; omega, h2, by simp only [List.length_cons, Nat.mul_succ]; omega⟩
    unfold compL
    rw [if_pos (hgd _ _), e1]
    dsimp only
    rw [bYes_eq]
    dsimp only
    rw [if_pos rfl, e2]
    dsimp only
    have hcell : (W ns k1 (g ++ .lst acc :: j1))[g.length + 2]? = some (.lst acc) := W_new 0
    simp only [hcell]
    rw [if_pos (by omega)]
    have hset : (W ns k1 (g ++ .lst acc :: j1)).set (g.length + 2) (.lst (acc ++ [v])) = W ns k1 (g ++ .lst (acc ++ [v]) :: j1) := by
      rw [W_set]
      congr 1
      simp
    rw [hset]
    exact e
/-- [e for .. in ..], e drawn -/
theorem dComp_WK' {ns : List Int} {fi : SI} {gd : AH → Prop} {gf : GF} {fe : SE} {vs : List Nat} {σ : Lc} {h : AH} {g : AH} {k : Nat} {items : List D} (K : Nat) (c : Nat) (P : D → Prop) (hi : fi σ h = .ok items gd (W ns k g)) (hgd : ∀ k x, gd (W ns k x)) (hl : items.length ≤ 1000000) (hk : k + c * items.length ≤ K)
    (hb : ∀ d ∈ items, ∀ acc k j, k ≤ K → ∃ σ2 v k' j', gf d (wipeD σ vs) (W ns k (g ++ .lst acc :: j)) = some σ2 ∧ P v ∧ k' ≤ k + c ∧ fe σ2 (W ns k (g ++ .lst acc :: j)) = .ok v (W ns k' (g ++ .lst acc :: j'))) :
    ∃ ds k' j', dComp fi gf bYes fe vs σ h = .ok (.ref (g.length + 2)) (W ns k' (g ++ .lst ds :: j')) ∧ ds.length = items.length ∧ (∀ d ∈ ds, P d) ∧ k' ≤ k + c * items.length := by
  obtain ⟨ds, k', j', e, h1, h2, h3⟩ := compL_WK' (ns := ns) (gd := gd) (gf := gf) (fe := fe) (vs := vs) (σ := σ) (g := g) K c P hgd items [] k [] (by simpa using hl) hk (by simp) hb
  refine ⟨ds, k', j', ?_, by simpa using h1, h2, h3⟩
  unfold dComp
  rw [hi]
  exact e
theorem nm_ascii {c : Nat} (h : nameC c = true) : ascii c = true := by
  by_cases hc : c < 128
  · have : ∀ c < 128, nameC c = true → ascii c = true := by decide +kernel
    exact this c hc h
  · exfalso
    unfold nameC at h
    simp [alnum] at h
    omega
theorem isNm_asc {w : List Nat} (h : isNm w = true) : w.all ascii = true := by
  rw [List.all_eq_true]
  exact fun c hc => nm_ascii (nm_sign h hc)
theorem isNm_ne {w : List Nat} (h : isNm w = true) : w ≠ [] := by
  rintro rfl
  cases h
theorem isNm_ti {w : List Nat} (h : isNm w = true) : isTi w = true := by
  have hl := isNm_len h
  have hne := isNm_ne h
  have h32 : (32 : Nat) ∉ w := nm_not h (by decide)
  unfold isTi
  simp only [Bool.and_eq_true, decide_eq_true_eq, Bool.not_eq_true', decide_eq_false_iff_not]
  refine ⟨⟨⟨⟨List.length_pos_iff.mpr hne, by omega⟩, isNm_asc h⟩, fun z => h32 (List.mem_of_head? z)⟩, fun z => h32 (List.mem_of_getLast? z)⟩
theorem isNm_tt {w : List Nat} (h : isNm w = true) : TT 0 (.str w) := ⟨w, rfl, by have := isNm_len h; omega, isNm_ne h, isNm_asc h⟩
theorem ad_tt {a : Ad} (h : okAd a = true) : TT 1 (adD a) := ⟨txs a, rfl, by
  have := ad_ne h
  cases a with
  | nil => exact absurd rfl this
  | cons x y => simp, by rw [txs_length]; exact ad_le h, fun x hx => by
  obtain ⟨w, hw, rfl⟩ := List.mem_map.mp hx
  exact isNm_tt (ad_nm h w hw)⟩
theorem ru_tt {r : Rw} (h : okRow r = true) : TT 2 (ruD r) := by
  unfold okRow at h
  rw [Bool.and_eq_true] at h
  refine ⟨_, rfl, by simp, by simp, fun x hx => ?_⟩
  simp only [List.mem_cons, List.not_mem_nil, or_false] at hx
  rcases hx with rfl | rfl
  · exact ad_tt h.1
  · exact ad_tt h.2
theorem k34_address {ns : List Int} {k : Nat} {g : AH} (hk : k ≤ 500000) {a2 a3 a4 a5 a6 a7 a8 a9 a10 : Option D} :
    ∃ a k' j, okAd a = true ∧ k' ≤ k + 100 ∧ dCallB tupleL (dCons b_law_k34_c1 dNil) [some (.ref 0), some (.ref 1), a2, a3, a4, a5, a6, a7, a8, a9, a10] (W ns k g) = .ok (adD a) (W ns k' (g ++ j)) := by
  obtain ⟨v, v0, v1, ev⟩ := draw2_W (ns := ns) (k := k) (g := g) (m := 4) (by omega) (by omega)
  have er := iRg1K_int (n := 1 + v) (h := W ns (k + 1) g) (by omega) (by omega)
  have hil : (iota 0 (1 + v).toNat).length = (1 + v).toNat := iota_length
  obtain ⟨ds, k', j', e, hdl, hP, hk'⟩ := dComp_WK' (ns := ns) (g := g) (k := k + 1) (items := iota 0 (1 + v).toNat) (gd := fun _ => True) (fi := iRng1 (dCons (dBin addD (dC (.int 1)) (dCall m_law_draw_2 (dCons (dVar 0) (dCons (dVar 1) (dCons (dC (.int 4)) dNil))))) dNil)) (σ := [some (.ref 0), some (.ref 1), a2, a3, a4, a5, a6, a7, a8, a9, a10]) (h := W ns k g) (vs := [10]) (gf := gNm 10) (fe := dCall m_law_name_2 (dCons (dVar 0) (dCons (dVar 1) dNil))) 700000 13 (fun d => ∃ w, d = .str w ∧ isNm w = true)
    (by simp [ev, er]) (fun _ _ => trivial) (by omega) (by omega) (by
      intro d hd acc k j hk
      obtain ⟨w, k', h1, h2, ep⟩ := m_law_name_2Of (ns := ns) (k := k) (g := g ++ .lst acc :: j) (by omega)
      exact ⟨[some (.ref 0), some (.ref 1), a2, a3, a4, a5, a6, a7, a8, a9, some d], .str w, k', j, rfl, ⟨w, rfl, h1⟩, by omega, by simp [ep]⟩)
  obtain ⟨ws, rfl, hw⟩ := ds_txs hP
  rw [txs_length, hil] at hdl
  rw [hil] at hk'
  have et : tupleL [.ref (g.length + 2)] (W ns k' (g ++ .lst (txs ws) :: j')) = some (adD ws, W ns k' (g ++ .lst (txs ws) :: j')) := tupleL_lst (W_new 0)
  refine ⟨ws, k', .lst (txs ws) :: j', okAd_of (by omega) (by omega) hw, by omega, ?_⟩
  have e' : b_law_k34_c1 [some (.ref 0), some (.ref 1), a2, a3, a4, a5, a6, a7, a8, a9, a10] (W ns k g) = _ := e
  simp only [dCallB_eq, dCons_eq, dNil_eq, e', DL.R.bindA_ok, RA.bindA_ok, RA.bind_ok, et, ofO_some]
theorem k34_hold {gd : AH → Prop} {h : AH} (hg : gd h) {a0 a1 a2 a3 a4 a5 a6 a8 a9 a10 : Option D} : ∀ (L : List D) (a7 : Option D), (∀ d ∈ L, AW h d) →
    ∃ b7, forL gd (gNm 7) b_law_k34_l3 L [a0, a1, a2, a3, a4, a5, a6, a7, a8, a9, a10] h = .nx [a0, a1, a2, a3, a4, a5, a6, b7, a8, a9, a10] h
  | [], a7, _ => ⟨a7, by rw [forL_nil hg]⟩
  | x :: L, a7, hL => by
    obtain ⟨b7, e⟩ := k34_hold hg (a0 := a0) (a1 := a1) (a2 := a2) (a3 := a3) (a4 := a4) (a5 := a5) (a6 := a6) (a8 := a8) (a9 := a9) (a10 := a10) L (some x) fun y hy => hL y (by simp [hy])
    refine ⟨b7, ?_⟩
    have ax := hL x (by simp)
    have eh := m_law_holdD (ax 3).known3 (ax 3).base.2
    have eb : b_law_k34_l3 [a0, a1, a2, a3, a4, a5, a6, some x, a8, a9, a10] h = .nx [a0, a1, a2, a3, a4, a5, a6, some x, a8, a9, a10] h := by
      unfold b_law_k34_l3
      simp [eh]
    rw [forL_cons (σ' := [a0, a1, a2, a3, a4, a5, a6, some x, a8, a9, a10]) hg rfl, eb]
    exact e
theorem k34_titles {gd : AH → Prop} {h : AH} (hg : gd h) {a0 a1 a2 a3 a4 a5 a6 a8 a9 a10 : Option D} : ∀ (L : List D) (a7 : Option D), (∀ d ∈ L, AW h d) →
    ∃ b7, forL gd (gNm 7) b_law_k34_l2 L [a0, a1, a2, a3, a4, a5, a6, a7, a8, a9, a10] h = .nx [a0, a1, a2, a3, a4, a5, a6, b7, a8, a9, a10] h
  | [], a7, _ => ⟨a7, by rw [forL_nil hg]⟩
  | x :: L, a7, hL => by
    obtain ⟨b7, e⟩ := k34_titles hg (a0 := a0) (a1 := a1) (a2 := a2) (a3 := a3) (a4 := a4) (a5 := a5) (a6 := a6) (a8 := a8) (a9 := a9) (a10 := a10) L (some x) fun y hy => hL y (by simp [hy])
    refine ⟨b7, ?_⟩
    have ax := hL x (by simp) 0
    have e1 := m_is_titleD ax.1
    have e2 := m_law_is_title_2D ax.1 ax.2
    have eb : b_law_k34_l2 [a0, a1, a2, a3, a4, a5, a6, some x, a8, a9, a10] h = .nx [a0, a1, a2, a3, a4, a5, a6, some x, a8, a9, a10] h := by
      unfold b_law_k34_l2
      simp [e1, e2]
    rw [forL_cons (σ' := [a0, a1, a2, a3, a4, a5, a6, some x, a8, a9, a10]) hg rfl, eb]
    exact e
theorem k34_size {n : Nat} (hn : n = 1 ∨ n = 12 ∨ n = 13 ∨ n = 30 ∨ n = 31) {h : AH} {a0 a1 a2 a3 a4 a5 a6 a7 a8 a10 : Option D} :
    b_law_k34_l1 [a0, a1, a2, a3, a4, a5, a6, a7, a8, some (.int n), a10] h = .nx [a0, a1, a2, a3, a4, a5, a6, a7, a8, some (.int n), a10] h := by
  have hle : n ≤ 31 := by omega
  have hm : ∀ c : Nat, mulD (.str [c]) (.int n) h = some (.str (List.replicate n c), h) := fun c => by
    have hr : (List.replicate n [c]).flatten = List.replicate n c := by
      clear hn hle
      induction n with
      | zero => rfl
      | succ n ih => rw [List.replicate_succ, List.flatten_cons, ih, List.replicate_succ]; rfl
    have h2 : (n : Int) ≤ 1000 := by omega
    simp [mulD, h2, hr]
  have e1 := m_is_nameOf (s := List.replicate n 120) (h := h) (by simp; omega)
  have e2 := m_is_titleOf (s := List.replicate n 88) (h := h) (by simp; omega)
  have q1 : isNm (List.replicate n 120) = decide ((n : Int) ≤ 12) := by
    rcases hn with rfl | rfl | rfl | rfl | rfl <;> decide
  have q2 : isTi (List.replicate n 88) = decide ((n : Int) ≤ 30) := by
    rcases hn with rfl | rfl | rfl | rfl | rfl <;> decide
  rw [q1] at e1
  rw [q2] at e2
  unfold b_law_k34_l1
  simp [hm, e1, e2]
theorem k34_sizes {h : AH} {a0 a1 a2 a3 a4 a5 a6 a7 a8 a9 a10 : Option D} : forL (fun _ => True) (gNm 9) b_law_k34_l1 [.int 1, .int 12, .int 13, .int 30, .int 31] [a0, a1, a2, a3, a4, a5, a6, a7, a8, a9, a10] h = .nx [a0, a1, a2, a3, a4, a5, a6, a7, a8, some (.int 31), a10] h := by
  have st : ∀ (n : Nat) (b9 : Option D) (L : List D), (n = 1 ∨ n = 12 ∨ n = 13 ∨ n = 30 ∨ n = 31) → forL (fun _ => True) (gNm 9) b_law_k34_l1 (.int n :: L) [a0, a1, a2, a3, a4, a5, a6, a7, a8, b9, a10] h = forL (fun _ => True) (gNm 9) b_law_k34_l1 L [a0, a1, a2, a3, a4, a5, a6, a7, a8, some (.int n), a10] h := fun n b9 L hn => by
    rw [forL_cons (σ' := [a0, a1, a2, a3, a4, a5, a6, a7, a8, some (.int n), a10]) trivial rfl, k34_size hn]
  have s1 := st 1 a9 [.int 12, .int 13, .int 30, .int 31] (by omega)
  have s2 := st 12 (some (.int (1 : Nat))) [.int 13, .int 30, .int 31] (by omega)
  have s3 := st 13 (some (.int (12 : Nat))) [.int 30, .int 31] (by omega)
  have s4 := st 30 (some (.int (13 : Nat))) [.int 31] (by omega)
  have s5 := st 31 (some (.int (30 : Nat))) [] (by omega)
  rw [forL_nil trivial] at s5
  exact s1.trans (s2.trans (s3.trans (s4.trans s5)))
theorem body_k34 {ns : List Int} {k : Nat} {g : AH} (hk : k ≤ 300000) {a2 a3 a4 a5 a6 a7 a8 a9 a10 : Option D} :
    ∃ k' g' b3 b4 b5 b6 b7 b8 b9, k' ≤ k + 1000 ∧ b_law_k34_l4 [some (.ref 0), some (.ref 1), a2, a3, a4, a5, a6, a7, a8, a9, a10] (W ns k g) = .nx [some (.ref 0), some (.ref 1), a2, b3, b4, b5, b6, b7, b8, b9, a10] (W ns k' g') := by
  obtain ⟨w, k1, hw, hk1, e1⟩ := m_law_name_2Of (ns := ns) (k := k) (g := g) (by omega)
  obtain ⟨a, k2, j2, ha, hk2, e2⟩ := k34_address (ns := ns) (k := k1) (g := g) (by omega) (a2 := a2) (a3 := some (.str w)) (a4 := a4) (a5 := a5) (a6 := a6) (a7 := a7) (a8 := a8) (a9 := a9) (a10 := a10)
  generalize hg2 : g ++ j2 = g2 at e2
  have hwl := isNm_len hw
  have h1w : okAd [w] = true := okAd_of (by simp) (by simp) (by simp [hw])
  have h2w : okAd [w, w] = true := okAd_of (by simp) (by simp) (by simp [hw])
  let R : List Rw := [(a, [w]), ([w, w], a)]
  have hR : ∀ r ∈ R, okRow r = true := fun r hr => by
    simp only [R, List.mem_cons, List.not_mem_nil, or_false] at hr
    rcases hr with rfl | rfl
    · unfold okRow; rw [ha, h1w]; rfl
    · unfold okRow; rw [ha, h2w]; rfl
  have s1 : sSet 3 (dCall m_law_name_2 (dCons (dVar 0) (dCons (dVar 1) dNil))) [some (.ref 0), some (.ref 1), a2, a3, a4, a5, a6, a7, a8, a9, a10] (W ns k g) = .nx [some (.ref 0), some (.ref 1), a2, some (.str w), a4, a5, a6, a7, a8, a9, a10] (W ns k1 g) := by simp [e1]
  have s2 : sSet 4 (dCallB tupleL (dCons b_law_k34_c1 dNil)) [some (.ref 0), some (.ref 1), a2, some (.str w), a4, a5, a6, a7, a8, a9, a10] (W ns k1 g) = .nx [some (.ref 0), some (.ref 1), a2, some (.str w), some (adD a), a5, a6, a7, a8, a9, a10] (W ns k2 g2) := by
    rw [sSet_eq, e2]
    rfl
  have s3 : sSet 5 (dTup (dCons (dTup (dCons (dVar 4) (dCons (dTup (dCons (dVar 3) dNil)) dNil))) (dCons (dTup (dCons (dTup (dCons (dVar 3) (dCons (dVar 3) dNil))) (dCons (dVar 4) dNil))) dNil))) [some (.ref 0), some (.ref 1), a2, some (.str w), some (adD a), a5, a6, a7, a8, a9, a10] (W ns k2 g2) = .nx [some (.ref 0), some (.ref 1), a2, some (.str w), some (adD a), some (rusD R), a6, a7, a8, a9, a10] (W ns k2 g2) := by
    simp
    rfl
  have c1 := m_is_nameOf (s := w) (h := W ns k2 g2) (by omega)
  have c2 := m_is_titleOf (s := w) (h := W ns k2 g2) (by omega)
  have c3 := m_is_addressD (d := adD [w]) (h := W ns k2 g2) (knownD_txs (by simp) (by simp; omega))
  have c4 := m_is_addressD (d := .str w) (h := W ns k2 g2) ⟨by show w.length ≤ 1000; omega, fun _ z => by cases z⟩
  have c5 := m_is_addressD (d := adD a) (h := W ns k2 g2) (knownD_txs (by have := ad_le ha; omega) fun x hx => by have := isNm_len (ad_nm ha x hx); omega)
  have c6 := m_are_rowsD (d := rusD R) (h := W ns k2 g2) (known3_rus hR (by simp [R]))
  rw [hw] at c1
  rw [isNm_ti hw] at c2
  rw [isAdD_ad, h1w] at c3
  rw [show isAdD (.str w) = false from rfl] at c4
  rw [isAdD_ad, ha] at c5
  rw [are_rus hR] at c6
  have hnd : decide ((R.map (·.1)).Nodup) = !decide (a = [w, w]) := by
    rw [Bool.eq_iff_iff, decide_eq_true_iff]
    simp [R]
  rw [hnd] at c6
  have c7 : eqD true (adD a) (adD [w, w]) (W ns k2 g2) = some (.bl (!decide (a = [w, w])), W ns k2 g2) := by rw [eqD_ad, Bool.true_xor]
  have y1 : D.tup [.str w] = adD [w] := rfl
  have y2 : D.tup [.str w, .str w] = adD [w, w] := rfl
  have s4 : dOr (dNot (dTru (dCall m_is_name (dCons (dVar 3) dNil)))) (dOr (dNot (dTru (dCall m_is_title (dCons (dVar 3) dNil)))) (dNot (dTru (dCall m_is_address (dCons (dTup (dCons (dVar 3) dNil)) dNil))))) [some (.ref 0), some (.ref 1), a2, some (.str w), some (adD a), some (rusD R), a6, a7, a8, a9, a10] (W ns k2 g2) = .ok false (W ns k2 g2) := by
    simp [c1, c2, y1, c3]
  have s5 : dOr (dTru (dCall m_is_address (dCons (dVar 3) dNil))) (dNot (dTru (dCall m_is_address (dCons (dVar 4) dNil)))) [some (.ref 0), some (.ref 1), a2, some (.str w), some (adD a), some (rusD R), a6, a7, a8, a9, a10] (W ns k2 g2) = .ok false (W ns k2 g2) := by
    simp [c4, c5]
  have s6 : isB (dBin (eqD true) (dCall m_are_rows (dCons (dVar 5) dNil)) (dBin (eqD true) (dVar 4) (dTup (dCons (dVar 3) (dCons (dVar 3) dNil))))) [some (.ref 0), some (.ref 1), a2, some (.str w), some (adD a), some (rusD R), a6, a7, a8, a9, a10] (W ns k2 g2) = .ok false (W ns k2 g2) := by
    simp [c6, y2, c7]
  -- things bent
  obtain ⟨m3, d3, j3, e3, p31, p32, p33, p34, p35⟩ := m_law_textsOf (ns := ns) (k := k2) (g := g2) (s := w) (by omega) (isNm_asc hw) (by omega)
  obtain ⟨m4, d4, j4, k4, e4, p41, p42, p43, p44, p45, p46⟩ := bent_spec (ns := ns) 1 4 (adD a) (by decide) (ad_tt ha) (k2 + 1) (g2 ++ j3) (by omega)
  have e4 : m_law_bent [.ref 0, .ref 1, adD a] (W ns (k2 + 1) (g2 ++ j3)) = _ := e4
  have h43 : (W ns k4 (g2 ++ j3 ++ j4))[m3 + 2]? = some (.lst d3) := by rw [W_get]; exact get_app p32
  have h44 : (W ns k4 (g2 ++ j3 ++ j4))[m4 + 2]? = some (.lst d4) := by rw [W_get]; exact p42
  have q4 := addD_ll h43 h44 (by omega)
  have gr34 : Grow (W ns (k2 + 1) (g2 ++ j3)) (W ns k4 (g2 ++ j3 ++ j4)) := by
    have : W ns k4 (g2 ++ j3 ++ j4) = W ns k4 (g2 ++ j3) ++ j4 := rfl
    rw [this]; exact Grow.tick.trans Grow.app
  have hA4 : ∀ x ∈ d3 ++ d4, AW (W ns k4 (g2 ++ j3 ++ j4)) x := fun x hx => by
    rcases List.mem_append.mp hx with hx | hx
    · exact AW.mono gr34 (p35 x hx)
    · exact p46 x hx
  have hG5 : W ns k4 (g2 ++ j3 ++ j4) ++ [O.lst (d3 ++ d4)] = W ns k4 (g2 ++ j3 ++ j4 ++ [.lst (d3 ++ d4)]) := rfl
  rw [hG5] at q4
  have gr45 : Grow (W ns k4 (g2 ++ j3 ++ j4)) (W ns k4 (g2 ++ j3 ++ j4 ++ [.lst (d3 ++ d4)])) := by rw [← hG5]; exact Grow.app
  have h5 : (g2 ++ j3 ++ j4 ++ [O.lst (d3 ++ d4)])[(g2 ++ j3 ++ j4).length]? = some (.lst (d3 ++ d4)) := by simp
  have hn5 : (W ns k4 (g2 ++ j3 ++ j4)).length = (g2 ++ j3 ++ j4).length + 2 := W_len
  rw [hn5] at q4
  generalize (g2 ++ j3 ++ j4).length = n5 at q4 h5
  generalize g2 ++ j3 ++ j4 ++ [O.lst (d3 ++ d4)] = g5 at q4 h5 gr45
  have s7 : sSet 6 (dBin addD (dCall m_law_texts (dCons (dVar 0) (dCons (dVar 1) (dCons (dVar 3) dNil)))) (dCall m_law_bent (dCons (dVar 0) (dCons (dVar 1) (dCons (dVar 4) dNil))))) [some (.ref 0), some (.ref 1), a2, some (.str w), some (adD a), some (rusD R), a6, a7, a8, a9, a10] (W ns k2 g2) = .nx [some (.ref 0), some (.ref 1), a2, some (.str w), some (adD a), some (rusD R), some (.ref (n5 + 2)), a7, a8, a9, a10] (W ns k4 g5) := by
    simp [-W_app, -List.append_assoc, e3, e4, q4]
  obtain ⟨m6, d6, j6, k6, e6, p61, p62, p63, p64, p65, p66⟩ := bent_spec (ns := ns) 3 4 (rusD R) (by decide) ⟨_, rfl, by simp [R], by simp [R], fun x hx => by
    obtain ⟨r, hr, rfl⟩ := List.mem_map.mp hx
    exact ru_tt (hR r hr)⟩ k4 g5 (by omega)
  have e6 : m_law_bent [.ref 0, .ref 1, rusD R] (W ns k4 g5) = _ := e6
  have q6 : slK (.ref (m6 + 2)) none (some (60 : Int)) (W ns k6 (g5 ++ j6)) = some (.ref ((g5 ++ j6).length + 2), W ns k6 (g5 ++ j6 ++ [.lst (d6.take 60)])) := by
    have : (60 : Int) = ((60 : Nat) : Int) := rfl
    rw [slK_lst (s := d6) (by rw [W_get]; exact p62), this, cut_hi, W_app, W_len]
  have gr56 : Grow (W ns k4 g5) (W ns k6 (g5 ++ j6)) := by
    have : W ns k6 (g5 ++ j6) = W ns k6 g5 ++ j6 := rfl
    rw [this]; exact Grow.tick.trans Grow.app
  have hG7 : W ns k6 (g5 ++ j6) ++ [O.lst (d6.take 60)] = W ns k6 (g5 ++ j6 ++ [.lst (d6.take 60)]) := rfl
  have gr67 : Grow (W ns k6 (g5 ++ j6)) (W ns k6 (g5 ++ j6 ++ [.lst (d6.take 60)])) := by rw [← hG7]; exact Grow.app
  have h75 : (g5 ++ j6 ++ [O.lst (d6.take 60)])[n5]? = some (.lst (d3 ++ d4)) := get_app (get_app h5)
  have h76 : (g5 ++ j6 ++ [O.lst (d6.take 60)])[(g5 ++ j6).length]? = some (.lst (d6.take 60)) := by simp
  generalize (g5 ++ j6).length = n6 at q6 h76
  generalize g5 ++ j6 ++ [O.lst (d6.take 60)] = g7 at q6 h75 h76 gr67
  have q7 := addD_ll (h := W ns k6 g7) (a := n5 + 2) (b := n6 + 2) (xs := d3 ++ d4) (ys := d6.take 60) (by rw [W_get]; exact h75) (by rw [W_get]; exact h76) (by rw [List.length_append, List.length_take]; omega)
  rw [W_app, W_len] at q7
  have hG8 : W ns k6 g7 ++ [O.lst (d3 ++ d4 ++ d6.take 60)] = W ns k6 (g7 ++ [.lst (d3 ++ d4 ++ d6.take 60)]) := rfl
  have gr78 : Grow (W ns k6 g7) (W ns k6 (g7 ++ [.lst (d3 ++ d4 ++ d6.take 60)])) := by rw [← hG8]; exact Grow.app
  have h8 : (g7 ++ [O.lst (d3 ++ d4 ++ d6.take 60)])[g7.length]? = some (.lst (d3 ++ d4 ++ d6.take 60)) := by simp
  have hA8 : ∀ x ∈ d3 ++ d4 ++ d6.take 60, AW (W ns k6 (g7 ++ [.lst (d3 ++ d4 ++ d6.take 60)])) x := fun x hx => by
    rcases List.mem_append.mp hx with hx | hx
    · exact (hA4 x hx).mono (gr45.trans (gr56.trans (gr67.trans gr78)))
    · exact (p66 x (List.mem_of_mem_take hx)).mono (gr67.trans gr78)
  generalize g7.length = n7 at q7 h8
  generalize g7 ++ [O.lst (d3 ++ d4 ++ d6.take 60)] = g8 at q7 h8 gr78 hA8
  generalize d3 ++ d4 ++ d6.take 60 = D8 at q7 h8 hA8
  have i8 : iSeq (dBin addD (dVar 6) (dSl (dCall m_law_bent (dCons (dVar 0) (dCons (dVar 1) (dCons (dVar 5) dNil)))) none (some (dC (.int 60))))) [some (.ref 0), some (.ref 1), a2, some (.str w), some (adD a), some (rusD R), some (.ref (n5 + 2)), a7, a8, a9, a10] (W ns k4 g5) = .ok D8 (fun h' => h'[n7 + 2]? = some (.lst D8)) (W ns k6 g8) := by
    have hik := iK_lst (n := n7 + 2) (ds := D8) (h := W ns k6 g8) (by rw [W_get]; exact h8)
    simp [-W_app, -List.append_assoc, e6, q6, q7, hik]
  obtain ⟨b7, e8⟩ := k34_hold (gd := fun h' => h'[n7 + 2]? = some (.lst D8)) (h := W ns k6 g8) (by rw [W_get]; exact h8) (a0 := some (.ref 0)) (a1 := some (.ref 1)) (a2 := a2) (a3 := some (.str w)) (a4 := some (adD a)) (a5 := some (rusD R)) (a6 := some (.ref (n5 + 2))) (a8 := a8) (a9 := a9) (a10 := a10) D8 a7 hA8
  -- a title
  obtain ⟨u, k9, hu, hk9, e9⟩ := m_law_name_2Of (ns := ns) (k := k6) (g := g8) (by omega)
  have hul := isNm_len hu
  have t1 : addD (.str w) (.str [32]) (W ns k6 g8) = some (.str (w ++ [32]), W ns k6 g8) := addD_ss (by simp; omega)
  have t2 : addD (.str (w ++ [32])) (.str u) (W ns k9 g8) = some (.str (w ++ [32] ++ u), W ns k9 g8) := addD_ss (by simp; omega)
  have s9 : sSet 8 (dBin addD (dBin addD (dVar 3) (dC (.str [32]))) (dCall m_law_name_2 (dCons (dVar 0) (dCons (dVar 1) dNil)))) [some (.ref 0), some (.ref 1), a2, some (.str w), some (adD a), some (rusD R), some (.ref (n5 + 2)), b7, a8, a9, a10] (W ns k6 g8) = .nx [some (.ref 0), some (.ref 1), a2, some (.str w), some (adD a), some (rusD R), some (.ref (n5 + 2)), b7, some (.str (w ++ [32] ++ u)), a9, a10] (W ns k9 g8) := by
    simp [-List.append_assoc, t1, e9, t2]
  have hti : (w ++ [32] ++ u).all ascii = true := by
    rw [List.all_append, List.all_append, isNm_asc hw, isNm_asc hu]; rfl
  obtain ⟨m10, d10, j10, e10, p101, p102, p103, p104, p105⟩ := m_law_textsOf (ns := ns) (k := k9) (g := g8) (s := w ++ [32] ++ u) (by rw [List.length_append, List.length_append, List.length_singleton]; omega) hti (by omega)
  have i10 : iSeq (dCall m_law_texts (dCons (dVar 0) (dCons (dVar 1) (dCons (dVar 8) dNil)))) [some (.ref 0), some (.ref 1), a2, some (.str w), some (adD a), some (rusD R), some (.ref (n5 + 2)), b7, some (.str (w ++ [32] ++ u)), a9, a10] (W ns k9 g8) = .ok d10 (fun h' => h'[m10 + 2]? = some (.lst d10)) (W ns (k9 + 1) (g8 ++ j10)) := by
    have hik := iK_lst (n := m10 + 2) (ds := d10) (h := W ns (k9 + 1) (g8 ++ j10)) (by rw [W_get]; exact p102)
    simp [-W_app, -List.append_assoc, e10, hik]
  obtain ⟨c7', e11⟩ := k34_titles (gd := fun h' => h'[m10 + 2]? = some (.lst d10)) (h := W ns (k9 + 1) (g8 ++ j10)) (by rw [W_get]; exact p102) (a0 := some (.ref 0)) (a1 := some (.ref 1)) (a2 := a2) (a3 := some (.str w)) (a4 := some (adD a)) (a5 := some (rusD R)) (a6 := some (.ref (n5 + 2))) (a8 := some (.str (w ++ [32] ++ u))) (a9 := a9) (a10 := a10) d10 b7 (fun x hx => p105 x hx)
  refine ⟨k9 + 1, g8 ++ j10, some (.str w), some (adD a), some (rusD R), some (.ref (n5 + 2)), c7', some (.str (w ++ [32] ++ u)), some (.int 31), by omega, ?_⟩
  unfold b_law_k34_l4
  rw [sSeq_eq, s1, RS.bind_nx, sSeq_eq, s2, RS.bind_nx, sSeq_eq, s3, RS.bind_nx, sSeq_eq, sIf_eq, s4]
  simp only [RT.bindS_ok, Bool.false_eq_true, if_false, sNil_eq, RS.bind_nx]
  rw [sSeq_eq, sIf_eq, s5]
  simp only [RT.bindS_ok, Bool.false_eq_true, if_false, sNil_eq, RS.bind_nx]
  rw [sSeq_eq, sIf_eq, s6]
  simp only [RT.bindS_ok, Bool.false_eq_true, if_false, sNil_eq, RS.bind_nx]
  rw [sSeq_eq, s7, RS.bind_nx, sSeq_eq, sFor_eq, i8]
  dsimp only
  rw [e8, RS.bind_nx, sSeq_eq, s9, RS.bind_nx, sSeq_eq, sFor_eq, i10]
  dsimp only
  rw [e11, RS.bind_nx, sFor_eq]
  have i12 : ∀ σ (h : AH), iSeq (dTup (dCons (dC (.int 1)) (dCons (dC (.int 12)) (dCons (dC (.int 13)) (dCons (dC (.int 30)) (dCons (dC (.int 31)) dNil)))))) σ h = .ok [.int 1, .int 12, .int 13, .int 30, .int 31] (fun _ => True) h := fun _ _ => rfl
  rw [i12]
  exact k34_sizes
theorem law_k34_true (ns : List Int) : ∃ h', m_law_k34 [.ref 0] [.scr (ns.map .int)] = .ok (.bl true) h' := by
  have e20 : iRg1K [.int 4] (W ns 0 []) = .ok (iota 0 4) (fun _ => True) (W ns 0 []) := iRg1K_nat (n := 4) (by decide)
  have lp := forL_all (gd := fun _ => True) (g := gNm 2) (body := b_law_k34_l4) (items := iota 0 4) (σ := [some (.ref 0), some (.ref 1), none, none, none, none, none, none, none, none, none]) (h := W ns 0 [])
    (fun i σ h => ∃ k g a2 a3 a4 a5 a6 a7 a8 a9 a10, k ≤ 1000 * i ∧ i ≤ 4 ∧ σ = [some (.ref 0), some (.ref 1), a2, a3, a4, a5, a6, a7, a8, a9, a10] ∧ h = W ns k g) ⟨0, [], _, _, _, _, _, _, _, _, _, by omega, by omega, rfl, rfl⟩ (fun _ _ _ _ => trivial)
    (by
      rintro i σ h d hd ⟨k, g, a2, a3, a4, a5, a6, a7, a8, a9, a10, hk, hi, rfl, rfl⟩
      obtain ⟨rfl, hl⟩ := iota_get hd
      obtain ⟨k', g', b3, b4, b5, b6, b7, b8, b9, hk', e⟩ := body_k34 (ns := ns) (k := k) (g := g) (by omega) (a2 := some (.int (0 + (i : Int)))) (a3 := a3) (a4 := a4) (a5 := a5) (a6 := a6) (a7 := a7) (a8 := a8) (a9 := a9) (a10 := a10)
      exact ⟨_, _, _, rfl, .inl e, k', g', _, b3, b4, b5, b6, b7, b8, b9, a10, by omega, by omega, rfl, rfl⟩)
  obtain ⟨σ', h', el, k, g, a2, a3, a4, a5, a6, a7, a8, a9, a10, _, _, rfl, rfl⟩ := lp
  have key : runF 11 1 b_law_k34 [.ref 0] [.scr (ns.map .int)] = .ok (.bl true) (W ns k g) := by
    have w0 : ([.scr (ns.map .int)] : AH) ++ [.lst []] = W ns 0 [] := rfl
    rw [runF_at (σ := [some (.ref 0), none, none, none, none, none, none, none, none, none, none]) (by rfl) (by rfl), b_law_k34]
    simp [w0, e20, el]
  exact ⟨_, gc_ok (g := T0 k :: g) key rfl⟩
end DL


theorem PySem.Challenge.cw_pagenames_k34_whole_things_bent_holds : PySem.Challenge.rw_pagenames_k34_whole_things_bent.Holds :=
  DL.K34.law_ends fun ns _ => DL.law_k34_true ns
