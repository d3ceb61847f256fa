import PyProof.Rows.All
import Wide.All
import OpenK.AllK
import Wide.FinOn
import HandS.ForMost
import HandS.Deep
import HandS.Wide
import HandS.Conv
import HandS.Nested
import HandS.TupAny
import HandS.TupLe
import HandS.Flow
import HandS.IsInst
import HandS.NoneIn
import HandS.Rev
import HandS.RevRange
import HandS.Zip
import KE.GoesEnum
import HandS.Style
import KE.KDictPairs
import HandS.TupMul
import KE.DataFind
import PyProof.ReprRoads
import PyProof.ReprLen
import KE.DataEq
import PyProof.NeKinds
import HandS.EndTab
import HandS.Lambda
import KE.KIndexOf
import KE.KEqNest
import HandS.Steps
import HandS.Text
import KE.SortCalls
import KE.SortData
import KE.KSortTupAny
import PyProof.P3Eq
import PyProof.P3In
import PyProof.TupleOfSeq
import KE.GoesMore
import KE.GoesZip
import HandS.Finally
import PyProof.DictUpdate
import KE.KeyNested
import HandS.SetKeys
import KE.KDictZip
import HandS.Exc
import HandS.ExcOwn
import HandS.ExcInit
import HandS.TryOnly
import HandS.ClsMeth
import KE.KExcIs
import HandS.ExcField
import HandS.ExcIs
import KE.DatumIndex
import PySem.Challenge.RW_lawkinds_k73_texts_of_no_terms
set_option Elab.async false
set_option linter.all false
set_option maxRecDepth 100000
set_option maxHeartbeats 4000000
set_option maxHeartbeats 1000000
set_option pp.maxSteps 300
set_option pp.maxSteps 400
namespace DL
open PySem PySem.Spec PyProof.Rows L2

inductive D where
  | non | bl (b : Bool) | int (i : Int) | str (x : Str) | ty (n : String) | ref (a : Addr) | tup (ds : List D) | ilst (ds : List D) | fdic (ks : List Key) (ds : List D)
  deriving Inhabited
abbrev D.edic : D := .fdic [] []

structure FK where
  p : Addr → Heap → Prop
  c : Addr
  qual : Str
  cl : List (Str × Addr)
  at_ : ∀ a h, p a h → PySem.W.FnAt a h
abbrev FK.o (F : FK) (a : Addr) : HO := .ext (F.p a)
def FK.of (F : NdefX.NF) : FK := ⟨fun f h => ∃ (od : Option Addr) (sl : Array (Option Value)) (doc pm ctv : Value), h.get? f = some (⟨.type "function", od, .func (F.fd doc pm ctv), sl⟩ : Obj), F.c, F.qual, F.cl, fun a h ⟨od, sl, doc, pm, ctv, ho⟩ => ⟨_, od, _, sl, ho⟩⟩
structure GK where
  φ : Addr → List V → HO → Prop
  mv : ∀ a vs o, φ a vs o → (∃ C dx fs, o = .ins C dx fs) ∨ ((∃ ψ, o = .ext ψ) ∧ ∀ p q, o ≠ LamX.CodeO p q)
theorem GK.notTbl (G : GK) {a : Addr} {vs : List V} {o : HO} (h : G.φ a vs o) : ∀ ps, o ≠ .tbl ps := fun ps z => by
  subst z
  rcases G.mv _ _ _ h with ⟨_, _, _, e⟩ | ⟨⟨_, e⟩, _⟩ <;> cases e
theorem GK.notCode (G : GK) {a : Addr} {vs : List V} {o : HO} (h : G.φ a vs o) : ∀ p q, o ≠ LamX.CodeO p q := fun p q z => by
  rcases G.mv _ _ _ h with ⟨_, _, _, e⟩ | ⟨_, n⟩
  · rw [e] at z
    cases z
  · exact n p q z
inductive Cell where
  | lst (ds : List D)
  | dic (kvs : List (Key × D))
  | sat (p : List D → Prop)
  | fn (F : FK)
  | gen (G : GK) (ds : List D)

class Amb where
  tabs : List NdefX.NTab
  cls : Str → Addr
  wd : World → Prop
instance (priority := low) : Amb := ⟨[], fun _ => 0, fun _ => False⟩
abbrev SD := Addr → Option Cell
abbrev ED := List (Option D)
def put (S : SD) (a : Addr) (c : Cell) : SD := fun b => if b = a then some c else S b
theorem put_same {S : SD} {a : Addr} {c : Cell} : put S a c a = some c := if_pos rfl
theorem put_ne {S : SD} {a b : Addr} {c : Cell} (h : b ≠ a) : put S a c b = S b := if_neg h
section
variable (K : PySem.W.Frag)
def StL (H : Hp) (a : Addr) (vs : List V) : Prop := (∃ o, H a = some (.frz o (.lst vs))) ∨ SqL K (fun _ => none) a vs
def PlainO (o : Obj) : Prop := o.cls = .type "tuple" ∧ o.dict = none ∧ ∃ its n, o.data = .seq its n
def PlT (H : Hp) (a : Addr) (vs : List V) : Prop := (∃ o, PlainO o ∧ H a = some (.frz o (.tup vs))) ∨
  ∃ (o : Obj) (its : Array Value) (n : Nat), K.lookup a = some o ∧ o.cls = .type "tuple" ∧ o.dict = none ∧ o.data = .seq its n ∧ its.size ≤ sizeLine ∧ Vals vs its.toList
mutual
def Den (H : Hp) : D → V → Prop
  | .non, v => v = .non
  | .bl b, v => v = .bl b
  | .int i, v => v = .int i
  | .str x, v => v = .str x
  | .ty n, v => v = .ty n
  | .ref a, v => v = .ref a
  | .tup ds, v => ∃ a vs, v = .ref a ∧ PlT K H a vs ∧ DenL H ds vs
  | .ilst ds, v => ∃ a vs, v = .ref a ∧ StL K H a vs ∧ DenL H ds vs
  | .fdic ks ds, v => ∃ a o kv, v = .ref a ∧ H a = some (.frz o (.dK kv)) ∧ kv.map (·.1) = ks ∧ DenL H ds (kv.map (·.2))
def DenL (H : Hp) : List D → List V → Prop
  | [], vs => vs = []
  | d :: ds, vs => ∃ v r, vs = v :: r ∧ Den H d v ∧ DenL H ds r
end

def KVD (H : Hp) : List (Key × D) → List (Key × V) → Prop := Paired fun p q => p.1 = q.1 ∧ Den K H p.2 q.2
def CellOk (H : Hp) (a : Addr) : Cell → Prop
  | .lst ds => ∃ vs, H a = some (.lst vs) ∧ DenL K H ds vs
  | .dic kvs => ∃ kv, H a = some (.dK kv) ∧ KVD K H kvs kv
  | .sat p => ∃ ds vs, p ds ∧ H a = some (.lst vs) ∧ DenL K H ds vs
  | .fn F => H a = some (F.o a) ∧ H F.c = some (LamX.CodeO F.c F.qual)
  | .gen G ds => ∃ o vs, H a = some o ∧ G.φ a vs o ∧ DenL K H ds vs
structure RelS [Amb] (H : Hp) (S : SD) : Prop where
  cell : ∀ a c, S a = some c → CellOk K H a c
  tabs : NdefX.TabsN Amb.tabs H
def RelE (H : Hp) (σ : L2.St) (ε : ED) : Prop := σ.length = ε.length ∧ ∀ (i : Nat) (d : D), ε[i]? = some (some d) → ∃ v, σ[i]? = some (some v) ∧ Den K H d v
end
structure Frame (S : SD) (H : Hp) (S' : SD) (H' : Hp) : Prop where
  keep : ∀ a o, S a = none → H a = some o → (∀ ps, o ≠ .tbl ps) → H' a = some o ∧ S' a = none
  there : ∀ a, H' a = none → H a = none

section
variable [Amb] {K : PySem.W.Frag} {H H' H1 H2 : Hp} {S S' S1 S2 : SD}
theorem Frame.refl : Frame S H S H := ⟨fun _ _ h e _ => ⟨e, h⟩, fun _ h => h⟩
theorem Frame.trans (f : Frame S H S1 H1) (g : Frame S1 H1 S2 H2) : Frame S H S2 H2 := ⟨fun a o h e n =>
  let ⟨e1, h1⟩ := f.keep a o h e n
  g.keep a o h1 e1 n, fun a h => f.there a (g.there a h)⟩
theorem CellOk.at {a : Addr} {c : Cell} (h : CellOk K H a c) : ∃ o, H a = some o ∧ ((∃ xs, o = .lst xs) ∨ (∃ kv, o = .dK kv) ∨ (∃ ψ, o = .ext ψ) ∨ ∃ C dx fs, o = .ins C dx fs) := by
  cases c with
  | lst ds => obtain ⟨vs, e, _⟩ := h; exact ⟨_, e, .inl ⟨_, rfl⟩⟩
  | dic kvs => obtain ⟨kv, e, _⟩ := h; exact ⟨_, e, .inr (.inl ⟨_, rfl⟩)⟩
  | sat p => obtain ⟨_, vs, _, e, _⟩ := h; exact ⟨_, e, .inl ⟨_, rfl⟩⟩
  | fn F => exact ⟨_, h.1, .inr (.inr (.inl ⟨_, rfl⟩))⟩
  | gen G ds =>
    obtain ⟨o, vs, e, g, _⟩ := h
    rcases G.mv a vs o g with m | ⟨m, _⟩
    · exact ⟨_, e, .inr (.inr (.inr m))⟩
    · exact ⟨_, e, .inr (.inr (.inl m))⟩
theorem RelS.out {a : Addr} (r : RelS K H S) (h : ∀ o, H a = some o → (∀ xs, o ≠ .lst xs) ∧ (∀ kv, o ≠ .dK kv) ∧ (∀ ψ, o ≠ .ext ψ) ∧ ∀ C dx fs, o ≠ .ins C dx fs) : S a = none := by
  cases e : S a with
  | none => rfl
  | some c =>
    obtain ⟨o, e1, q⟩ := (r.cell a c e).at
    obtain ⟨n1, n2, n3, n4⟩ := h o e1
    rcases q with ⟨xs, q⟩ | ⟨kv, q⟩ | ⟨ψ, q⟩ | ⟨C, dx, fs, q⟩
    · exact absurd q (n1 xs)
    · exact absurd q (n2 kv)
    · exact absurd q (n3 ψ)
    · exact absurd q (n4 C dx fs)
theorem tabs_upd {p : Addr} {o : HO} (t : NdefX.TabsN Amb.tabs H) (hp : ∀ u, H p = some u → (∀ ps, u ≠ .tbl ps) ∧ ∀ q, u ≠ LamX.CodeO p q) : NdefX.TabsN Amb.tabs (upd H p o) := fun x hx => by
  obtain ⟨ps, h1, h2, h3⟩ := t x hx
  refine ⟨ps, ?_, h2, fun pos cv hc => ?_⟩
  · rw [upd_ne]
    · exact h1
    · rintro rfl
      exact (hp _ h1).1 _ rfl
  · obtain ⟨c, e1, e2⟩ := h3 pos cv hc
    refine ⟨c, e1, ?_⟩
    rw [upd_ne]
    · exact e2
    · rintro rfl
      exact (hp _ e2).2 _ rfl
theorem RelS.free {a : Addr} (r : RelS K H S) (h : H a = none) : S a = none := r.out fun o e => by rw [h] at e; cases e
theorem RelS.outFrz {a : Addr} {o : Obj} {u : HO} (r : RelS K H S) (h : H a = some (.frz o u)) : S a = none :=
  r.out fun o' e => by
    rw [h] at e
    cases e
    exact ⟨(fun _ z => nomatch z), (fun _ z => nomatch z), (fun _ z => nomatch z), fun _ _ _ z => nomatch z⟩
theorem plT_frame {a : Addr} {vs : List V} (r : RelS K H S) (f : Frame S H S' H') (h : PlT K H a vs) : PlT K H' a vs := by
  rcases h with ⟨o, p, h⟩ | h
  · exact .inl ⟨o, p, (f.keep a _ (r.outFrz h) h fun _ z => nomatch z).1⟩
  · exact .inr h
theorem PlT.sq {a : Addr} {vs : List V} (h : PlT K H a vs) : SqT K H a vs := by
  rcases h with ⟨o, _, h⟩ | ⟨o, its, n, h1, h2, _, h4, h5, h6⟩
  · exact .inl (.inr ⟨o, h⟩)
  · exact .inr ⟨o, its, n, h1, h2, h4, h5, h6⟩
theorem stL_frame {a : Addr} {vs : List V} (r : RelS K H S) (f : Frame S H S' H') (h : StL K H a vs) : StL K H' a vs := by
  rcases h with ⟨o, h⟩ | h
  · exact .inl ⟨o, (f.keep a _ (r.outFrz h) h fun _ z => nomatch z).1⟩
  · exact .inr h
theorem StL.sq {a : Addr} {vs : List V} (h : StL K H a vs) : SqL K H a vs := by
  rcases h with ⟨o, h⟩ | h
  · exact .inl (.inr ⟨o, h⟩)
  · rcases h with (h | ⟨o, h⟩) | h
    · cases h
    · cases h
    · exact .inr h
mutual
theorem Den.frame (r : RelS K H S) (f : Frame S H S' H') : ∀ (d : D) (v : V), Den K H d v → Den K H' d v
  | .non, _, h => h
  | .bl _, _, h => h
  | .int _, _, h => h
  | .str _, _, h => h
  | .ty _, _, h => h
  | .ref _, _, h => h
  | .tup ds, v, h => by
    obtain ⟨a, vs, e, h1, h2⟩ := (show ∃ a vs, v = .ref a ∧ PlT K H a vs ∧ DenL K H ds vs from h)
    exact (show ∃ a vs, v = .ref a ∧ PlT K H' a vs ∧ DenL K H' ds vs from ⟨a, vs, e, plT_frame r f h1, DenL.frame r f ds vs h2⟩)
  | .ilst ds, v, h => by
    obtain ⟨a, vs, e, h1, h2⟩ := (show ∃ a vs, v = .ref a ∧ StL K H a vs ∧ DenL K H ds vs from h)
    exact (show ∃ a vs, v = .ref a ∧ StL K H' a vs ∧ DenL K H' ds vs from ⟨a, vs, e, stL_frame r f h1, DenL.frame r f ds vs h2⟩)
  | .fdic ks ds, v, h => by
    obtain ⟨a, o, kv, e, h1, h2, h3⟩ := (show ∃ a o kv, v = .ref a ∧ H a = some (.frz o (.dK kv)) ∧ kv.map (·.1) = ks ∧ DenL K H ds (kv.map (·.2)) from h)
    exact (show ∃ a o kv, v = .ref a ∧ H' a = some (.frz o (.dK kv)) ∧ kv.map (·.1) = ks ∧ DenL K H' ds (kv.map (·.2)) from ⟨a, o, kv, e, (f.keep a _ (r.outFrz h1) h1 fun _ z => nomatch z).1, h2, DenL.frame r f ds _ h3⟩)
theorem DenL.frame (r : RelS K H S) (f : Frame S H S' H') : ∀ (ds : List D) (vs : List V), DenL K H ds vs → DenL K H' ds vs
  | [], _, h => h
  | d :: ds, vs, h => by
    obtain ⟨v, w, e, h1, h2⟩ := (show ∃ v r, vs = v :: r ∧ Den K H d v ∧ DenL K H ds r from h)
    exact (show ∃ v r, vs = v :: r ∧ Den K H' d v ∧ DenL K H' ds r from ⟨v, w, e, Den.frame r f d v h1, DenL.frame r f ds w h2⟩)
end
theorem DenL.length : ∀ {ds : List D} {vs : List V}, DenL K H ds vs → vs.length = ds.length
  | [], _, h => by
    cases (show _ = [] from h)
    rfl
  | d :: ds, vs, h => by
    obtain ⟨v, w, rfl, h1, h2⟩ := (show ∃ v r, vs = v :: r ∧ Den K H d v ∧ DenL K H ds r from h)
    rw [List.length_cons, List.length_cons, DenL.length h2]
theorem DenL.get : ∀ {ds : List D} {vs : List V} {i : Nat} {d : D}, DenL K H ds vs → ds[i]? = some d → ∃ v, vs[i]? = some v ∧ Den K H d v
  | [], _, _, _, _, e => by simp at e
  | d :: ds, vs, i, x, h, e => by
    obtain ⟨v, w, rfl, h1, h2⟩ := (show ∃ v r, vs = v :: r ∧ Den K H d v ∧ DenL K H ds r from h)
    cases i with
    | zero =>
      have e' : d = x := by simpa using e
      subst e'
      exact ⟨v, rfl, h1⟩
    | succ i =>
      obtain ⟨u, e1, e2⟩ := DenL.get (i := i) (d := x) h2 (by simpa using e)
      exact ⟨u, by simpa using e1, e2⟩
theorem DenL.app : ∀ {ds es : List D} {vs us : List V}, DenL K H ds vs → DenL K H es us → DenL K H (ds ++ es) (vs ++ us)
  | [], _, vs, _, h, g => by
    cases (show vs = [] from h)
    exact g
  | d :: ds, es, vs, us, h, g => by
    obtain ⟨v, w, rfl, h1, h2⟩ := (show ∃ v r, vs = v :: r ∧ Den K H d v ∧ DenL K H ds r from h)
    exact (show ∃ v' r, _ = v' :: r ∧ Den K H d v' ∧ DenL K H (ds ++ es) r from ⟨v, w ++ us, rfl, h1, DenL.app h2 g⟩)
theorem DenL.nil : DenL K H [] [] := (rfl : ([] : List V) = [])
theorem DenL.cons {d : D} {ds : List D} {v : V} {vs : List V} (h : Den K H d v) (g : DenL K H ds vs) : DenL K H (d :: ds) (v :: vs) :=
  (show ∃ v' r, v :: vs = v' :: r ∧ Den K H d v' ∧ DenL K H ds r from ⟨v, vs, rfl, h, g⟩)
theorem DenL.one {d : D} {v : V} (h : Den K H d v) : DenL K H [d] [v] := DenL.cons h DenL.nil
theorem DenL.uncons {d : D} {ds : List D} {vs : List V} (h : DenL K H (d :: ds) vs) : ∃ v r, vs = v :: r ∧ Den K H d v ∧ DenL K H ds r := h
theorem DenL.nil_eq {vs : List V} (h : DenL K H [] vs) : vs = [] := h
theorem DenL.take : ∀ {ds : List D} {vs : List V} (n : Nat), DenL K H ds vs → DenL K H (ds.take n) (vs.take n)
  | [], vs, n, h => by
    cases (show vs = [] from h)
    rw [List.take_nil, List.take_nil]
    exact DenL.nil
  | d :: ds, vs, 0, h => DenL.nil
  | d :: ds, vs, n + 1, h => by
    obtain ⟨v, w, rfl, h1, h2⟩ := h.uncons
    exact DenL.cons h1 (DenL.take n h2)
theorem DenL.drop : ∀ {ds : List D} {vs : List V} (n : Nat), DenL K H ds vs → DenL K H (ds.drop n) (vs.drop n)
  | [], vs, n, h => by
    cases (show vs = [] from h)
    rw [List.drop_nil, List.drop_nil]
    exact DenL.nil
  | d :: ds, vs, 0, h => h
  | d :: ds, vs, n + 1, h => by
    obtain ⟨v, w, rfl, h1, h2⟩ := h.uncons
    exact DenL.drop n h2
theorem DenL.rev : ∀ {ds : List D} {vs : List V}, DenL K H ds vs → DenL K H ds.reverse vs.reverse
  | [], vs, h => by
    cases (show vs = [] from h)
    exact DenL.nil
  | d :: ds, vs, h => by
    obtain ⟨v, w, rfl, h1, h2⟩ := h.uncons
    rw [List.reverse_cons, List.reverse_cons]
    exact (DenL.rev h2).app (DenL.one h1)
theorem DenL.set : ∀ {ds : List D} {vs : List V} (i : Nat) {d : D} {v : V}, DenL K H ds vs → Den K H d v → DenL K H (ds.set i d) (vs.set i v)
  | [], vs, i, d, v, h, g => by
    cases (show vs = [] from h)
    exact DenL.nil
  | x :: ds, vs, 0, d, v, h, g => by
    obtain ⟨u, w, rfl, h1, h2⟩ := h.uncons
    exact DenL.cons g h2
  | x :: ds, vs, i + 1, d, v, h, g => by
    obtain ⟨u, w, rfl, h1, h2⟩ := h.uncons
    exact DenL.cons h1 (DenL.set i h2 g)
theorem denL_rep (n : Nat) {ds : List D} {vs : List V} (h : DenL K H ds vs) : DenL K H (List.replicate n ds).flatten (List.replicate n vs).flatten := by
  induction n with
  | zero => exact DenL.nil
  | succ n ih =>
    rw [List.replicate_succ, List.replicate_succ, List.flatten_cons, List.flatten_cons]
    exact h.app ih
theorem denL_ints : ∀ ns : List Int, DenL K H (ns.map D.int) (ns.map V.int)
  | [] => DenL.nil
  | _ :: r => DenL.cons rfl (denL_ints r)
theorem denL_bools' : ∀ {bs : List Bool} {vs : List V}, DenL K H (bs.map D.bl) vs → vs = bs.map V.bl
  | [], _, h => h
  | n :: r, vs, h => by
    obtain ⟨v, w, rfl, h1, h2⟩ := h.uncons
    cases (show v = .bl n from h1)
    rw [denL_bools' h2]
    rfl
theorem denL_strs' : ∀ {bs : List Str} {vs : List V}, DenL K H (bs.map D.str) vs → vs = bs.map V.str
  | [], _, h => h
  | n :: r, vs, h => by
    obtain ⟨v, w, rfl, h1, h2⟩ := h.uncons
    cases (show v = .str n from h1)
    rw [denL_strs' h2]
    rfl
theorem KVD.frame (r : RelS K H S) (f : Frame S H S' H') : ∀ {ds : List (Key × D)} {vs : List (Key × V)}, KVD K H ds vs → KVD K H' ds vs
  | _, _, .nil => .nil
  | _, _, .cons h t => .cons ⟨h.1, Den.frame r f _ _ h.2⟩ (KVD.frame r f t)
theorem RelE.frame {σ : L2.St} {ε : ED} (e : RelE K H σ ε) (r : RelS K H S) (f : Frame S H S' H') : RelE K H' σ ε :=
  ⟨e.1, fun i d h => let ⟨v, e1, e2⟩ := e.2 i d h; ⟨v, e1, e2.frame r f⟩⟩
theorem RelE.set {σ : L2.St} {ε : ED} (e : RelE K H σ ε) (i : Nat) {d : D} {v : V} (h : Den K H d v) : RelE K H (σ.set i (some v)) (ε.set i (some d)) := by
  refine ⟨by rw [List.length_set, List.length_set]; exact e.1, fun j x hj => ?_⟩
  by_cases hij : i = j
  · subst hij
    have hi : i < ε.length := by
      have h2 : (ε.set i (some d)).length = ε.length := List.length_set
      obtain ⟨q, _⟩ := List.getElem?_eq_some_iff.mp hj
      omega
    rw [List.getElem?_set_self hi] at hj
    cases hj
    have hσ : i < σ.length := by rw [e.1]; exact hi
    exact ⟨v, List.getElem?_set_self hσ, h⟩
  · rw [List.getElem?_set_ne hij] at hj
    obtain ⟨u, e1, e2⟩ := e.2 j x hj
    exact ⟨u, by rw [List.getElem?_set_ne hij]; exact e1, e2⟩
theorem upd_there {p a : Addr} {o : HO} (h : upd H p o a = none) : H a = none := by
  unfold upd at h
  split at h
  · cases h
  · exact h
theorem frame_new {p : Addr} {o : HO} (hp : H p = none) : Frame S H S (upd H p o) := ⟨fun a u h e _ =>
  ⟨by rw [upd_ne (ne_of_none e hp)]; exact e, h⟩, fun a h => upd_there h⟩
theorem frame_add {p : Addr} {o : HO} {c : Cell} (hp : H p = none) : Frame S H (put S p c) (upd H p o) := ⟨fun a u h e _ =>
  ⟨by rw [upd_ne (ne_of_none e hp)]; exact e, by rw [put_ne (ne_of_none e hp)]; exact h⟩, fun a h => upd_there h⟩
theorem frame_put {p : Addr} {o : HO} {c c' : Cell} (hp : S p = some c) : Frame S H (put S p c') (upd H p o) := ⟨fun a u h e _ => by
  have ne : a ≠ p := by
    rintro rfl
    rw [hp] at h
    cases h
  exact ⟨by rw [upd_ne ne]; exact e, by rw [put_ne ne]; exact h⟩, fun a h => upd_there h⟩
theorem RelS.frame_new {p : Addr} {o : HO} (r : RelS K H S) (hp : H p = none) : RelS K (upd H p o) S := by
  refine ⟨fun a c e => ?_, tabs_upd r.tabs fun u hu => by rw [hp] at hu; cases hu⟩
  have f : Frame S H S (upd H p o) := DL.frame_new hp
  have ne : a ≠ p := by
    rintro rfl
    obtain ⟨u, e1, _⟩ := (r.cell a c e).at
    rw [hp] at e1
    cases e1
  have h := r.cell a c e
  cases c with
  | lst ds => obtain ⟨vs, e1, e2⟩ := h; exact ⟨vs, by rw [upd_ne ne]; exact e1, DenL.frame r f ds vs e2⟩
  | dic kvs => obtain ⟨kv, e1, e2⟩ := h; exact ⟨kv, by rw [upd_ne ne]; exact e1, KVD.frame r f e2⟩
  | sat p => obtain ⟨ds, vs, q, e1, e2⟩ := h; exact ⟨ds, vs, q, by rw [upd_ne ne]; exact e1, DenL.frame r f ds vs e2⟩
  | fn F =>
    obtain ⟨e1, e2⟩ := h
    refine ⟨(upd_ne ne).trans e1, (upd_ne fun z => ?_).trans e2⟩
    rw [z, hp] at e2
    cases e2
  | gen G ds => obtain ⟨o, vs, e1, g, e2⟩ := h; exact ⟨o, vs, by rw [upd_ne ne]; exact e1, g, DenL.frame r f ds vs e2⟩
theorem RelS.add {p : Addr} {o : HO} {c : Cell} (r : RelS K H S) (hp : H p = none) (h : CellOk K (upd H p o) p c) : RelS K (upd H p o) (put S p c) := by
  refine ⟨fun a x e => ?_, (r.frame_new hp).tabs⟩
  by_cases ha : a = p
  · subst ha
    rw [put_same] at e
    cases e
    exact h
  · rw [put_ne ha] at e
    exact (r.frame_new hp).cell a x e
theorem RelS.put {p : Addr} {o : HO} {c c' : Cell} (r : RelS K H S) (hp : S p = some c) (hc : ∀ F, c ≠ .fn F) (h : CellOk K (upd H p o) p c') : RelS K (upd H p o) (put S p c') := by
  refine ⟨fun a x e => ?_, tabs_upd r.tabs fun u hu => ?_⟩
  · by_cases ha : a = p
    · subst ha
      rw [put_same] at e
      cases e
      exact h
    · rw [put_ne ha] at e
      have f : Frame S H (DL.put S p c') (upd H p o) := frame_put hp
      have g := r.cell a x e
      cases x with
      | lst ds => obtain ⟨vs, e1, e2⟩ := g; exact ⟨vs, by rw [upd_ne ha]; exact e1, DenL.frame r f ds vs e2⟩
      | dic kvs => obtain ⟨kv, e1, e2⟩ := g; exact ⟨kv, by rw [upd_ne ha]; exact e1, KVD.frame r f e2⟩
      | sat p => obtain ⟨ds, vs, q, e1, e2⟩ := g; exact ⟨ds, vs, q, by rw [upd_ne ha]; exact e1, DenL.frame r f ds vs e2⟩
      | fn F =>
        obtain ⟨e1, e2⟩ := g
        refine ⟨(upd_ne ha).trans e1, (upd_ne fun z => ?_).trans e2⟩
        rw [z] at e2
        have g2 := r.cell p c hp
        cases c with
        | lst ds => obtain ⟨vs, y, _⟩ := g2; rw [y] at e2; cases e2
        | dic kvs => obtain ⟨kv, y, _⟩ := g2; rw [y] at e2; cases e2
        | sat p => obtain ⟨ds, vs, _, y, _⟩ := g2; rw [y] at e2; cases e2
        | fn F => exact hc F rfl
        | gen G ds =>
          obtain ⟨o, vs, y, g3, _⟩ := g2
          rw [y] at e2
          cases e2
          exact G.notCode g3 _ _ rfl
      | gen G ds => obtain ⟨o, vs, e1, g, e2⟩ := g; exact ⟨o, vs, by rw [upd_ne ha]; exact e1, g, DenL.frame r f ds vs e2⟩
  · have g := r.cell p c hp
    cases c with
    | lst ds => obtain ⟨vs, e1, e2⟩ := g; rw [e1] at hu; cases hu; exact ⟨(fun _ z => nomatch z), fun _ z => nomatch z⟩
    | dic kvs => obtain ⟨kv, e1, e2⟩ := g; rw [e1] at hu; cases hu; exact ⟨(fun _ z => nomatch z), fun _ z => nomatch z⟩
    | sat p => obtain ⟨ds, vs, q, e1, e2⟩ := g; rw [e1] at hu; cases hu; exact ⟨(fun _ z => nomatch z), fun _ z => nomatch z⟩
    | fn F => exact (hc F rfl).elim
    | gen G ds =>
      obtain ⟨o, vs, e1, g3, e2⟩ := g
      rw [e1] at hu
      cases hu
      exact ⟨G.notTbl g3, fun q => G.notCode g3 _ q⟩
def Cell.le : Cell → Cell → Prop
  | .sat p, .lst ds => p ds
  | .sat p, .sat q => ∀ ds, q ds → p ds
  | c, c' => c = c'
theorem CellOk.le {a : Addr} {c c' : Cell} (h : CellOk K H a c') (l : Cell.le c c') : CellOk K H a c := by
  cases c with
  | lst ds => cases (show Cell.lst ds = c' from l); exact h
  | dic kvs => cases (show Cell.dic kvs = c' from l); exact h
  | sat p =>
    cases c' with
    | lst ds => obtain ⟨vs, e1, e2⟩ := h; exact ⟨ds, vs, l, e1, e2⟩
    | dic kvs => cases (show Cell.sat p = Cell.dic kvs from l)
    | sat q => obtain ⟨ds, vs, e0, e1, e2⟩ := h; exact ⟨ds, vs, l ds e0, e1, e2⟩
    | fn F => cases (show Cell.sat p = Cell.fn F from l)
    | gen G ds => cases (show Cell.sat p = Cell.gen G ds from l)
  | fn F => cases (show Cell.fn F = c' from l); exact h
  | gen G ds => cases (show Cell.gen G ds = c' from l); exact h
def Sub (T S : SD) : Prop := ∀ a c, T a = some c → ∃ c', S a = some c' ∧ Cell.le c c'
theorem Cell.le_refl (c : Cell) : Cell.le c c := by
  cases c with
  | lst ds => exact rfl
  | dic kvs => exact rfl
  | sat p => exact fun _ h => h
  | fn F => exact rfl
  | gen G ds => exact rfl
theorem Sub.refl : Sub S S := fun _ c h => ⟨c, h, Cell.le_refl c⟩
theorem RelS.sub (r : RelS K H S) (h : Sub S' S) : RelS K H S' := ⟨fun a c e => by
  obtain ⟨c', e1, l⟩ := h a c e
  exact (r.cell a c' e1).le l, r.tabs⟩
theorem Frame.sub (f : Frame S H S1 H1) (h : Sub S2 S1) : Frame S H S2 H1 := by
  refine ⟨fun a o e1 e2 n => ?_, f.there⟩
  obtain ⟨q1, q2⟩ := f.keep a o e1 e2 n
  refine ⟨q1, ?_⟩
  cases e : S2 a with
  | none => rfl
  | some c =>
    obtain ⟨c', z, _⟩ := h a c e
    rw [q2] at z
    cases z
end
end DL

namespace DL
open PySem PySem.Spec PyProof.Rows L2
variable [Amb]

abbrev DK := D → SD → Prop
abbrev DTE := ED → SD → DK → Prop
abbrev DTT := ED → SD → (Bool → SD → Prop) → Prop
abbrev DTA := ED → SD → (List D → SD → Prop) → Prop
abbrev R2D := D → D → SD → DK → Prop
abbrev RAD := List D → SD → DK → Prop
structure DEnds where
  nx : ED → SD → Prop
  rt : DK
  bk : ED → SD → Prop := fun _ _ => False
  ct : ED → SD → Prop := fun _ _ => False
abbrev DTS := DEnds → ED → SD → Prop
abbrev DTG := D → ED → SD → (ED → SD → Prop) → Prop
abbrev DTGs := List D → ED → SD → (ED → SD → Prop) → Prop

section
variable (K : PySem.W.Frag)
def WkE (S : SD) (H : Hp) (Q0 : DK) (Q : VK) : Prop := ∀ d S' v H', Q0 d S' → Den K H' d v → RelS K H' S' → Frame S H S' H' → Q v H'
def WkT (S : SD) (H : Hp) (Q0 : Bool → SD → Prop) (Q : Bool → Hp → Prop) : Prop := ∀ b S' H', Q0 b S' → RelS K H' S' → Frame S H S' H' → Q b H'
def WkA (S : SD) (H : Hp) (Q0 : List D → SD → Prop) (Q : List V → Hp → Prop) : Prop := ∀ ds S' vs H', Q0 ds S' → DenL K H' ds vs → RelS K H' S' → Frame S H S' H' → Q vs H'
def WkN (S : SD) (H : Hp) (Q0 : ED → SD → Prop) (Q : L2.St → Hp → Prop) : Prop := ∀ ε' S' σ' H', Q0 ε' S' → RelE K H' σ' ε' → RelS K H' S' → Frame S H S' H' → Q σ' H'
structure WkD (S : SD) (H : Hp) (D0 : DEnds) (D : Ends) : Prop where
  nx : WkN K S H D0.nx D.nx
  rt : WkE K S H D0.rt D.rt
  bk : WkN K S H D0.bk D.bk
  ct : WkN K S H D0.ct D.ct
def liftE (t : DTE) : TE := fun σ H Q => ∃ ε S Q0, RelE K H σ ε ∧ RelS K H S ∧ t ε S Q0 ∧ WkE K S H Q0 Q
def liftT (t : DTT) : TT := fun σ H Q => ∃ ε S Q0, RelE K H σ ε ∧ RelS K H S ∧ t ε S Q0 ∧ WkT K S H Q0 Q
def liftA (t : DTA) : TA := fun σ H Q => ∃ ε S Q0, RelE K H σ ε ∧ RelS K H S ∧ t ε S Q0 ∧ WkA K S H Q0 Q
def lift2 (r : R2D) : R2 := fun x y H Q => ∃ d e S Q0, Den K H d x ∧ Den K H e y ∧ RelS K H S ∧ r d e S Q0 ∧ WkE K S H Q0 Q
def liftC (r : RAD) : List V → Hp → VK → Prop := fun xs H Q => ∃ ds S Q0, DenL K H ds xs ∧ RelS K H S ∧ r ds S Q0 ∧ WkE K S H Q0 Q
def liftS (t : DTS) : TS := fun D σ H => ∃ ε S D0, RelE K H σ ε ∧ RelS K H S ∧ t D0 ε S ∧ WkD K S H D0 D
def liftG (vs : List Nat) (t : DTG) : TG := fun v σ H Q => ∃ d ε S Q0, Den K H d v ∧ RelE K H σ ε ∧ RelS K H S ∧ t d ε S Q0 ∧
  ∀ ε' S' σ' H', Q0 ε' S' → RelE K H' σ' ε' → RelS K H' S' → Frame S H S' H' → wipe σ' vs = wipe σ vs → Q σ' H'
def liftGs (vs : List Nat) (t : DTGs) : TGs := fun xs σ H Q => ∃ ds ε S Q0, DenL K H ds xs ∧ RelE K H σ ε ∧ RelS K H S ∧ t ds ε S Q0 ∧
  ∀ ε' S' σ' H', Q0 ε' S' → RelE K H' σ' ε' → RelS K H' S' → Frame S H S' H' → wipe σ' vs = wipe σ vs → Q σ' H'
end

section
variable {K : PySem.W.Frag} {S S1 S2 : SD} {H H1 : Hp}
theorem WkE.frame {Q0 : DK} {Q : VK} (k : WkE K S H Q0 Q) (f : Frame S H S1 H1) : WkE K S1 H1 Q0 Q := fun d S' v H' a b c g => k d S' v H' a b c (f.trans g)
theorem WkT.frame {Q0 : Bool → SD → Prop} {Q : Bool → Hp → Prop} (k : WkT K S H Q0 Q) (f : Frame S H S1 H1) : WkT K S1 H1 Q0 Q := fun d S' H' a c g => k d S' H' a c (f.trans g)
theorem WkA.frame {Q0 : List D → SD → Prop} {Q : List V → Hp → Prop} (k : WkA K S H Q0 Q) (f : Frame S H S1 H1) : WkA K S1 H1 Q0 Q := fun d S' v H' a b c g => k d S' v H' a b c (f.trans g)
theorem WkN.frame {Q0 : ED → SD → Prop} {Q : L2.St → Hp → Prop} (k : WkN K S H Q0 Q) (f : Frame S H S1 H1) : WkN K S1 H1 Q0 Q := fun d S' v H' a b c g => k d S' v H' a b c (f.trans g)
theorem WkD.frame {D0 : DEnds} {D : Ends} (k : WkD K S H D0 D) (f : Frame S H S1 H1) : WkD K S1 H1 D0 D := ⟨k.nx.frame f, k.rt.frame f, k.bk.frame f, k.ct.frame f⟩
end

abbrev DE (X : Cx) (e : Expr) (t : DTE) : Prop := PE X e (liftE X.K t)
abbrev DT (X : Cx) (e : Expr) (t : DTT) : Prop := PT X e (liftT X.K t)
abbrev DA (X : Cx) (es : List Expr) (t : DTA) : Prop := PA X es (liftA X.K t)
abbrev DS (X : Cx) (st : Stmt) (t : DTS) : Prop := PS X st (liftS X.K t)
abbrev DSs (X : Cx) (st : List Stmt) (t : DTS) : Prop := PSs X st (liftS X.K t)
abbrev DG (X : Cx) (tg : Expr) (vs : List Nat) (t : DTG) : Prop := PG X tg (liftG X.K vs t)
abbrev DGs (X : Cx) (tg : List Expr) (vs : List Nat) (t : DTGs) : Prop := PGs X tg (liftGs X.K vs t)
abbrev DOp (X : Cx) (f : Value → Value → Sem Value) (r : R2D) : Prop := OpR X f (lift2 X.K r)
abbrev DIx (X : Cx) (r : R2D) : Prop := IxR X (lift2 X.K r)
abbrev DCall (X : Cx) (f : Value) (r : RAD) : Prop := CallR X f (liftC X.K r)

section
variable {X : Cx}
theorem PE_imp {e : Expr} {t t' : TE} (h : PE X e t) (i : ∀ σ H Q, t' σ H Q → t σ H Q) : PE X e t' := ⟨fun pins s σ H Q I q => h.run pins s σ H Q I (i σ H Q q)⟩
theorem PT_imp {e : Expr} {t t' : TT} (h : PT X e t) (i : ∀ σ H Q, t' σ H Q → t σ H Q) : PT X e t' := ⟨fun pins s σ H Q I q => h.run pins s σ H Q I (i σ H Q q)⟩
theorem PA_imp {e : List Expr} {t t' : TA} (h : PA X e t) (i : ∀ σ H Q, t' σ H Q → t σ H Q) : PA X e t' := ⟨fun pos pins s σ H Q I q => h.run pos pins s σ H Q I (i σ H Q q)⟩
theorem PS_imp {e : Stmt} {t t' : TS} (h : PS X e t) (i : ∀ D σ H, t' D σ H → t D σ H) : PS X e t' := ⟨fun pins s σ H D I q => h.run pins s σ H D I (i D σ H q)⟩
theorem PSs_imp {e : List Stmt} {t t' : TS} (h : PSs X e t) (i : ∀ D σ H, t' D σ H → t D σ H) : PSs X e t' := ⟨fun pins s σ H D I q => h.run pins s σ H D I (i D σ H q)⟩
theorem PG_imp {e : Expr} {t t' : TG} (h : PG X e t) (i : ∀ v σ H Q, t' v σ H Q → t v σ H Q) : PG X e t' := ⟨fun pins s σ H v u Q I r q => h.run pins s σ H v u Q I r (i v σ H Q q)⟩
theorem PGs_imp {e : List Expr} {t t' : TGs} (h : PGs X e t) (i : ∀ v σ H Q, t' v σ H Q → t v σ H Q) : PGs X e t' := ⟨fun pins s σ H v u Q I r q => h.run pins s σ H v u Q I r (i v σ H Q q)⟩
theorem OpR_imp {f : Value → Value → Sem Value} {r r' : R2} (h : OpR X f r) (i : ∀ x y H Q, r' x y H Q → r x y H Q) : OpR X f r' := fun pins s σ H x y v u Q I rx ry q => h pins s σ H x y v u Q I rx ry (i x y H Q q)
theorem IxR_imp {r r' : R2} (h : IxR X r) (i : ∀ x y H Q, r' x y H Q → r x y H Q) : IxR X r' := fun ve se pins s σ H x y v u Q I rx ry q => h ve se pins s σ H x y v u Q I rx ry (i x y H Q q)
theorem CallR_imp {f : Value} {r r' : List V → Hp → VK → Prop} (h : CallR X f r) (i : ∀ xs H Q, r' xs H Q → r xs H Q) : CallR X f r' := fun pins s σ H xs us Q I r q => h pins s σ H xs us Q I r (i xs H Q q)
theorem MtR_imp {id : String} {r r' : V → List V → Hp → VK → Prop} (h : MtR X id r) (i : ∀ x xs H Q, r' x xs H Q → r x xs H Q) : MtR X id r' := fun pins s σ H x xs v us Q I rx r q => h pins s σ H x xs v us Q I rx r (i x xs H Q q)

def dVar (i : Nat) : DTE := fun ε S Q => ∃ d, ε[i]? = some (some d) ∧ Q d S
def dC (d : D) : DTE := fun _ S Q => Q d S
variable {a b c e : Expr} {es : List Expr} {ta tb tc : DTE} {pos : Pos}
theorem de_var (i : Nat) {x : Str} {pos : Pos} (hN : X.N[i]? = some x := by rfl) (hv : Vis X.env.scope x := by first | exact Or.inl rfl | exact Or.inr (Or.inl rfl) | exact Or.inr (Or.inr rfl)) (hd : (x == ("__debug__" : Str)) = false := by decide)
    (hcd : (x == ("__classdict__" : Str)) = false := by decide) : DE X (.Name x pos) (dVar i) :=
  PE_imp (pe_var hN hv hd hcd) fun σ H Q ⟨ε, S, Q0, rE, rS, ⟨d, e1, q⟩, k⟩ => by
    obtain ⟨v, e2, den⟩ := rE.2 i d e1
    exact ⟨v, e2, k d S v H q den rS Frame.refl⟩
theorem de_con {d : D} {v : V} (h : PE X e (tC v)) (hd : ∀ K H, Den K H d v) : DE X e (dC d) :=
  PE_imp h fun σ H Q ⟨ε, S, Q0, rE, rS, q, k⟩ => k d S v H q (hd _ _) rS Frame.refl
theorem de_int {i j pos} : DE X (.Constant (.int i) j pos) (dC (.int i)) := de_con pe_int fun _ _ => rfl
theorem de_bl {b j pos} : DE X (.Constant (.bool b) j pos) (dC (.bl b)) := de_con pe_bl fun _ _ => rfl
theorem de_non {j pos} : DE X (.Constant .none j pos) (dC .non) := de_con pe_non fun _ _ => rfl
theorem de_str {x j pos} : DE X (.Constant (.str x) j pos) (dC (.str x)) := de_con pe_str fun _ _ => rfl
theorem de_gstr {x : Str} {z : Str} {t : Tok} {pos : Pos} (hg : Gl X x) (hm : X.mg x = some (.str z t)) (hd : (x == ("__debug__" : Str)) = false := by decide) : DE X (.Name x pos) (dC (.str z)) := de_con (pe_glob (v := .str z) hg hm ⟨t, rfl⟩ hd) fun _ _ => rfl
theorem de_gint {x : Str} {z : Int} {t : Tok} {pos : Pos} (hg : Gl X x) (hm : X.mg x = some (.int z t)) (hd : (x == ("__debug__" : Str)) = false := by decide) : DE X (.Name x pos) (dC (.int z)) := de_con (pe_glob (v := .int z) hg hm ⟨t, rfl⟩ hd) fun _ _ => rfl
theorem de_gtype {x : Str} {T : String} {pos : Pos} (hg : Gl X x) (hm : X.mg x = none) (hv : bootBuiltins x = some (.type T)) (hn : x ≠ "__name__" := by decide) (hd : (x == ("__debug__" : Str)) = false := by decide) : DE X (.Name x pos) (dC (.ty T)) := de_con (pe_bltn (v := .ty T) hg hm hv rfl hn hd) fun _ _ => rfl

def dOp (r : R2D) (ta tb : DTE) : DTE := fun ε S Q => ta ε S fun x S1 => tb ε S1 fun y S2 => r x y S2 Q
theorem dOp_lift {K : PySem.W.Frag} {r : R2D} {σ : L2.St} {H : Hp} {Q : VK} (h : liftE K (dOp r ta tb) σ H Q) : tOp (lift2 K r) (liftE K ta) (liftE K tb) σ H Q := by
  obtain ⟨ε, S, Q0, rE, rS, q, k⟩ := h
  exact ⟨ε, S, _, rE, rS, q, fun d S1 v H1 q1 den1 rS1 f1 => ⟨ε, S1, _, rE.frame rS f1, rS1, q1, fun e S2 u H2 q2 den2 rS2 f2 =>
    ⟨d, e, S2, Q0, den1.frame rS1 f2, den2, rS2, q2, k.frame (f1.trans f2)⟩⟩⟩
theorem de_op {op : Operator} {r : R2D} (ho : DOp X (binaryOp op) r) (ha : DE X a ta) (hb : DE X b tb) : DE X (.BinOp a op b pos) (dOp r ta tb) :=
  PE_imp (pe_op ho ha hb) fun _ _ _ => dOp_lift
theorem de_cmp {op : CmpOp} {r : R2D} (ho : DOp X (compareOp op) r) (ha : DE X a ta) (hb : DE X b tb) (hm : behindInMarks op b = false := by first | exact nomark _ | with_unfolding_all rfl) : DE X (.Compare a [op] [b] pos) (dOp r ta tb) :=
  PE_imp (pe_cmpR ho ha hb hm) fun _ _ _ => dOp_lift
def dB (t : DTE) : DTT := fun ε S Q => t ε S fun x S1 => ∃ c, x = .bl c ∧ Q c S1
theorem dB_lift {K : PySem.W.Frag} {t : DTE} {t' : TE} (i : ∀ σ H Q, liftE K t σ H Q → t' σ H Q) : ∀ σ H Q, liftT K (dB t) σ H Q → t' σ H (fun x H1 => ∃ c, x = .bl c ∧ Q c H1) := by
  intro σ H Q ⟨ε, S, Q0, rE, rS, q, k⟩
  refine i σ H _ ⟨ε, S, _, rE, rS, q, fun d S1 v H1 q1 den rS1 f1 => ?_⟩
  obtain ⟨b, rfl, q2⟩ := q1
  exact ⟨b, den, k b S1 H1 q2 rS1 f1⟩
theorem dt_cmp {op : CmpOp} {r : R2D} (ho : DOp X (compareOp op) r) (ha : DE X a ta) (hb : DE X b tb) (hm : behindInMarks op b = false := by first | exact nomark _ | with_unfolding_all rfl) : DT X (.Compare a [op] [b] pos) (dB (dOp r ta tb)) :=
  PT_imp (pt_cmpR ho ha hb hm) (dB_lift fun _ _ _ => dOp_lift)
theorem dt_val {t : DTE} (h : DE X e t) (he : ∀ whole, isTrue e X.env whole = (do let v ← whole; standAt e.pos; holding [v] (truthy v)) := by intro _; rfl) : DT X e (dB t) :=
  PT_imp (pt_val h he) (dB_lift fun _ _ _ q => q)
def dChain (r r' : R2D) (ta tb tc : DTE) : DTE := fun ε S Q => ta ε S fun x S1 => tb ε S1 fun y S2 => r x y S2 fun z S3 => ∃ k, z = .bl k ∧ if k = true then tc ε S3 (fun w S4 => r' y w S4 Q) else Q (.bl false) S3
theorem dChain_lift {K : PySem.W.Frag} {r r' : R2D} {σ : L2.St} {H : Hp} {Q : VK} (h : liftE K (dChain r r' ta tb tc) σ H Q) : tChain (lift2 K r) (lift2 K r') (liftE K ta) (liftE K tb) (liftE K tc) σ H Q := by
  obtain ⟨ε, S, Q0, rE, rS, q, k⟩ := h
  refine ⟨ε, S, _, rE, rS, q, fun d S1 v H1 q1 den1 rS1 f1 => ⟨ε, S1, _, rE.frame rS f1, rS1, q1, fun e S2 u H2 q2 den2 rS2 f2 =>
    ⟨d, e, S2, _, den1.frame rS1 f2, den2, rS2, q2, fun z S3 w H3 q3 den3 rS3 f3 => ?_⟩⟩⟩
  obtain ⟨b, rfl, q4⟩ := q3
  refine ⟨b, den3, ?_⟩
  cases b with
  | false => exact k (.bl false) S3 (.bl false) H3 q4 rfl rS3 ((f1.trans f2).trans f3)
  | true =>
    refine ⟨ε, S3, _, ((rE.frame rS f1).frame rS1 f2).frame rS2 f3, rS3, q4, fun g S4 u4 H4 q5 den4 rS4 f4 => ?_⟩
    exact ⟨e, g, S4, Q0, (den2.frame rS2 f3).frame rS3 f4, den4, rS4, q5, k.frame (((f1.trans f2).trans f3).trans f4)⟩
theorem de_chain {op op' : CmpOp} {r r' : R2D} (ho : DOp X (compareOp op) r) (ho' : DOp X (compareOp op') r') (ha : DE X a ta) (hb : DE X b tb) (hc : DE X c tc) (hm : lastMarks [op, op'] [b, c] = false := by with_unfolding_all rfl) :
    DE X (.Compare a [op, op'] [b, c] pos) (dChain r r' ta tb tc) := PE_imp (pe_chain ho ho' ha hb hc hm) fun _ _ _ => dChain_lift
theorem dt_chain {op op' : CmpOp} {r r' : R2D} (ho : DOp X (compareOp op) r) (ho' : DOp X (compareOp op') r') (ha : DE X a ta) (hb : DE X b tb) (hc : DE X c tc) (hm : lastMarks [op, op'] [b, c] = false := by with_unfolding_all rfl) :
    DT X (.Compare a [op, op'] [b, c] pos) (dB (dChain r r' ta tb tc)) := PT_imp (pt_chain ho ho' ha hb hc hm) (dB_lift fun _ _ _ => dChain_lift)
def dIsN (ta : DTE) : DTE := fun ε S Q => ta ε S fun x S1 => ∃ k, (x = .non ↔ k = true) ∧ Q (.bl k) S1
def dNotN (ta : DTE) : DTE := fun ε S Q => ta ε S fun x S1 => ∃ k, (x = .non ↔ k = false) ∧ Q (.bl k) S1
theorem den_non {K : PySem.W.Frag} {H : Hp} {d : D} {v : V} (h : Den K H d v) : v = .non ↔ d = .non := by
  cases d with
  | non => exact ⟨fun _ => rfl, fun _ => h⟩
  | bl b => cases (show v = .bl b from h); exact ⟨(fun z => nomatch z), (fun z => nomatch z)⟩
  | int b => cases (show v = .int b from h); exact ⟨(fun z => nomatch z), (fun z => nomatch z)⟩
  | str b => cases (show v = .str b from h); exact ⟨(fun z => nomatch z), (fun z => nomatch z)⟩
  | ty b => cases (show v = .ty b from h); exact ⟨(fun z => nomatch z), (fun z => nomatch z)⟩
  | ref b => cases (show v = .ref b from h); exact ⟨(fun z => nomatch z), (fun z => nomatch z)⟩
  | tup ds =>
    obtain ⟨p, vs, rfl, _⟩ := (show ∃ a vs, v = .ref a ∧ PlT K H a vs ∧ DenL K H ds vs from h)
    exact ⟨(fun z => nomatch z), (fun z => nomatch z)⟩
  | ilst ds =>
    obtain ⟨p, vs, rfl, _⟩ := (show ∃ a vs, v = .ref a ∧ StL K H a vs ∧ DenL K H ds vs from h)
    exact ⟨(fun z => nomatch z), (fun z => nomatch z)⟩
  | fdic ks ds =>
    obtain ⟨p, o, kv, rfl, _⟩ := (show ∃ a o kv, v = .ref a ∧ H a = some (.frz o (.dK kv)) ∧ kv.map (·.1) = ks ∧ DenL K H ds (kv.map (·.2)) from h)
    exact ⟨(fun z => nomatch z), (fun z => nomatch z)⟩
theorem dIsN_lift {K : PySem.W.Frag} {σ : L2.St} {H : Hp} {Q : VK} (h : liftE K (dIsN ta) σ H Q) : tIsN (liftE K ta) σ H Q := by
  obtain ⟨ε, S, Q0, rE, rS, q, k⟩ := h
  refine ⟨ε, S, _, rE, rS, q, fun d S1 v H1 q1 den rS1 f1 => ?_⟩
  obtain ⟨b, hb, q2⟩ := q1
  have e : decide (v = .non) = b := by
    cases b with
    | true => exact decide_eq_true ((den_non den).mpr (hb.mpr rfl))
    | false => exact decide_eq_false fun z => Bool.false_ne_true (hb.mp ((den_non den).mp z))
  rw [e]
  exact k _ S1 _ H1 q2 rfl rS1 f1
theorem dNotN_lift {K : PySem.W.Frag} {σ : L2.St} {H : Hp} {Q : VK} (h : liftE K (dNotN ta) σ H Q) : tNotN (liftE K ta) σ H Q := by
  obtain ⟨ε, S, Q0, rE, rS, q, k⟩ := h
  refine ⟨ε, S, _, rE, rS, q, fun d S1 v H1 q1 den rS1 f1 => ?_⟩
  obtain ⟨b, hb, q2⟩ := q1
  have e : (!decide (v = .non)) = b := by
    cases b with
    | false => rw [decide_eq_true ((den_non den).mpr (hb.mpr rfl))]; rfl
    | true => rw [decide_eq_false fun z => Bool.noConfusion (hb.mp ((den_non den).mp z))]; rfl
  rw [e]
  exact k _ S1 _ H1 q2 rfl rS1 f1
theorem dt_isN {j pos'} (ha : DE X a ta) : DT X (.Compare a [.Is] [.Constant .none j pos'] pos) (dB (dIsN ta)) := PT_imp (pt_cmp (pc_isN ha) rfl) (dB_lift fun _ _ _ => dIsN_lift)
theorem dt_notN {j pos'} (ha : DE X a ta) : DT X (.Compare a [.IsNot] [.Constant .none j pos'] pos) (dB (dNotN ta)) := PT_imp (pt_cmp (pc_notN ha) rfl) (dB_lift fun _ _ _ => dNotN_lift)

def dAnd (t u : DTT) : DTT := fun ε S Q => t ε S fun k S1 => if k = true then u ε S1 Q else Q false S1
def dOr (t u : DTT) : DTT := fun ε S Q => t ε S fun k S1 => if k = true then Q true S1 else u ε S1 Q
def dNot (t : DTT) : DTT := fun ε S Q => t ε S fun k S1 => Q (!k) S1
abbrev DW (X : Cx) (e : Expr) (t : DTT) : Prop := PW X e (liftT X.K t)
theorem PW_imp {e : Expr} {t t' : TT} (h : PW X e t) (i : ∀ σ H Q, t' σ H Q → t σ H Q) : PW X e t' := ⟨fun wh pins s σ H Q I q => h.run wh pins s σ H Q I (i σ H Q q)⟩
variable {t u : DTT} {rest : List Expr}
theorem dw_and1 (h : DT X a t) : DW X (.BoolOp .And [a] pos) t := pw_and1 h
theorem dw_or1 (h : DT X a t) : DW X (.BoolOp .Or [a] pos) t := pw_or1 h
theorem dw_and (ha : DT X a t) (hb : DW X (.BoolOp .And (b :: rest) pos) u) : DW X (.BoolOp .And (a :: b :: rest) pos) (dAnd t u) :=
  PW_imp (pw_and ha hb) fun σ H Q ⟨ε, S, Q0, rE, rS, q, k⟩ => ⟨ε, S, _, rE, rS, q, fun d S1 H1 q1 rS1 f1 => by
    cases d with
    | true => exact ⟨ε, S1, Q0, rE.frame rS f1, rS1, q1, k.frame f1⟩
    | false => exact k false S1 H1 q1 rS1 f1⟩
theorem dw_or (ha : DT X a t) (hb : DW X (.BoolOp .Or (b :: rest) pos) u) : DW X (.BoolOp .Or (a :: b :: rest) pos) (dOr t u) :=
  PW_imp (pw_or ha hb) fun σ H Q ⟨ε, S, Q0, rE, rS, q, k⟩ => ⟨ε, S, _, rE, rS, q, fun d S1 H1 q1 rS1 f1 => by
    cases d with
    | false => exact ⟨ε, S1, Q0, rE.frame rS f1, rS1, q1, k.frame f1⟩
    | true => exact k true S1 H1 q1 rS1 f1⟩
theorem dt_w (h : DW X e t) : DT X e t := PW.pt h
theorem dt_not (ha : DT X a t) : DT X (.UnaryOp .Not a pos) (dNot t) :=
  PT_imp (pt_not ha) fun σ H Q ⟨ε, S, Q0, rE, rS, q, k⟩ => ⟨ε, S, _, rE, rS, q, fun d S1 H1 q1 rS1 f1 => k _ S1 H1 q1 rS1 f1⟩
def dIf (t : DTT) (ta tb : DTE) : DTE := fun ε S Q => t ε S fun k S1 => if k = true then ta ε S1 Q else tb ε S1 Q
theorem de_if (hc : DT X c t) (ha : DE X a ta) (hb : DE X b tb) : DE X (.IfExp c a b pos) (dIf t ta tb) :=
  PE_imp (pe_ifExp hc ha hb) fun σ H Q ⟨ε, S, Q0, rE, rS, q, k⟩ => ⟨ε, S, _, rE, rS, q, fun d S1 H1 q1 rS1 f1 => by
    cases d with
    | true => exact ⟨ε, S1, Q0, rE.frame rS f1, rS1, q1, k.frame f1⟩
    | false => exact ⟨ε, S1, Q0, rE.frame rS f1, rS1, q1, k.frame f1⟩⟩
def dAndV (ta tb : DTE) : DTE := fun ε S Q => ta ε S fun x S1 => ∃ k, x = .bl k ∧ if k = true then tb ε S1 Q else Q (.bl false) S1
theorem de_one {op} {t : DTE} (h : DE X a t) : DE X (.BoolOp op [a] pos) t := pe_one h
theorem de_and (ha : DE X a ta) (hb : DE X (.BoolOp .And (b :: rest) pos) tb) : DE X (.BoolOp .And (a :: b :: rest) pos) (dAndV ta tb) :=
  PE_imp (pe_and ha hb) fun σ H Q ⟨ε, S, Q0, rE, rS, q, k⟩ => ⟨ε, S, _, rE, rS, q, fun d S1 v H1 q1 den rS1 f1 => by
    obtain ⟨b, rfl, q2⟩ := q1
    refine ⟨b, den, ?_⟩
    cases b with
    | true => exact ⟨ε, S1, Q0, rE.frame rS f1, rS1, q2, k.frame f1⟩
    | false => exact k _ S1 _ H1 q2 rfl rS1 f1⟩
def dNil : DTA := fun _ S Q => Q [] S
def dCons (ta : DTE) (tr : DTA) : DTA := fun ε S Q => ta ε S fun x S1 => tr ε S1 fun xs S2 => Q (x :: xs) S2
variable {tas : DTA}
theorem da_nil : DA X [] dNil := PA_imp pa_nil fun σ H Q ⟨ε, S, Q0, rE, rS, q, k⟩ => k [] S [] H q DenL.nil rS Frame.refl
theorem da_cons (ha : DE X e ta) (hr : DA X es tas) (hs : starEach (e :: es) X.env = (false, eval e X.env) :: starEach es X.env := by rfl) : DA X (e :: es) (dCons ta tas) :=
  PA_imp (pa_cons ha hr hs) fun σ H Q ⟨ε, S, Q0, rE, rS, q, k⟩ => ⟨ε, S, _, rE, rS, q, fun d S1 v H1 q1 den1 rS1 f1 =>
    ⟨ε, S1, _, rE.frame rS f1, rS1, q1, fun ds S2 vs H2 q2 den2 rS2 f2 => k (d :: ds) S2 (v :: vs) H2 q2 (DenL.cons (den1.frame rS1 f2) den2) rS2 (f1.trans f2)⟩⟩
def dTup (t : DTA) : DTE := fun ε S Q => t ε S fun xs S1 => xs.length ≤ 1000 ∧ Q (.tup xs) S1
theorem line1000 {n : Nat} (h : n ≤ 1000) : n ≤ sizeLine := Nat.le_trans h (by decide)
theorem den_tup {K : PySem.W.Frag} {H : Hp} {p : Addr} {ds : List D} {vs : List V} (h : PlT K H p vs) (g : DenL K H ds vs) : Den K H (.tup ds) (.ref p) :=
  (show ∃ a vs, V.ref p = .ref a ∧ PlT K H a vs ∧ DenL K H ds vs from ⟨p, vs, rfl, h, g⟩)
theorem Den.untup {K : PySem.W.Frag} {H : Hp} {ds : List D} {v : V} (h : Den K H (.tup ds) v) : ∃ a vs, v = .ref a ∧ PlT K H a vs ∧ DenL K H ds vs := h
theorem Den.unilst {K : PySem.W.Frag} {H : Hp} {ds : List D} {v : V} (h : Den K H (.ilst ds) v) : ∃ a vs, v = .ref a ∧ StL K H a vs ∧ DenL K H ds vs := h
def newT (H : Hp) (xs : List V) (Q : VK) : Prop := ∀ p o, PlainO o → H p = none → Q (.ref p) (upd H p (.frz o (.tup xs)))
theorem WkE.newTup {K : PySem.W.Frag} {S : SD} {H : Hp} {Q0 : DK} {Q : VK} {ds : List D} {vs : List V} (k : WkE K S H Q0 Q) (rS : RelS K H S) (g : DenL K H ds vs) (q : Q0 (.tup ds) S) : newT H vs Q := fun p o po hp =>
  k (.tup ds) S (.ref p) _ q (den_tup (.inl ⟨o, po, upd_same⟩) (DenL.frame rS (frame_new hp) ds vs g)) (rS.frame_new hp) (frame_new hp)
theorem ep_newT {X : Cx} {pins : List (Addr × Obj)} {σ : L2.St} {H : Hp} {s : Shared} {its : List Value} {xs : List V} {Q : VK} {t' : Nat} (I : Inv X pins σ H s) (r : Vals xs its) (hz : xs.length ≤ sizeLine) (q : newT H xs Q) :
    EP X pins σ Q (.ref s.heap.objs.size) { s with heap := s.heap.push { cls := .type "tuple", data := .seq its.toArray }, toks := t' } := by
  have e : (s.heap.push ({ cls := .type "tuple", data := .seq its.toArray } : Obj)).get? s.heap.objs.size = some { cls := .type "tuple", data := .seq its.toArray } := Heap.get?_push_size _ rfl
  refine ⟨.ref s.heap.objs.size, upd H s.heap.objs.size (.frz { cls := .type "tuple", data := .seq its.toArray } (.tup xs)), I.laid (t' := t') (fun b u e => Heap.get?_push_of_some _ e) (Nat.le_refl _) ⟨e, hz, its, r, ⟨_, e, rfl, _, rfl⟩⟩, rfl, ?_⟩
  exact q _ _ ⟨rfl, rfl, _, _, rfl⟩ (I.hok.fresh (Nat.le_refl _))
def tTupF (t : TA) : TE := fun σ H Q => t σ H fun xs H1 => xs.length ≤ sizeLine ∧ newT H1 xs Q
theorem pe_tupF {x1} {t : TA} (h : PA X es t) : PE X (.Tuple es x1 pos) (tTupF t) := by
  refine ⟨fun pins s σ H Q I hq => wpAny_Tuple_spliced (thn (h.run pos pins s σ H _ I hq) ?_)⟩
  rintro us s1 ⟨xs, H1, I1, r, z, q⟩
  exact ⟨by rw [← r.length]; exact z, ep_newT (t' := s1.toks) I1 r z q⟩
theorem de_tup {x1} (h : DA X es tas) : DE X (.Tuple es x1 pos) (dTup tas) :=
  PE_imp (pe_tupF h) fun σ H Q ⟨ε, S, Q0, rE, rS, q, k⟩ => ⟨ε, S, _, rE, rS, q, fun ds S1 vs H1 q1 den rS1 f1 =>
    ⟨by rw [den.length]; exact line1000 q1.1, (k.frame f1).newTup rS1 den q1.2⟩⟩
end

section
variable {X : Cx} {st : Stmt} {rest : List Stmt} {t u : DTS} {e : Expr} {te : DTE} {pos : Pos}
def dNext : DTS := fun D ε S => D.nx ε S
def dSeq (t u : DTS) : DTS := fun D ε S => t { D with nx := u D } ε S
theorem dss_nil : DSs X [] dNext := PSs_imp pss_nil fun D σ H ⟨ε, S, D0, rE, rS, q, k⟩ => k.nx ε S σ H q rE rS Frame.refl
theorem dss_cons (h1 : DS X st t) (h2 : DSs X rest u) : DSs X (st :: rest) (dSeq t u) :=
  PSs_imp (pss_cons h1 h2) fun D σ H ⟨ε, S, D0, rE, rS, q, k⟩ => ⟨ε, S, _, rE, rS, q, ⟨fun ε' S' σ' H' q1 rE1 rS1 f1 => ⟨ε', S', D0, rE1, rS1, q1, k.frame f1⟩, k.rt, k.bk, k.ct⟩⟩
theorem dss_one (h1 : DS X st t) : DSs X [st] t := pss_one h1
def dDrop (te : DTE) : DTS := fun D ε S => te ε S fun _ S1 => D.nx ε S1
theorem ds_expr (he : DE X e te) (hs : swapsWith e none pos.line X.env = pure false := by rfl) : DS X (.Expr e pos) (dDrop te) :=
  PS_imp (ps_expr he hs) fun D σ H ⟨ε, S, D0, rE, rS, q, k⟩ => ⟨ε, S, _, rE, rS, q, fun d S1 v H1 q1 _ rS1 f1 => k.nx ε S1 σ H1 q1 (rE.frame rS f1) rS1 f1⟩
def dRet (te : DTE) : DTS := fun D ε S => te ε S D.rt
theorem ds_ret (he : DE X e te) : DS X (.Return (some e) pos) (dRet te) :=
  PS_imp (ps_ret he) fun D σ H ⟨ε, S, D0, rE, rS, q, k⟩ => ⟨ε, S, _, rE, rS, q, k.rt⟩
def dIfS (c : DTT) (t u : DTS) : DTS := fun D ε S => c ε S fun b S1 => if b = true then t D ε S1 else u D ε S1
theorem ds_if {c : Expr} {a b : List Stmt} {tc : DTT} (hc : DT X c tc) (ha : DSs X a t) (hb : DSs X b u) : DS X (.If c a b pos) (dIfS tc t u) :=
  PS_imp (ps_if hc ha hb) fun D σ H ⟨ε, S, D0, rE, rS, q, k⟩ => ⟨ε, S, _, rE, rS, q, fun d S1 H1 q1 rS1 f1 => by
    cases d with
    | true => exact ⟨ε, S1, D0, rE.frame rS f1, rS1, q1, k.frame f1⟩
    | false => exact ⟨ε, S1, D0, rE.frame rS f1, rS1, q1, k.frame f1⟩⟩

def dgN (i : Nat) : DTG := fun d ε S Q => Q (ε.set i (some d)) S
theorem dg_name {i : Nat} {x : Str} (hN : X.N.Nodup) (hi : X.N[i]? = some x) (hx : Loc X.env.scope x) (hf : X.fn x = true ∨ X.env.scope.names.lookup x = some .local := by first | exact .inl rfl | exact .inr rfl | assumption) : DG X (.Name x pos) [i] (dgN i) :=
  PG_imp (pg_name hN hi hx hf) fun v σ H Q ⟨d, ε, S, Q0, den, rE, rS, q, k⟩ => k _ S _ H q (rE.set i den) rS Frame.refl (by simp [wipe])
def dgNil : DTGs := fun ds ε S Q => ds = [] ∧ Q ε S
def dgCons (t : DTG) (u : DTGs) : DTGs := fun ds ε S Q => ∃ d r, ds = d :: r ∧ t d ε S fun ε' S' => u r ε' S' Q
theorem dgs_nil : DGs X [] [] dgNil := PGs_imp pgs_nil fun xs σ H Q ⟨ds, ε, S, Q0, den, rE, rS, ⟨e1, q⟩, k⟩ => by
  subst e1
  exact ⟨den.nil_eq, k ε S σ H q rE rS Frame.refl rfl⟩
end
end DL

namespace DL
open PySem PySem.Spec PyProof.Rows L2
variable [Amb]

section
variable {X : Cx} {pos : Pos}
theorem wipe_get {σ : L2.St} {i : Nat} : ∀ {vs : List Nat}, (wipe σ vs)[i]? = if i ∈ vs then (if i < σ.length then some none else none) else σ[i]?
  | [] => by simp [wipe]
  | v :: vs => by
    unfold wipe
    by_cases h : v = i
    · subst h
      rw [List.getElem?_set, if_pos rfl, wipe_length, if_pos List.mem_cons_self]
    · rw [List.getElem?_set_ne h, wipe_get (vs := vs)]
      have e : (i ∈ v :: vs) = (i ∈ vs) := by
        apply propext
        rw [List.mem_cons]
        exact ⟨fun q => q.resolve_left fun z => h z.symm, .inr⟩
      simp only [e]
theorem wipe_more {σ σ' : L2.St} {vs ws : List Nat} (h : wipe σ' vs = wipe σ vs) (s : ∀ i ∈ vs, i ∈ ws) : wipe σ' ws = wipe σ ws := by
  have hl : σ'.length = σ.length := by
    have := congrArg List.length h
    rwa [wipe_length, wipe_length] at this
  refine List.ext_getElem? fun i => ?_
  rw [wipe_get, wipe_get, hl]
  by_cases hi : i ∈ ws
  · rw [if_pos hi, if_pos hi]
  · have hv : i ∉ vs := fun z => hi (s i z)
    have q : (wipe σ' vs)[i]? = (wipe σ vs)[i]? := by rw [h]
    rw [wipe_get, wipe_get, if_neg hv, if_neg hv] at q
    rw [if_neg hi, if_neg hi, q]
theorem dgs_cons {e : Expr} {es : List Expr} {t : DTG} {u : DTGs} {vs ws : List Nat} (h1 : DG X e vs t) (h2 : DGs X es ws u)
    (hs : (assignEach (e :: es) X.env).map (·.2) = assign e X.env :: (assignEach es X.env).map (·.2) := by rfl) : DGs X (e :: es) (vs ++ ws) (dgCons t u) :=
  PGs_imp (pgs_cons h1 h2 hs) fun xs σ H Q ⟨ds, ε, S, Q0, den, rE, rS, ⟨d, r, e1, q⟩, k⟩ => by
    subst e1
    obtain ⟨v, w, rfl, den1, den2⟩ := den.uncons
    refine ⟨v, w, rfl, d, ε, S, _, den1, rE, rS, q, fun ε' S' σ' H' q1 rE1 rS1 f1 w1 => ?_⟩
    exact ⟨r, ε', S', Q0, DenL.frame rS f1 r w den2, rE1, rS1, q1, fun ε2 S2 σ2 H2 q2 rE2 rS2 f2 w2 =>
      k ε2 S2 σ2 H2 q2 rE2 rS2 (f1.trans f2) ((wipe_more w2 fun i hi => List.mem_append_right _ hi).trans (wipe_more w1 fun i hi => List.mem_append_left _ hi))⟩
def dgTup (n : Nat) (u : DTGs) : DTG := fun d ε S Q => ∃ ds, d = .tup ds ∧ ds.length = n ∧ u ds ε S Q
theorem dg_tup {es : List Expr} {k : Nat} {u : DTGs} {n : Nat} {vs : List Nat} (hc : X.calm = true) (h : DGs X es vs u)
    (hn : (assignEach es X.env).length = n := by rfl) (hst : (assignEach es X.env).findIdx? (·.1) = none := by rfl) : DG X (.Tuple es k pos) vs (dgTup n u) :=
  PG_imp (pg_tup hc h hn hst) fun v σ H Q ⟨d, ε, S, Q0, den, rE, rS, ⟨ds, e1, e2, q⟩, kk⟩ => by
    subst e1
    obtain ⟨a, xs, rfl, hq, hd⟩ := den.untup
    exact ⟨a, xs, rfl, hq.sq, by rw [hd.length]; exact e2, ds, ε, S, Q0, hd, rE, rS, q, kk⟩

def dAsg (te : DTE) (g : DTG) : DTS := fun D ε S => te ε S fun d S1 => g d ε S1 D.nx
theorem ds_asg {tg e : Expr} {te : DTE} {g : DTG} {vs : List Nat} (he : DE X e te) (hg : DG X tg vs g) (hs : swapsWithSole [tg] e pos.line X.env = pure false := by rfl) (hw : swappedStores [tg] e X.env = pure none := by rfl)
    (h1 : (assignEach [tg] X.env).map (·.2) = [assign tg X.env] := by rfl) : DS X (.Assign [tg] e pos) (dAsg te g) :=
  PS_imp (ps_asg he hg hs hw h1) fun D σ H ⟨ε, S, D0, rE, rS, q, k⟩ => ⟨ε, S, _, rE, rS, q, fun d S1 v H1 q1 den rS1 f1 =>
    ⟨d, ε, S1, _, den, rE.frame rS f1, rS1, q1, fun ε' S' σ' H' q2 rE2 rS2 f2 _ => k.nx ε' S' σ' H' q2 rE2 rS2 (f1.trans f2)⟩⟩
def dSet (i : Nat) (te : DTE) : DTS := fun D ε S => te ε S fun d S1 => D.nx (ε.set i (some d)) S1
theorem ds_set {i : Nat} {x : Str} {e : Expr} {te : DTE} {pos' : Pos} (hN : X.N.Nodup) (hi : X.N[i]? = some x) (hx : Loc X.env.scope x) (he : DE X e te) (hs : swapsWith e (some (.Name x pos')) pos.line X.env = pure false := by rfl) (hf : X.fn x = true ∨ X.env.scope.names.lookup x = some .local := by first | exact .inl rfl | exact .inr rfl | assumption) :
    DS X (.Assign [.Name x pos'] e pos) (dSet i te) :=
  PS_imp (ps_set hN hi hx he hs hf) fun D σ H ⟨ε, S, D0, rE, rS, q, k⟩ => ⟨ε, S, _, rE, rS, q, fun d S1 v H1 q1 den rS1 f1 =>
    k.nx _ S1 _ H1 q1 ((rE.frame rS f1).set i den) rS1 f1⟩
abbrev TSetD := D → D → D → SD → (SD → Prop) → Prop
def liftSet (K : PySem.W.Frag) (t : TSetD) : TSet := fun o i v H Q => ∃ a b d S Q0, Den K H a o ∧ Den K H b i ∧ Den K H d v ∧ RelS K H S ∧ t a b d S Q0 ∧ ∀ S' H', Q0 S' → RelS K H' S' → Frame S H S' H' → Q H'
abbrev DPSet (X : Cx) (t : TSetD) : Prop := PSet X (liftSet X.K t)
def dgSub (to ti : DTE) (t : TSetD) : DTG := fun d ε S Q => to ε S fun o S1 => ti ε S1 fun i S2 => t o i d S2 fun S3 => Q ε S3
theorem dg_sub {o i : Expr} {to ti : DTE} {t : TSetD} (ho : DE X o to) (hi : DE X i ti) (hs : DPSet X t)
    (ha : ∀ v, assign (.Subscript o i pos) X.env v = (do
      let ov ← holding [v] (eval o X.env)
      let iv ← holding [v, ov] (eval i X.env)
      standAt pos
      holding [v, ov, iv] (setItem ov iv v)
      release [v, ov, iv] []) := by intro _; rfl) : DG X (.Subscript o i pos) [] (dgSub to ti t) :=
  PG_imp (pg_sub ho hi hs ha) fun v σ H Q ⟨d, ε, S, Q0, den, rE, rS, q, k⟩ => ⟨ε, S, _, rE, rS, q, fun a S1 ov H1 q1 den1 rS1 f1 =>
    ⟨ε, S1, _, rE.frame rS f1, rS1, q1, fun b S2 iv H2 q2 den2 rS2 f2 =>
      ⟨a, b, d, S2, _, den1.frame rS1 f2, den2, den.frame rS (f1.trans f2), rS2, q2, fun S3 H3 q3 rS3 f3 =>
        k ε S3 σ H3 q3 (rE.frame rS ((f1.trans f2).trans f3)) rS3 ((f1.trans f2).trans f3) rfl⟩⟩⟩
abbrev DPIp (X : Cx) (op : Operator) (r : R2D) : Prop := PIp X op (lift2 X.K r)
def dAug (i : Nat) (te : DTE) (r : R2D) : DTS := fun D ε S => ∃ x, ε[i]? = some (some x) ∧ te ε S fun y S1 => r x y S1 fun z S2 => D.nx (ε.set i (some z)) S2
theorem ds_aug {i : Nat} {x : Str} {e : Expr} {te : DTE} {op : Operator} {r : R2D} {pos' : Pos} (hN : X.N.Nodup) (hi : X.N[i]? = some x) (hx : Loc X.env.scope x) (he : DE X e te) (ho : DPIp X op r) (hf : X.fn x = true ∨ X.env.scope.names.lookup x = some .local := by first | exact .inl rfl | exact .inr rfl | assumption) :
    DS X (.AugAssign (.Name x pos') op e pos) (dAug i te r) :=
  PS_imp (ps_aug hN hi hx he ho hf) fun D σ H ⟨ε, S, D0, rE, rS, ⟨d, e1, q⟩, k⟩ => by
    obtain ⟨v, e2, den⟩ := rE.2 i d e1
    exact ⟨v, e2, ε, S, _, rE, rS, q, fun y S1 u H1 q1 den1 rS1 f1 => ⟨d, y, S1, _, den.frame rS f1, den1, rS1, q1, fun z S2 w H2 q2 den2 rS2 f2 =>
      k.nx _ S2 _ H2 q2 ((rE.frame rS (f1.trans f2)).set i den2) rS2 (f1.trans f2)⟩⟩
end

section
variable {X : Cx} {pos : Pos}
def whileN (c : DTT) (tb : DTS) : Nat → DEnds → ED → SD → Prop
  | 0, _, _, _ => False
  | n + 1, D, ε, S => c ε S fun b S1 => if b = true then tb { D with nx := whileN c tb n D, ct := whileN c tb n D, bk := D.nx } ε S1 else D.nx ε S1
def dWhile (c : DTT) (tb : DTS) : DTS := fun D ε S => ∃ n, whileN c tb n D ε S
theorem ds_while {c : Expr} {body : List Stmt} {tc : DTT} {tb : DTS} (hp : PassesOwn (model X.prog X.w) X.A X.env X.xe) (hc : DT X c tc) (hb : DSs X body tb) : DS X (.While c body [] pos) (dWhile tc tb) :=
  PS_imp (ps_while hp hc hb) fun D σ H ⟨ε, S, D0, rE, rS, ⟨n, q⟩, k⟩ => by
    refine ⟨fun m σ1 H1 => ∃ ε1 S1, RelE X.K H1 σ1 ε1 ∧ RelS X.K H1 S1 ∧ Frame S H S1 H1 ∧ whileN tc tb m D0 ε1 S1, ⟨n, ε, S, rE, rS, Frame.refl, q⟩, fun m σ1 H1 hW => ?_⟩
    obtain ⟨ε1, S1, rE1, rS1, f1, q1⟩ := hW
    cases m with
    | zero => exact q1.elim
    | succ m =>
      refine ⟨ε1, S1, _, rE1, rS1, q1, fun b S2 H2 q2 rS2 f2 => ?_⟩
      cases b with
      | false => exact k.nx ε1 S2 σ1 H2 q2 (rE1.frame rS1 f2) rS2 (f1.trans f2)
      | true =>
        refine ⟨fun σ3 H3 => ∃ ε3 S3, RelE X.K H3 σ3 ε3 ∧ RelS X.K H3 S3 ∧ Frame S H S3 H3 ∧ whileN tc tb m D0 ε3 S3, fun σ3 H3 h3 => ⟨m, Nat.lt_succ_self m, h3⟩, ?_⟩
        refine ⟨ε1, S2, _, rE1.frame rS1 f2, rS2, q2, ?_⟩
        have f := f1.trans f2
        exact ⟨fun ε3 S3 σ3 H3 q3 rE3 rS3 f3 => ⟨ε3, S3, rE3, rS3, f.trans f3, q3⟩, k.rt.frame f, fun ε3 S3 σ3 H3 q3 rE3 rS3 f3 => k.nx ε3 S3 σ3 H3 q3 rE3 rS3 (f.trans f3), fun ε3 S3 σ3 H3 q3 rE3 rS3 f3 => ⟨ε3, S3, rE3, rS3, f.trans f3, q3⟩⟩
end

section
variable (K : PySem.W.Frag)
def Yields (J : It) (S : SD) (H : Hp) (ds : List D) (chk : SD → Prop) : Prop :=
  ∀ (i : Nat) (S1 : SD) (H1 : Hp), RelS K H1 S1 → Frame S H S1 H1 → chk S1 →
    (i = ds.length → J.stop i H1) ∧ ∀ d, ds[i]? = some d → J.go i H1 ∧ ∀ x H2, J.yld i H1 x H2 → Den K H2 d x ∧ RelS K H2 S1 ∧ Frame S1 H1 S1 H2
abbrev DTI := ED → SD → (List D → (SD → Prop) → SD → Prop) → Prop
def liftI (t : DTI) : TI := fun σ H R => ∃ ε S R0, RelE K H σ ε ∧ RelS K H S ∧ t ε S R0 ∧
  ∀ ds chk S1 H1 J, R0 ds chk S1 → RelS K H1 S1 → Frame S H S1 H1 → Yields K J S1 H1 ds chk → R J H1
end
abbrev DI (X : Cx) (tg iter : Expr) (t : DTI) : Prop := PI X tg iter (liftI X.K t)
theorem PI_imp {X : Cx} {tg iter : Expr} {t t' : TI} (h : PI X tg iter t) (i : ∀ σ H R, t' σ H R → t σ H R) : PI X tg iter t' := ⟨fun pins s σ H R I q => h.run pins s σ H R I (i σ H R q)⟩
def forL (chk : SD → Prop) (f : D → DTS) : List D → DEnds → ED → SD → Prop
  | [], D, ε, S => chk S ∧ D.nx ε S
  | x :: xs, D, ε, S => chk S ∧ f x { D with nx := forL chk f xs D, ct := forL chk f xs D, bk := D.nx } ε S
def dFor (ti : DTI) (g : DTG) (tb : DTS) : DTS := fun D ε S => ti ε S fun ds chk S1 => forL chk (fun x D ε S => g x ε S (tb D)) ds D ε S1
section
variable {X : Cx} {tg : Expr} {pos : Pos}
theorem ds_for {iter : Expr} {body : List Stmt} {ti : DTI} {g : DTG} {vs : List Nat} {tb : DTS} (hp : PassesOwn (model X.prog X.w) X.A X.env X.xe) (hc : X.calm = true) (hi : DI X tg iter ti) (hg : DG X tg vs g) (hb : DSs X body tb)
    (hs : ∀ x, foldedSetIterable iter X.env x = pure x := by intro _; rfl) : DS X (.For tg iter body [] pos) (dFor ti g tb) :=
  PS_imp (ps_for hp hc hi hg hb hs) fun D σ H ⟨ε, S, D0, rE, rS, q, k⟩ => by
    refine ⟨ε, S, _, rE, rS, q, fun ds chk S1 H1 J q1 rS1 f1 Y => ?_⟩
    refine ⟨fun i m σ2 H2 => ∃ ε2 S2, RelE X.K H2 σ2 ε2 ∧ RelS X.K H2 S2 ∧ Frame S1 H1 S2 H2 ∧ i + m = ds.length ∧ forL chk (fun x D ε S => g x ε S (tb D)) (ds.drop i) D0 ε2 S2, ⟨ds.length, ε, S1, rE.frame rS f1, rS1, Frame.refl, by omega, q1⟩, fun i m σ2 H2 hW => ?_⟩
    obtain ⟨ε2, S2, rE2, rS2, f2, em, q2⟩ := hW
    by_cases hi : i < ds.length
    · rw [List.drop_eq_getElem_cons hi] at q2
      obtain ⟨hchk, q3⟩ := q2
      obtain ⟨_, hgo⟩ := Y i S2 H2 rS2 f2 hchk
      obtain ⟨go, hy⟩ := hgo _ (List.getElem?_eq_getElem hi)
      refine .inr ⟨go, fun σ3 H3 => ∃ ε3 S3, RelE X.K H3 σ3 ε3 ∧ RelS X.K H3 S3 ∧ Frame S1 H1 S3 H3 ∧ forL chk (fun x D ε S => g x ε S (tb D)) (ds.drop (i + 1)) D0 ε3 S3, fun σ3 H3 h3 => ?_, fun x H3 hyld => ?_⟩
      · obtain ⟨ε3, S3, a1, a2, a3, a4⟩ := h3
        exact ⟨m - 1, by omega, ε3, S3, a1, a2, a3, by omega, a4⟩
      · obtain ⟨den, rS3, f3⟩ := hy x H3 hyld
        have f := f2.trans f3
        refine ⟨ds[i], ε2, S2, _, den, rE2.frame rS2 f3, rS3, q3, fun ε4 S4 σ4 H4 q4 rE4 rS4 f4 _ => ?_⟩
        have g4 := f.trans f4
        refine ⟨ε4, S4, _, rE4, rS4, q4, ?_⟩
        exact ⟨fun ε5 S5 σ5 H5 q5 rE5 rS5 f5 => ⟨ε5, S5, rE5, rS5, g4.trans f5, q5⟩, k.rt.frame (f1.trans g4), fun ε5 S5 σ5 H5 q5 rE5 rS5 f5 => k.nx ε5 S5 σ5 H5 q5 rE5 rS5 (f1.trans (g4.trans f5)), fun ε5 S5 σ5 H5 q5 rE5 rS5 f5 => ⟨ε5, S5, rE5, rS5, g4.trans f5, q5⟩⟩
    · have e : ds.drop i = [] := List.drop_eq_nil_of_le (by omega)
      rw [e] at q2
      obtain ⟨hchk, q3⟩ := q2
      obtain ⟨hstop, _⟩ := Y i S2 H2 rS2 f2 hchk
      exact .inl ⟨hstop (by omega), k.nx ε2 S2 σ2 H2 q3 rE2 rS2 (f1.trans f2)⟩

def Yes : SD → Prop := fun _ => True
def dItL (tl : DTE) : DTI := fun ε S R => tl ε S fun x S1 => ∃ ds, (x = .ilst ds ∧ R ds Yes S1) ∨ ∃ a, x = .ref a ∧ S1 a = some (.lst ds) ∧ R ds (fun S2 => S2 a = some (.lst ds)) S1
def dItT (tl : DTE) : DTI := fun ε S R => tl ε S fun x S1 => ∃ ds, x = .tup ds ∧ R ds Yes S1
theorem RelS.lst {K : PySem.W.Frag} {H : Hp} {S : SD} {a : Addr} {ds : List D} (r : RelS K H S) (h : S a = some (.lst ds)) : ∃ vs, H a = some (.lst vs) ∧ DenL K H ds vs := r.cell a _ h
end
end DL

namespace DL
open PySem PySem.Spec PyProof.Rows L2
variable [Amb]

def ItEnT (K : PySem.W.Frag) (a : Addr) : It :=
  ⟨fun i H => ∃ (xs : List V) (x : V), SqT K H a xs ∧ xs[i]? = some x,
   fun i H v H' => ∃ T o x, PlainO o ∧ v = .ref T ∧ H T = none ∧ H' = upd H T (.frz o (.tup [.int (i : Nat), x])) ∧ ∀ xs, SqT K H a xs → xs[i]? = some x,
   fun i H => ∃ xs : List V, SqT K H a xs ∧ i = xs.length⟩
theorem turn_enT {P : Program} {w : World} {K : PySem.W.Frag} {elts : List Expr} {kk : Nat} {tpos : Pos} (a e it : Addr) (hat : a ≠ it) (hae : e ≠ a) :
    Turn P w K (.Tuple elts kk tpos) (ItEnT K a) [e, it] e (fun i h => (∃ old, IsEnum h e it ((i : Nat) : Int) old) ∧ h.IsTupleIter it a i ∧ e ≠ it) where
  mem := List.mem_cons_self
  obj := fun i h ⟨⟨old, he⟩, ⟨o, ho, _, hd⟩, _⟩ b hb => by
    rcases List.mem_cons.mp hb with z | z
    · subst z
      exact ⟨_, he, fun v q => nomatch q⟩
    · have z' := List.mem_singleton.mp z
      subst z'
      exact ⟨o, ho, fun v q => by rw [hd] at q; cases q⟩
  keep := fun i h h' ⟨⟨old, he⟩, hi, hne⟩ k => ⟨⟨old, k e List.mem_cons_self _ he⟩, hi.at fun o q => k it (List.mem_cons_of_mem _ (List.mem_singleton.mpr rfl)) o q, hne⟩
  item := by
    intro X hP hw hK hc i pins s σ H E I hf st hg
    subst hP hw hK
    obtain ⟨⟨old, he⟩, hit, hne⟩ := st
    obtain ⟨xs, x, hq, hx⟩ := hg
    obtain ⟨its, rv, p, hz⟩ := I.tuple hq
    obtain ⟨u, hu, ru⟩ := rv.get hx
    have hi : i < its.toArray.size := by
      obtain ⟨q, _⟩ := List.getElem?_eq_some_iff.mp hu
      simpa using q
    have Dr := Draws.tuple (prog := X.prog) (w := X.w) (A := X.A.in1) (I.ok.hd hc) it a hat its.toArray
    have hef : e ∉ [it, a] := by simp [hne, hae]
    have W := WalksT.enumFrom 0 Dr e hne hef (by simp)
    have hT : H s.heap.objs.size = none := I.hok.fresh (Nat.le_refl _)
    have hlt : ∀ b ∈ [e, it], b ≠ s.heap.objs.size := fun b hb => by
      rcases List.mem_cons.mp hb with z | z
      · subst z
        exact Nat.ne_of_lt (Heap.lt_size he)
      · rw [List.mem_singleton.mp z]
        obtain ⟨_, q, _⟩ := hit
        exact Nat.ne_of_lt (Heap.lt_size q)
    refine wpAny_pyNext_enum_itemC Dr he ⟨hit, (show s.heap.IsTuple a its.toArray from p)⟩ hi hne hef fun y h1 tk hy ho hst hobj hsz hk => ⟨.ref s.heap.objs.size, rfl, ?_⟩
    have hyu : y = u := by
      have q : its.toArray[i]? = some u := by simpa using hu
      rw [q] at hy
      exact (Option.some.inj hy).symm
    subst hyu
    refine W.go elts kk tpos i s.heap.objs.size { s with heap := h1, toks := tk + 1 } _ _ ⟨⟨y, by rw [Int.zero_add]; exact ho⟩, hst, (hlt e List.mem_cons_self).symm, (hlt it (by simp)).symm⟩ fun h2 hst2 hk2 => ?_
    obtain ⟨⟨old2, he2⟩, hit2, hp2⟩ := hst2
    have hTnot : s.heap.objs.size ∉ [e, it] := fun z => hlt _ z rfl
    have hT2 : h2.get? s.heap.objs.size = some { cls := .type "tuple", data := .seq #[.int ((i : Nat) : Int) tk, y] } := hk2 _ _ hTnot hobj
    have new : ObjOk X.prog X.w (upd H s.heap.objs.size (.frz { cls := .type "tuple", data := .seq #[.int ((i : Nat) : Int) tk, y] } (.tup [.int (i : Nat), x]))) h2 s.heap.objs.size (.frz { cls := .type "tuple", data := .seq #[.int ((i : Nat) : Int) tk, y] } (.tup [.int (i : Nat), x])) :=
      ⟨hT2, by show 2 ≤ sizeLine; decide, [.int ((i : Nat) : Int) tk, y], .cons ⟨_, rfl⟩ (.cons ru .nil), ⟨_, hT2, rfl, _, rfl⟩⟩
    have I1 : Inv X pins σ (upd H s.heap.objs.size (.frz { cls := .type "tuple", data := .seq #[.int ((i : Nat) : Int) tk, y] } (.tup [.int (i : Nat), x]))) { s with heap := h2, toks := tk + 1 } :=
      I.turnedNew (ch := [e, it]) (fun b ob hb q => hk2 b ob hb (hk b ob (fun z => hb (by simp [z])) (fun z => hb (by simp [z])) q)) hf (Nat.le_refl _) new
    refine ⟨.ref s.heap.objs.size, _, I1, rfl, ⟨s.heap.objs.size, _, x, ⟨rfl, rfl, _, _, rfl⟩, rfl, hT, rfl, fun ys hy => by rw [I.tuple_inj hy hq]; exact hx⟩, ⟨⟨old2, ?_⟩, hit2, hne⟩, fun b hb => ?_⟩
    · rw [Int.zero_add] at he2
      exact he2
    · rw [upd_ne (hlt b hb)]
      exact (hf b hb).1
  done := by
    intro X hP hw hK hc i pins s σ H E I hf st hg
    subst hP hw hK
    obtain ⟨⟨old, he⟩, hit, hne⟩ := st
    obtain ⟨xs, hq, hx⟩ := hg
    obtain ⟨its, rv, p, hz⟩ := I.tuple hq
    have hl := rv.length
    have hsz : i = its.toArray.size := by rw [List.size_toArray, ← hl]; exact hx
    obtain ⟨f0, f1, f2, f3, f4, f5⟩ := hf it (List.mem_cons_of_mem _ (List.mem_singleton.mpr rfl))
    refine wpAny_pyNext_enum_endD (Draws.tuple (prog := X.prog) (w := X.w) (A := X.A.in1) (I.ok.hd hc) it a hat its.toArray) he ⟨by rw [← hsz]; exact hit, (show s.heap.IsTuple a its.toArray from p)⟩ fun h' eb => ?_
    exact ⟨rfl, I.turned (t' := s.toks) (fun b o hb q => eb b o hb q) f0 f1 f3 f4 f5⟩
  self := fun A i s Q E ⟨⟨_, he⟩, _⟩ h => wpAny_pyIter_enum he h
set_option maxHeartbeats 1000000 in
theorem meets_en1 {v : Value} {o : Obj} {G : Heap → Prop} (B : Begins v o G) :
    Meets (Builtin.«enumerate.__new__» ⟨[.type "enumerate", v], []⟩) (fun _ R z => G z.heap ∧ R (.ok (.ret (.ref (z.heap.push o).objs.size)))
      { z with heap := (z.heap.push o).push { cls := .type "enumerate", data := .fields #[.none, .bool false, .ref z.heap.objs.size, rawInt 0, .none, .none] } }) :=
  .of_wp fun prog w A R z hz => by
    obtain ⟨hp, g, d, tk, os⟩ := z
    obtain ⟨g1, fin⟩ := hz
    have hsub := sub_enumerate
    have q1 : ∀ {A' : Around} {E : Value → Shared → Prop} {Q : Value → Shared → Prop}, Q (.ref hp.objs.size) ⟨hp.push o, g, d, tk, os⟩ → wpAny (model prog w) A' (pyIter v) Q E ⟨hp, g, d, tk, os⟩ := by
      intro A' E Q q
      exact B.iter prog w _ _ ⟨hp, g, d, tk, os⟩ _ g1 q
    wp_walk using q1
    refine wpAny_stack_any fun stk => ?_
    refine wpAny_pure ?_
    split
    · rename_i c _ _ _ _ _
      cases (c == Value.type "enumerate") <;> (wp_walk using q1; exact ⟨_, rfl, fin⟩)
    · wp_walk using q1
      exact ⟨_, rfl, fin⟩
theorem call_en1 {prog : Program} {w : World} {A : Around} {E : Value → Shared → Prop} {s : Shared} {v : Value} {o : Obj} {G : Heap → Prop} {Q : Value → Shared → Prop} (B : Begins v o G) (g1 : G s.heap)
    (h : ∀ h', IsEnum h' (s.heap.objs.size + 1) s.heap.objs.size 0 .none → h'.get? s.heap.objs.size = some o → (∀ b u, s.heap.get? b = some u → h'.get? b = some u) → Q (.ref (s.heap.objs.size + 1)) { s with heap := h' }) :
    wpAny (model prog w) A (call (.type "enumerate") [v]) Q E s := by
  refine callType_new F.called_enumerate (by decide) (F.typeCall_enumerate_1 _) (F.newCall_enumerate_1 _) (fun obj => F.args_object_init_2 obj _) F.entry_enumerate_new (meets_en1 B) ⟨g1, ?_⟩
  have z1 : (s.heap.push o).objs.size = s.heap.objs.size + 1 := Heap.size_push ..
  show _ ∧ _
  rw [z1]
  have e2 : IsEnum ((s.heap.push o).push { cls := .type "enumerate", data := .fields #[.none, .bool false, .ref s.heap.objs.size, rawInt 0, .none, .none] }) (s.heap.objs.size + 1) s.heap.objs.size 0 .none := by
    have q := Heap.get?_push_size (s.heap.push o) (o := { cls := .type "enumerate", data := .fields #[.none, .bool false, .ref s.heap.objs.size, rawInt 0, .none, .none] }) rfl
    rwa [z1] at q
  exact ⟨⟨_, e2, rfl⟩, h _ e2 (Heap.get?_push_of_some _ (Heap.get?_push_size _ B.free)) fun b u x => Heap.get?_push_of_some _ (Heap.get?_push_of_some _ x)⟩
def iEnT (K : PySem.W.Frag) (ta : TA) : TI := fun σ H R => ta σ H fun vs H1 => ∃ a xs, vs = [.ref a] ∧ SqT K H1 a xs ∧ R (ItEnT K a) H1
theorem pi_enT {X : Cx} {e : Expr} {ta : TA} {p pos tpos : Pos} {elts : List Expr} {kk : Nat} (hg : Gl X "enumerate") (hm : X.mg "enumerate" = none) (ha : PA X [e] ta) (hs : starEach [e] X.env = [(false, eval e X.env)] := by rfl) :
    PI X (.Tuple elts kk tpos) (.Call (.Name "enumerate" p) [e] [] pos) (iEnT X.K ta) := by
  refine ⟨fun pins s σ H R I h => Call_ (ld_blt I hg hm boot_enumerate (PyProof.Rows.callWith_type1 (thn (ha.run pos pins s σ H _ I h) ?_) hs rfl))⟩
  rintro us s1 ⟨vs, H1, I1, r1, a, xs, rfl, hq, q⟩
  obtain ⟨u, rfl, ru⟩ := vals1 r1
  cases ru
  obtain ⟨its, rv, p', hz⟩ := I1.tuple hq
  have hlt : a < s1.heap.objs.size := p'.lt
  refine call_en1 (begins_tuple a its.toArray) p' fun h' he hit hk => wpAny_pyIter_enum he ?_
  have I2 : Inv X pins σ H1 { s1 with heap := h' } := I1.kept (t' := s1.toks) hk
  refine ⟨s1.heap.objs.size + 1, [s1.heap.objs.size + 1, s1.heap.objs.size], _, _, H1, rfl, I2, turn_enT a (s1.heap.objs.size + 1) s1.heap.objs.size (Nat.ne_of_lt hlt) (Nat.ne_of_gt (Nat.lt_succ_of_lt hlt)), ⟨⟨.none, he⟩, ⟨_, hit, rfl, rfl⟩, Nat.succ_ne_self _⟩, fun b hb => ?_, q⟩
  have hle : s1.heap.objs.size ≤ b := by
    rcases List.mem_cons.mp hb with z | z
    · rw [z]; exact Nat.le_succ _
    · rw [List.mem_singleton.mp z]; exact Nat.le_refl _
  exact I1.fpOk hle (I1.hok.fresh hle)
def liftF (K : PySem.W.Frag) (t : DTA) : TE := fun σ H Q => ∃ ε S Q0, RelE K H σ ε ∧ RelS K H S ∧ t ε S Q0 ∧
  ∀ ds S' a vs H', Q0 ds S' → H a = none → S' a = none → H' a = some (.lst vs) → DenL K H' ds vs → RelS K H' S' → Frame S H S' H' → Q (.ref a) H'
abbrev DF (X : Cx) (e : Expr) (t : DTA) : Prop := PE X e (liftF X.K t)
theorem rel_adopt {K : PySem.W.Frag} {H : Hp} {S : SD} {a : Addr} {c : Cell} (r : RelS K H S) (h : CellOk K H a c) : RelS K H (put S a c) := ⟨fun b x e => by
  by_cases hb : b = a
  · subst hb
    rw [put_same] at e
    cases e
    exact h
  · rw [put_ne hb] at e
    exact r.cell b x e, r.tabs⟩
theorem frame_adopt {S S' : SD} {H H' : Hp} {a : Addr} {c : Cell} (f : Frame S H S' H') (h : H a = none) : Frame S H (put S' a c) H' := ⟨fun b o e1 e2 n => by
  obtain ⟨q1, q2⟩ := f.keep b o e1 e2 n
  exact ⟨q1, by rw [put_ne (ne_of_none e2 h)]; exact q2⟩, f.there⟩
theorem cell_lst {K : PySem.W.Frag} {H : Hp} {a : Addr} {ds : List D} {vs : List V} (h : H a = some (.lst vs)) (g : DenL K H ds vs) : CellOk K H a (.lst ds) :=
  (show ∃ vs, H a = some (.lst vs) ∧ DenL K H ds vs from ⟨vs, h, g⟩)
def dNew (t : DTA) : DTE := fun ε S Q => t ε S fun ds S1 => ∀ p, S1 p = none → Q (.ref p) (put S1 p (.lst ds))
section
variable {X : Cx} {e a b : Expr} {es : List Expr} {t ta tas : DTA} {pos : Pos} {tg : Expr}
theorem de_new (h : DF X e t) : DE X e (dNew t) :=
  PE_imp h fun σ H Q ⟨ε, S, Q0, rE, rS, q, k⟩ => ⟨ε, S, _, rE, rS, q, fun ds S' p vs H' q1 h0 hS hp den rS1 f1 =>
    k (.ref p) _ (.ref p) H' (q1 p hS) rfl (rel_adopt rS1 (cell_lst hp den)) (frame_adopt f1 h0)⟩
def dShort (t : DTA) : DTA := fun ε S Q => t ε S fun ds S1 => ds.length ≤ 1000 ∧ Q ds S1
def WkF (K : PySem.W.Frag) (S : SD) (H : Hp) (Q0 : List D → SD → Prop) (Q : VK) : Prop :=
  ∀ ds S' a vs H', Q0 ds S' → H a = none → S' a = none → H' a = some (.lst vs) → DenL K H' ds vs → RelS K H' S' → Frame S H S' H' → Q (.ref a) H'
theorem WkF.frame {K : PySem.W.Frag} {S S1 : SD} {H H1 : Hp} {Q0 : List D → SD → Prop} {Q : VK} (k : WkF K S H Q0 Q) (f : Frame S H S1 H1) : WkF K S1 H1 Q0 Q :=
  fun ds S' a vs H' x1 x2 x3 x4 x5 x6 x7 => k ds S' a vs H' x1 (f.there a x2) x3 x4 x5 x6 (f.trans x7)
theorem WkF.new {K : PySem.W.Frag} {S : SD} {H : Hp} {Q0 : List D → SD → Prop} {Q : VK} {ds : List D} {vs : List V} {p : Addr} (k : WkF K S H Q0 Q) (rS : RelS K H S) (g : DenL K H ds vs) (hp : H p = none) (q : Q0 ds S) : Q (.ref p) (upd H p (.lst vs)) :=
  k ds S p vs _ q hp (rS.free hp) upd_same (DenL.frame rS (frame_new hp) ds vs g) (rS.frame_new hp) (frame_new hp)
theorem df_lst (h : DA X es tas) : DF X (.List es pos) (dShort tas) :=
  PE_imp (pe_lst h) fun σ H Q ⟨ε, S, Q0, rE, rS, q, k⟩ => ⟨ε, S, _, rE, rS, q, fun ds S1 vs H1 q1 den rS1 f1 =>
    ⟨by rw [den.length]; exact line1000 q1.1, fun p hp => ((show WkF X.K S H Q0 Q from k).frame f1).new rS1 den hp q1.2⟩⟩
end

section
variable {X : Cx} {e a b l : Expr} {es : List Expr} {t ta tas : DTA} {pos p : Pos} {tg : Expr} {tl : DTE}
theorem di_list (hl : DE X l tl) : DI X tg l (dItL tl) :=
  PI_imp (pi_list hl) fun σ H R ⟨ε, S, R0, rE, rS, q, k⟩ => ⟨ε, S, _, rE, rS, q, fun d S1 v H1 q1 den rS1 f1 => by
    obtain ⟨ds, q1⟩ := q1
    rcases q1 with ⟨rfl, q1⟩ | ⟨x, rfl, hx, q1⟩
    · obtain ⟨x, vs, rfl, hst, hd⟩ := den.unilst
      refine ⟨x, rfl, ⟨vs, hst.sq⟩, k ds Yes S1 H1 _ q1 rS1 f1 fun i S2 H2 rS2 f2 _ => ?_⟩
      have hst2 := stL_frame rS1 f2 hst
      have hd2 := DenL.frame rS1 f2 ds vs hd
      refine ⟨fun hi => ⟨vs, hst2.sq, by rw [hd2.length]; exact Nat.le_of_eq hi.symm⟩, fun d hi => ?_⟩
      obtain ⟨u, hu, du⟩ := hd2.get hi
      exact ⟨⟨vs, u, hst2.sq, hu⟩, fun x H3 hy => by
        obtain ⟨rfl, hy⟩ := hy
        have e1 := hy vs hst2.sq
        rw [hu] at e1
        cases e1
        exact ⟨du, rS2, Frame.refl⟩⟩
    · cases (show v = .ref x from den)
      obtain ⟨vs, hv, hd⟩ := rS1.lst hx
      refine ⟨x, rfl, ⟨vs, SqL.of hv⟩, k ds _ S1 H1 _ q1 rS1 f1 fun i S2 H2 rS2 f2 hc => ?_⟩
      obtain ⟨vs2, hv2, hd2⟩ := rS2.lst hc
      refine ⟨fun hi => ⟨vs2, SqL.of hv2, by rw [hd2.length]; exact Nat.le_of_eq hi.symm⟩, fun d hi => ?_⟩
      obtain ⟨u, hu, du⟩ := hd2.get hi
      exact ⟨⟨vs2, u, SqL.of hv2, hu⟩, fun x H3 hy => by
        obtain ⟨rfl, hy⟩ := hy
        have e1 := hy vs2 (SqL.of hv2)
        rw [hu] at e1
        cases e1
        exact ⟨du, rS2, Frame.refl⟩⟩⟩
theorem di_tup (hl : DE X l tl) : DI X tg l (dItT tl) :=
  PI_imp (pi_tup hl) fun σ H R ⟨ε, S, R0, rE, rS, q, k⟩ => ⟨ε, S, _, rE, rS, q, fun d S1 v H1 q1 den rS1 f1 => by
    obtain ⟨ds, rfl, q1⟩ := q1
    obtain ⟨x, vs, rfl, hst, hd⟩ := den.untup
    refine ⟨x, rfl, ⟨vs, hst.sq⟩, k ds Yes S1 H1 _ q1 rS1 f1 fun i S2 H2 rS2 f2 _ => ?_⟩
    have hst2 := (plT_frame rS1 f2 hst).sq
    have hd2 := DenL.frame rS1 f2 ds vs hd
    refine ⟨fun hi => ⟨vs, hst2, by rw [hd2.length]; exact Nat.le_of_eq hi.symm⟩, fun d hi => ?_⟩
    obtain ⟨u, hu, du⟩ := hd2.get hi
    exact ⟨⟨vs, u, hst2, hu⟩, fun x H3 hy => by
      obtain ⟨rfl, hy⟩ := hy
      have e1 := hy vs hst2
      rw [hu] at e1
      cases e1
      exact ⟨du, rS2, Frame.refl⟩⟩⟩
def dItF (t : DTA) : DTI := fun ε S R => t ε S fun ds S1 => R ds Yes S1
theorem di_new (hl : DF X l t) : DI X tg l (dItF t) :=
  PI_imp (pi_list hl) fun σ H R ⟨ε, S, R0, rE, rS, q, k⟩ => ⟨ε, S, _, rE, rS, q, fun ds S1 x vs H1 q1 _ hS hv hd rS1 f1 => by
    refine ⟨x, rfl, ⟨vs, SqL.of hv⟩, k ds Yes S1 H1 _ q1 rS1 f1 fun i S2 H2 rS2 f2 _ => ?_⟩
    have hv2 := (f2.keep x _ hS hv (fun _ z => nomatch z)).1
    have hd2 := DenL.frame rS1 f2 ds vs hd
    refine ⟨fun hi => ⟨vs, SqL.of hv2, by rw [hd2.length]; exact Nat.le_of_eq hi.symm⟩, fun d hi => ?_⟩
    obtain ⟨u, hu, du⟩ := hd2.get hi
    exact ⟨⟨vs, u, SqL.of hv2, hu⟩, fun x H3 hy => by
      obtain ⟨rfl, hy⟩ := hy
      have e1 := hy vs (SqL.of hv2)
      rw [hu] at e1
      cases e1
      exact ⟨du, rS2, Frame.refl⟩⟩⟩
def intsFrom (lo : Int) (n : Nat) : List D := (List.range n).map fun i => D.int (lo + (i : Nat))
theorem intsFrom_length (lo : Int) (n : Nat) : (intsFrom lo n).length = n := by unfold intsFrom; simp
theorem yields_range {K : PySem.W.Frag} {S : SD} {H : Hp} (lo : Int) (n : Nat) : Yields K (Itr lo n) S H (intsFrom lo n) Yes := fun i S1 H1 rS1 f1 _ => by
  refine ⟨fun hi => ?_, fun d hi => ?_⟩
  · rw [intsFrom_length] at hi
    exact Nat.le_of_eq hi.symm
  · have hl : i < n := by
      obtain ⟨q, _⟩ := List.getElem?_eq_some_iff.mp hi
      rwa [intsFrom_length] at q
    refine ⟨hl, fun x H2 hy => ?_⟩
    obtain ⟨rfl, rfl⟩ := hy
    have e1 : d = .int (lo + (i : Nat)) := by
      unfold intsFrom at hi
      rw [List.getElem?_map, List.getElem?_range hl] at hi
      exact (Option.some.inj hi).symm
    subst e1
    exact ⟨rfl, rS1, Frame.refl⟩
def dRng1 (ta : DTA) : DTI := fun ε S R => ta ε S fun ds S1 => ∃ j : Int, ds = [.int j] ∧ -(2 ^ 62) ≤ j ∧ j < 2 ^ 62 ∧ R (intsFrom 0 j.toNat) Yes S1
theorem di_range1 (hg : Gl X "range") (hm : X.mg "range" = none) (ha : DA X [a] ta) (hs : starEach [a] X.env = [(false, eval a X.env)] := by rfl) : DI X tg (.Call (.Name "range" p) [a] [] pos) (dRng1 ta) :=
  PI_imp (pi_range1 hg hm ha hs) fun σ H R ⟨ε, S, R0, rE, rS, q, k⟩ => ⟨ε, S, _, rE, rS, q, fun ds S1 vs H1 q1 den rS1 f1 => by
    obtain ⟨j, rfl, h1, h2, q1⟩ := q1
    obtain ⟨v, r, rfl, d1, d2⟩ := den.uncons
    cases (show v = .int j from d1)
    cases d2.nil_eq
    exact ⟨j, rfl, h1, h2, k _ Yes S1 H1 _ q1 rS1 f1 (yields_range 0 j.toNat)⟩⟩
def pairsFrom : Nat → List D → List D
  | _, [] => []
  | i, d :: ds => D.tup [.int (i : Nat), d] :: pairsFrom (i + 1) ds
theorem pairsFrom_get : ∀ (ds : List D) (k i : Nat), (pairsFrom k ds)[i]? = ds[i]?.map fun d => D.tup [.int ((k + i : Nat) : Int), d]
  | [], _, _ => by simp [pairsFrom]
  | d :: ds, k, 0 => by simp [pairsFrom]
  | d :: ds, k, i + 1 => by
    show (pairsFrom (k + 1) ds)[i]? = _
    rw [pairsFrom_get ds (k + 1) i, List.getElem?_cons_succ, show k + 1 + i = k + (i + 1) by omega]
theorem pairsFrom_length : ∀ (ds : List D) (k : Nat), (pairsFrom k ds).length = ds.length
  | [], _ => rfl
  | d :: ds, k => by
    show (pairsFrom (k + 1) ds).length + 1 = ds.length + 1
    rw [pairsFrom_length ds]
theorem den_pair {K : PySem.W.Frag} {S : SD} {H : Hp} {T : Addr} {o : Obj} {d e : D} {v u : V} (rS : RelS K H S) (po : PlainO o) (hT : H T = none) (h1 : Den K H d v) (h2 : Den K H e u) :
    Den K (upd H T (.frz o (.tup [v, u]))) (.tup [d, e]) (.ref T) ∧ RelS K (upd H T (.frz o (.tup [v, u]))) S ∧ Frame S H S (upd H T (.frz o (.tup [v, u]))) :=
  ⟨den_tup (.inl ⟨o, po, upd_same⟩) (DenL.cons (h1.frame rS (frame_new hT)) (DenL.one (h2.frame rS (frame_new hT)))), rS.frame_new hT, frame_new hT⟩
def dEnT (ta : DTA) : DTI := fun ε S R => ta ε S fun xs S1 => ∃ ds, xs = [.tup ds] ∧ R (pairsFrom 0 ds) Yes S1
theorem di_enT {tpos : Pos} {elts : List Expr} {kk : Nat} (hg : Gl X "enumerate") (hm : X.mg "enumerate" = none) (ha : DA X [e] ta) (hs : starEach [e] X.env = [(false, eval e X.env)] := by rfl) :
    DI X (.Tuple elts kk tpos) (.Call (.Name "enumerate" p) [e] [] pos) (dEnT ta) :=
  PI_imp (pi_enT hg hm ha hs) fun σ H R ⟨ε, S, R0, rE, rS, q, k⟩ => ⟨ε, S, _, rE, rS, q, fun xs S1 vs H1 q1 den rS1 f1 => by
    obtain ⟨ds, rfl, q1⟩ := q1
    obtain ⟨v, r, rfl, d1, d2⟩ := den.uncons
    cases d2.nil_eq
    obtain ⟨x, us, rfl, hst, hd⟩ := d1.untup
    refine ⟨x, us, rfl, hst.sq, k _ Yes S1 H1 _ q1 rS1 f1 fun i S2 H2 rS2 f2 _ => ?_⟩
    have hst2 := (plT_frame rS1 f2 hst).sq
    have hd2 := DenL.frame rS1 f2 ds us hd
    refine ⟨fun hi => ⟨us, hst2, by rw [hi, pairsFrom_length, hd2.length]⟩, fun d hi => ?_⟩
    rw [pairsFrom_get] at hi
    obtain ⟨y, hy, rfl⟩ := Option.map_eq_some_iff.mp hi
    obtain ⟨u, hu, du⟩ := hd2.get hy
    refine ⟨⟨us, u, hst2, hu⟩, fun z H3 hyld => ?_⟩
    obtain ⟨T, o, w, po, rfl, hT, rfl, hw⟩ := hyld
    have e1 := hw us hst2
    rw [hu] at e1
    cases e1
    rw [Nat.zero_add]
    exact den_pair rS2 po hT rfl du⟩
end
end DL

namespace DL
open PySem PySem.Spec PyProof.Rows L2
variable [Amb]

def wipeD (ε : ED) : List Nat → ED
  | [] => ε
  | v :: vs => (wipeD ε vs).set v none
theorem rel_wipe {K : PySem.W.Frag} {H : Hp} {σ : L2.St} {ε : ED} (r : RelE K H σ ε) : ∀ vs, RelE K H (wipe σ vs) (wipeD ε vs)
  | [] => r
  | v :: vs => by
    have h := rel_wipe r vs
    refine ⟨by show ((wipe σ vs).set v none).length = ((wipeD ε vs).set v none).length; rw [List.length_set, List.length_set]; exact h.1, fun i d hi => ?_⟩
    have hi : ((wipeD ε vs).set v none)[i]? = some (some d) := hi
    show ∃ u, ((wipe σ vs).set v none)[i]? = some (some u) ∧ _
    by_cases hv : v = i
    · subst hv
      rw [List.getElem?_set] at hi
      simp at hi
    · rw [List.getElem?_set_ne hv] at hi ⊢
      exact h.2 i d hi
def lcL (chk : SD → Prop) (g : DTG) (tt : DTT) (te : DTE) (vs : List Nat) : List D → List D → ED → SD → (List D → SD → Prop) → Prop
  | [], acc, _, S, Q => chk S ∧ Q acc S
  | x :: xs, acc, ε, S, Q => chk S ∧ g x (wipeD ε vs) S fun ε' S' => tt ε' S' fun b S2 => if b = true then te ε' S2 fun y S3 => lcL chk g tt te vs xs (acc ++ [y]) ε S3 Q else lcL chk g tt te vs xs acc ε S2 Q
def dLc (ti : DTI) (g : DTG) (tt : DTT) (te : DTE) (vs : List Nat) : DTA := fun ε S Q => ti ε S fun ds chk S1 => ds.length ≤ 1000000 ∧ lcL chk g tt te vs ds [] ε S1 Q
abbrev DTs (X : Cx) (ifs : List Expr) (t : DTT) : Prop := PTs X ifs (liftT X.K t)
def dYes : DTT := fun _ S Q => Q true S
section
variable {X : Cx}
theorem dts_nil : DTs X [] dYes := ⟨fun pins s σ H Q I ⟨ε, S, Q0, rE, rS, q, k⟩ => pts_nil.run pins s σ H Q I (k true S H q rS Frame.refl)⟩
theorem dts_one {c : Expr} {t : DTT} (h : DT X c t) : DTs X [c] t := pts_one h
theorem lc_step {K : PySem.W.Frag} {S : SD} {H : Hp} {p : Addr} {vs us : List V} {acc acc' : List D} (rS : RelS K H S) (hS : S p = none) (hp : H p = some (.lst vs)) (den : DenL K H acc vs) (dd : DenL K H acc' us) :
    RelS K (upd H p (.lst us)) S ∧ DenL K (upd H p (.lst us)) acc' us ∧ ∀ ε σ, RelE K H σ ε → RelE K (upd H p (.lst us)) σ ε := by
  have r1 : RelS K H (put S p (.lst acc)) := rel_adopt rS (cell_lst hp den)
  have f1 : Frame (put S p (.lst acc)) H (put (put S p (.lst acc)) p (.lst acc')) (upd H p (.lst us)) := frame_put put_same
  have d1 := DenL.frame r1 f1 acc' us dd
  have r2 : RelS K (upd H p (.lst us)) (put (put S p (.lst acc)) p (.lst acc')) := r1.put put_same (fun _ z => nomatch z) (cell_lst upd_same d1)
  refine ⟨r2.sub fun a c h => ?_, d1, fun ε σ r => r.frame r1 f1⟩
  have ha : a ≠ p := by
    rintro rfl
    rw [hS] at h
    cases h
  exact ⟨c, by rw [put_ne ha, put_ne ha]; exact h, Cell.le_refl c⟩
theorem frame_over {S S1 : SD} {H H1 : Hp} {p : Addr} {o : HO} (f : Frame S H S1 H1) (h : H p = none) : Frame S H S1 (upd H1 p o) :=
  ⟨fun a u e1 e2 n => let ⟨q1, q2⟩ := f.keep a u e1 e2 n; ⟨by rw [upd_ne (ne_of_none e2 h)]; exact q1, q2⟩, fun a e => f.there a (upd_there e)⟩
theorem lc_lift {K : PySem.W.Frag} {ti : DTI} {g : DTG} {tt : DTT} {te : DTE} {vs ws : List Nat} (hw : ∀ i ∈ ws, i ∈ vs) {σ : L2.St} {H : Hp} {Q : VK} (h : liftF K (dLc ti g tt te vs) σ H Q) :
    tLc (liftI K ti) (liftG K ws g) (liftT K tt) (liftE K te) vs σ H Q := by
  obtain ⟨ε, S, Q0, rE, rS, q, k⟩ := h
  refine ⟨ε, S, _, rE, rS, q, fun ds chk S1 H1 J q1 rS1 f1 Y => fun D hD => ?_⟩
  obtain ⟨hlen, q1⟩ := q1
  have hS1 : S1 D = none := rS1.free hD
  refine ⟨fun i m H2 => ∃ acc us S2, RelE K H2 σ ε ∧ RelS K H2 S2 ∧ Frame S1 H1 S2 H2 ∧ H2 D = some (.lst us) ∧ S2 D = none ∧ DenL K H2 acc us ∧ i + m = ds.length ∧ acc.length ≤ i ∧ lcL chk g tt te vs (ds.drop i) acc ε S2 Q0,
    ⟨ds.length, [], [], S1, (rE.frame rS f1).frame rS1 (frame_new hD), rS1.frame_new hD, frame_new hD, upd_same, hS1, DenL.nil, by omega, Nat.le_refl _, q1⟩, fun i m H2 hW => ?_⟩
  obtain ⟨acc, us, S2, rE2, rS2, f2, hD2, hS2, den, em, hl, q2⟩ := hW
  by_cases hi : i < ds.length
  · rw [List.drop_eq_getElem_cons hi] at q2
    obtain ⟨hc, q3⟩ := q2
    obtain ⟨_, hgo⟩ := Y i S2 H2 rS2 f2 hc
    obtain ⟨go, hy⟩ := hgo _ (List.getElem?_eq_getElem hi)
    refine .inr ⟨go, fun H3 => ∃ acc us S3, RelE K H3 σ ε ∧ RelS K H3 S3 ∧ Frame S1 H1 S3 H3 ∧ H3 D = some (.lst us) ∧ S3 D = none ∧ DenL K H3 acc us ∧ acc.length ≤ i + 1 ∧ lcL chk g tt te vs (ds.drop (i + 1)) acc ε S3 Q0, fun H3 h3 => ?_, fun x H3 hyld => ?_⟩
    · obtain ⟨a1, a2, a3, b1, b2, b3, b4, b5, b6, b7, b8⟩ := h3
      exact ⟨m - 1, by omega, a1, a2, a3, b1, b2, b3, b4, b5, b6, by omega, b7, b8⟩
    · obtain ⟨dx, rS3, f3⟩ := hy x H3 hyld
      have hD3 := (f3.keep D _ hS2 hD2 (fun _ z => nomatch z)).1
      have den3 := DenL.frame rS2 f3 acc us den
      have rE3 := rE2.frame rS2 f3
      refine ⟨ds[i], wipeD ε vs, S2, _, dx, rel_wipe rE3 vs, rS3, q3, fun ε4 S4 σ4 H4 q4 rE4 rS4 f4 w4 => ?_⟩
      have w5 : wipe σ4 vs = wipe σ vs := by
        have e1 := wipe_more w4 hw
        rw [e1]
        refine List.ext_getElem? fun j => ?_
        simp only [wipe_get, wipe_length]
        by_cases hj : j ∈ vs
        · simp only [if_pos hj]
        · simp only [if_neg hj]
      refine ⟨w5, ε4, S4, _, rE4, rS4, q4, fun b S5 H5 q5 rS5 f5 => ?_⟩
      have g5 : Frame S1 H1 S5 H5 := ((f2.trans f3).trans f4).trans f5
      have kD : H5 D = some (.lst us) ∧ S5 D = none := (f4.trans f5).keep D _ hS2 hD3 (fun _ z => nomatch z)
      have den5 := DenL.frame rS3 (f4.trans f5) acc us den3
      have rE5 := rE3.frame rS3 (f4.trans f5)
      cases b with
      | false => exact ⟨acc, us, S5, rE5, rS5, g5, kD.1, kD.2, den5, by omega, q5⟩
      | true =>
        refine ⟨ε4, S5, _, rE4.frame rS4 f5, rS5, q5, fun y S6 v H6 q6 dy rS6 f6 => ?_⟩
        have kD6 := f6.keep D _ kD.2 kD.1 (fun _ z => nomatch z)
        have den6 := DenL.frame rS5 f6 acc us den5
        refine ⟨us, kD6.1, by rw [den6.length]; exact Nat.lt_of_le_of_lt (Nat.le_trans hl (Nat.le_trans (Nat.le_of_lt hi) hlen)) (by decide), ?_⟩
        obtain ⟨z1, z2, z3⟩ := lc_step rS6 kD6.2 kD6.1 den6 (den6.app (DenL.one dy))
        exact ⟨acc ++ [y], us ++ [v], S6, z3 _ _ (rE5.frame rS5 f6), z1, frame_over (g5.trans f6) hD, upd_same, kD6.2, z2, by rw [List.length_append]; simp; omega, q6⟩
  · have e : ds.drop i = [] := List.drop_eq_nil_of_le (by omega)
    rw [e] at q2
    obtain ⟨hc, q3⟩ := q2
    obtain ⟨hstop, _⟩ := Y i S2 H2 rS2 f2 hc
    exact .inl ⟨hstop (by omega), k acc S2 D us H2 q3 (f1.there D hD) hS2 hD2 den rS2 (f1.trans f2)⟩
theorem df_lc {elt tg iter : Expr} {ifs : List Expr} {scope : Scope} {own : List (Str × Nat)} {pos : Pos} {ti : DTI} {g : DTG} {tt : DTT} {te : DTE} {ws : List Nat} (hc : X.calm = true) (hN : X.N.Nodup) (hi : DI X tg iter ti) (ok : BlkOk X.N X.env.scope scope own)
    (hg : ∀ (s : Shared) (H : Hp) (C : Addr) (cl : List (Str × Addr)) (fp : List Addr), DG (X.blk s H scope (compEnvC scope cl C X.env) fp) tg ws g) (ht : ∀ (s : Shared) (H : Hp) (C : Addr) (cl : List (Str × Addr)) (fp : List Addr), DTs (X.blk s H scope (compEnvC scope cl C X.env) fp) ifs tt)
    (he : ∀ (s : Shared) (H : Hp) (C : Addr) (cl : List (Str × Addr)) (fp : List Addr), DE (X.blk s H scope (compEnvC scope cl C X.env) fp) elt te) (hw : ∀ i ∈ ws, i ∈ own.map (·.2) := by decide) (hs : ∀ x, foldedSetIterable iter X.env x = pure x := by intro _; rfl) :
    DF X (.ListComp elt [⟨tg, iter, ifs, 0⟩] scope pos) (dLc ti g tt te (own.map (·.2))) :=
  PE_imp (pe_lc hc hN hi ok hg ht he hs) fun σ H Q => lc_lift hw
theorem ds_setLc {i : Nat} {y : Str} {py : Pos} {elt tg iter : Expr} {ifs : List Expr} {scope : Scope} {own : List (Str × Nat)} {pos spos : Pos} {ti : DTI} {g : DTG} {tt : DTT} {te : DTE} {ws : List Nat} (hc : X.calm = true) (hN : X.N.Nodup) (hy : X.N[i]? = some y) (hyl : X.env.scope.names.lookup y = some .local)
    (hsw : swapsWith (.ListComp elt [⟨tg, iter, ifs, 0⟩] scope pos) (some (.Name y py)) spos.line X.env = pure true) (hi : DI X tg iter ti) (ok : BlkOk X.N X.env.scope scope own)
    (hg : ∀ (s : Shared) (H : Hp) (C : Addr) (cl : List (Str × Addr)) (fp : List Addr), DG (X.blk s H scope (compEnvC scope cl C X.env) fp) tg ws g) (ht : ∀ (s : Shared) (H : Hp) (C : Addr) (cl : List (Str × Addr)) (fp : List Addr), DTs (X.blk s H scope (compEnvC scope cl C X.env) fp) ifs tt)
    (he : ∀ (s : Shared) (H : Hp) (C : Addr) (cl : List (Str × Addr)) (fp : List Addr), DE (X.blk s H scope (compEnvC scope cl C X.env) fp) elt te) (hw : ∀ i ∈ ws, i ∈ own.map (·.2) := by decide) (hs : ∀ x, foldedSetIterable iter X.env x = pure x := by intro _; rfl) :
    DS X (.Assign [.Name y py] (.ListComp elt [⟨tg, iter, ifs, 0⟩] scope pos) spos) (dSet i (dNew (dLc ti g tt te (own.map (·.2))))) :=
  PS_imp (ps_setLc hc hN hy hyl hsw hi ok hg ht he hs) fun Ds σ H ⟨ε, S, D0, rE, rS, q, k⟩ =>
    lc_lift (K := X.K) hw (Q := fun x H1 => gName i x σ H1 Ds.nx) ⟨ε, S, _, rE, rS, q, fun ds S1 a vs H1 q1 h0 hS hv den rS1 f1 => by
      have r2 := rel_adopt rS1 (cell_lst hv den)
      have f2 := frame_adopt (c := Cell.lst ds) f1 h0
      exact k.nx _ _ _ H1 (q1 a hS) ((rE.frame rS f2).set i rfl) r2 f2⟩
end
end DL

namespace DL
open PySem PySem.Spec PyProof.Rows L2
section
variable [Amb]

structure RoomG (k : Nat) (A : Around) : Prop where
  r : Room k A
  g : A.guards = some []
theorem RoomG.mono {j k : Nat} {A : Around} (h : RoomG k A) (l : j ≤ k) : RoomG j A := ⟨h.r.mono l, h.g⟩
theorem RoomG.deeper {k : Nat} {A : Around} (h : RoomG (k + 1) A) (env : Env) : RoomG k (A.deeper env) := ⟨h.r.deeper env, h.g⟩
theorem RoomG.hu {k : Nat} {A : Around} (h : RoomG k A) : A.units + 1 < cLine := hu_of h.r
theorem RoomG.u64 {k : Nat} {A : Around} (h : RoomG k A) : A.units + 64 < cLine := h.r.units
structure FnG (P : Program) (w : World) (K : PySem.W.Frag) (mg : Str → Option Value) (base : Heap) (CX : CXT) (k : Nat) (f : Addr) (fd : FuncData) (ps : List Str) (sp : Sp) : Prop where
  len : ∀ vs H Q E, sp vs H Q E → vs.length = ps.length
  run : ∀ (A : Around) (outer : List Env) (s : Shared) (H : Hp) (args : Args) (us : List Value) (vs : List V) (Q : VK) (E : XK), RoomG k A → Env0 P w K mg base A outer s H → BindsTo s fd args (ps.zip us) →
    Vals vs us → sp vs H Q E → codeAny (model P w) A (.call (.ref f) args) (CR CX outer P w H s Q E) s
abbrev DSp := List D → SD → DK → Prop
def liftSp (K : PySem.W.Frag) (sp : DSp) : Sp := fun vs H Q _ => ∃ ds S Q0, DenL K H ds vs ∧ RelS K H S ∧ sp ds S Q0 ∧ WkE K S H Q0 Q
abbrev FnD (P : Program) (w : World) (K : PySem.W.Frag) (mg : Str → Option Value) (base : Heap) (k : Nat) (f : Addr) (fd : FuncData) (ps : List Str) (sp : DSp) : Prop := FnG P w K mg base CX0 k f fd ps (liftSp K sp)
section
variable {P : Program} {w : World} {K : PySem.W.Frag} {mg : Str → Option Value} {base : Heap} {k : Nat} {f : Addr} {fd : FuncData} {ps : List Str}
theorem FnG.mono {CX : CXT} {sp : Sp} {j : Nat} (F : FnG P w K mg base CX j f fd ps sp) (h : j ≤ k) : FnG P w K mg base CX k f fd ps sp :=
  ⟨F.len, fun A outer s H args us vs Q E hr => F.run A outer s H args us vs Q E (hr.mono h)⟩
theorem FnD.imp {sp sp' : DSp} (F : FnD P w K mg base k f fd ps sp) (h : ∀ ds S Q, sp' ds S Q → sp ds S Q) : FnD P w K mg base k f fd ps sp' :=
  ⟨fun vs H Q E ⟨ds, S, Q0, a, b, c, d⟩ => F.len vs H Q E ⟨ds, S, Q0, a, b, h _ _ _ c, d⟩, fun A outer s H args us vs Q E hr e0 hb r ⟨ds, S, Q0, a, b, c, d⟩ => F.run A outer s H args us vs Q E hr e0 hb r ⟨ds, S, Q0, a, b, h _ _ _ c, d⟩⟩
end

section
variable {X : Cx} {CX : CXT} {k : Nat} {f : Addr} {fd : FuncData} {ps : List Str} {sp : Sp} {dvs : List V} {ds : List Value} {E : XK} {x : Str} {p pos : Pos} {e : Expr} {es : List Expr} {t : TA}
theorem runG {pins : List (Addr × Obj)} {σ : L2.St} {H : Hp} {s : Shared} {Q : VK} {us : List Value} {vs : List V} (F : FnG X.prog X.w X.K X.mg X.base CX k f fd ps sp) (hr : RoomG k X.A) (hb : Binds X.K fd ps ds) (hd : Vals dvs ds) (hx : Passes CX X E)
    (I : Inv X pins σ H s) (r : Vals vs us) (h : sp (vs ++ dvs) H Q E) : wpAny (model X.prog X.w) X.A (call (.ref f) us) (EP X pins σ Q) X.xe s := by
  have rr := Vals.append r hd
  have ln : (us ++ ds).length = ps.length := rr.length.symm.trans (F.len _ _ _ _ h)
  have go := F.run X.A X.stack s H ⟨us, []⟩ (us ++ ds) (vs ++ dvs) Q E hr I.env0 (hb s us I.kIn ln) rr h
  refine wpAny_call (codeAny_mono go fun z s' hz => ?_)
  match z, hz with
  | .error e, hz => exact hx pins σ H s e s' I hz
  | .ok (.ret u), hz => exact I.after hz
  | .ok .next, hz => exact hz.elim
  | .ok .brk, hz => exact hz.elim
  | .ok .cont, hz => exact hz.elim
theorem pe_callG (F : FnG X.prog X.w X.K X.mg X.base CX k f fd ps sp) (hr : RoomG k X.A) (hg : Gl X x) (hm : X.mg x = some (.ref f)) (hk : PySem.W.keepIn X.K (.ref f) = true) (hb : Binds X.K fd ps ds) (hd : Vals dvs ds) (hx : Passes CX X E)
    (ha : PA X (e :: es) t) (hdb : (x == ("__debug__" : Str)) = false := by decide) (he : starEach (e :: es) X.env = (false, eval e X.env) :: starEach es X.env := by rfl) (hpl : (backTo pos (starEach es X.env)).any (·.1) = false := by rfl) :
    PE X (.Call (.Name x p) (e :: es) [] pos) (tCall sp dvs E t) := by
  refine ⟨fun pins s σ H Q I h => wpAny_Call_Name_kw (ld_glob I hg hm ?_ hdb)⟩
  refine PySem.W.callWith_K (h₀ := X.base) I.ok.mod.kin hk (thn (ha.run pos pins s σ H _ I h) ?_) he hpl
  rintro us s1 ⟨vs, H1, I1, r, q⟩
  exact ⟨I1.kIn, runG F hr hb hd hx I1 r q⟩
end
def dCall (sp : DSp) (ta : DTA) : DTE := fun ε S Q => ta ε S fun ds S1 => sp ds S1 Q
section
variable {X : Cx} {k : Nat} {f : Addr} {fd : FuncData} {ps : List Str} {sp : DSp} {x : Str} {p pos : Pos} {e : Expr} {es : List Expr} {ta : DTA}
theorem de_call (F : FnD X.prog X.w X.K X.mg X.base k f fd ps sp) (hr : RoomG k X.A) (hg : Gl X x) (hm : X.mg x = some (.ref f)) (hk : PySem.W.keepIn X.K (.ref f) = true) (hb : Binds X.K fd ps []) (ha : DA X (e :: es) ta)
    (hdb : (x == ("__debug__" : Str)) = false := by decide) (he : starEach (e :: es) X.env = (false, eval e X.env) :: starEach es X.env := by rfl) (hpl : (backTo pos (starEach es X.env)).any (·.1) = false := by rfl) :
    DE X (.Call (.Name x p) (e :: es) [] pos) (dCall sp ta) :=
  PE_imp (pe_callG F hr hg hm hk hb .nil pass0 ha hdb he hpl) fun σ H Q ⟨ε, S, Q0, rE, rS, q, k⟩ => ⟨ε, S, _, rE, rS, q, fun ds S1 vs H1 q1 den rS1 f1 =>
    ⟨ds, S1, Q0, by rw [List.append_nil]; exact den, rS1, q1, k.frame f1⟩⟩
end

def startD (N : List Str) (ds : List D) : ED := ds.map some ++ List.replicate (N.length - ds.length) none
def Lets (Q : DK) : DK := fun d S => ∃ S', Sub S' S ∧ Q d S'
theorem Lets.of {Q : DK} {d : D} {S : SD} (h : Q d S) : Lets Q d S := ⟨S, Sub.refl, h⟩
def endsD (Q : DK) : DEnds := { nx := fun _ S => Lets Q .non S, rt := Lets Q }
theorem rel_start {K : PySem.W.Frag} {H : Hp} {N : List Str} {ds : List D} {vs : List V} (h : DenL K H ds vs) : RelE K H (L2.start N vs) (startD N ds) := by
  have hl := h.length
  refine ⟨?_, fun i d hi => ?_⟩
  · unfold L2.start startD
    rw [List.length_append, List.length_append, List.length_map, List.length_map, List.length_replicate, List.length_replicate, hl]
  · unfold startD at hi
    by_cases hk : i < ds.length
    · rw [List.getElem?_append_left (by simpa using hk), List.getElem?_map] at hi
      obtain ⟨d', e1, e2⟩ := Option.map_eq_some_iff.mp hi
      cases e2
      obtain ⟨v, e3, den⟩ := h.get e1
      refine ⟨v, ?_, den⟩
      unfold L2.start
      rw [List.getElem?_append_left (by rw [List.length_map, hl]; exact hk), List.getElem?_map, e3]
      rfl
    · rw [List.getElem?_append_right (by rw [List.length_map]; omega), List.getElem?_replicate] at hi
      split at hi <;> cases hi
section
variable {P : Program} {w : World} {K : PySem.W.Frag} {mg : Str → Option Value} {base : Heap}
theorem fnG_of {CX : CXT} {k : Nat} {f : Addr} {name qual : Str} {params : Arguments} {body : List Stmt} {scope : Scope} {dV kV doc pm cdv ct oc : Value} {an od : Option Addr} {osl : Array (Option Value)} {N ps : List Str} {sp : Sp}
    (lk : K.lookup f = some ⟨oc, od, .func (PySem.W.fnOf name qual params body scope dV kV doc pm an cdv ct), osl⟩) (hcd : PySem.W.codeIn K cdv qual = true) (S : FnScope N ps scope) (len : ∀ vs H Q E, sp vs H Q E → vs.length = ps.length)
    (hbody : ∀ (A : Around) (outer : List Env) (s : Shared) (H : Hp) (vs : List V) (Q : VK) (E : XK), RoomG k (A.deeper (envOfC qual scope s.heap.objs.size f cdv)) → sp vs H Q E →
      ∃ t, PSs (cxOf CX P w K mg base N qual scope f cdv A outer s H E) body t ∧ t { nx := fun _ H' => Q .non H', rt := Q } (L2.start N vs) H) :
    FnG P w K mg base CX (k + 1) f (PySem.W.fnOf name qual params body scope dV kV doc pm an cdv ct) ps sp := by
  refine ⟨len, fun A outer s H args us vs Q E hr e0 hb r hsp => ?_⟩
  have ln : vs.length = ps.length := len _ _ _ _ hsp
  have inK : K.In s.heap := e0.mod.kin.keeps fun b o q => (e0.bs b o q).1
  have lim : s.heap.NoLimit := e0.mod.nolimit.keeps fun b o q => (e0.bs b o q).1
  refine codeAny_call_function hr.r.depth (inK _ _ lk) rfl S.co S.gen rfl (PySem.W.codeRec_of inK hcd) (hb _ _ _ _ ?_)
  refine wpAny_newFunctionEnv_cells S.kind ?_ ?_
  · rintro ⟨n, v⟩ hy
    rcases S.par n (List.of_mem_zip hy).1 with q | q
    · exact .inl q
    · exact .inr ⟨q, PySem.W.cellsFrom_some _ _ _ (.inl q)⟩
  intro env he s1 x
  subst he
  refine ⟨lim.keeps x.toInCall.keep, codeAny_func ?_⟩
  obtain ⟨t, ht, hq⟩ := hbody A outer s H vs Q E (hr.deeper _) hsp
  have I := inv_start (CX := CX) (E := E) (mg := mg) (base := base) S hr.r.hd e0 ln r x
  refine wpAny_mono (ht.run [] s1 (L2.start N vs) H _ I hq) (fun fl s' hs => ?_) fun _ _ z => z
  match fl, hs with
  | .ret u, ⟨v, σ', H', J, rv, q⟩ => exact ⟨v, H', J.os, J.bare, J.base, J.hok, rv, q⟩
  | .next, ⟨σ', H', J, q⟩ => exact ⟨V.non, H', J.os, J.bare, J.base, J.hok, rfl, q⟩
  | .brk, ⟨_, _, _, q⟩ => exact q.elim
  | .cont, ⟨_, _, _, q⟩ => exact q.elim
theorem fnD {x qual : Str} {st : Stmt} {f : Addr} {fd : FuncData} {N ps : List Str} {k : Nat} {sp : DSp} (F : Fun K x qual st f fd) (S : FnScope N ps (defScope st)) (len : ∀ ds S Q, sp ds S Q → ds.length = ps.length) (t : DTS)
    (hbody : ∀ (cdv : Value) (A : Around) (outer : List Env) (s : Shared) (H : Hp) (E : XK), RoomG k (A.deeper (envOfC qual (defScope st) s.heap.objs.size f cdv)) → DSs (cxOf CX0 P w K mg base N qual (defScope st) f cdv A outer s H E).nox (defBody st) t)
    (hsp : ∀ ds S Q, sp ds S Q → t (endsD Q) (startD N ds) S) : FnD P w K mg base (k + 1) f fd ps sp := by
  obtain ⟨oc, od, kV, doc, pm, an, cdv, ct, osl, rfl, lk, hcd⟩ := F.ex
  refine fnG_of lk hcd S (fun vs H Q E ⟨ds, S1, Q0, a, _, c, _⟩ => by rw [a.length]; exact len ds S1 Q0 c) fun A outer s H vs Q E hr h => ?_
  obtain ⟨ds, S1, Q0, den, rS, c, wk⟩ := h
  refine ⟨_, PSs.nox (hbody cdv A outer s H E hr), startD N ds, S1, endsD Q0, rel_start den, rS, hsp ds S1 Q0 c, ?_⟩
  refine ⟨fun ε' S' σ' H' q _ r f => ?_, fun d S' v H' q dd r f => ?_, fun _ _ _ _ q => q.elim, fun _ _ _ _ q => q.elim⟩
  · obtain ⟨S3, sub, q⟩ := q
    exact wk .non S3 .non H' q rfl (r.sub sub) (f.sub sub)
  · obtain ⟨S3, sub, q⟩ := q
    exact wk d S3 v H' q dd (r.sub sub) (f.sub sub)
end

end
section
end
end DL

namespace DL
open PySem PySem.Spec PyProof.Rows L2
variable [Amb]

section
variable {X : Cx}
theorem OpR_or {f : Value → Value → Sem Value} {r r' : R2D} (h : DOp X f r) (h' : DOp X f r') : DOp X f (fun x y S Q => r x y S Q ∨ r' x y S Q) := by
  intro pins s σ H x y v u Q I rx ry ⟨d, e, S, Q0, d1, d2, rS, q, k⟩
  rcases q with q | q
  · exact h pins s σ H x y v u Q I rx ry ⟨d, e, S, Q0, d1, d2, rS, q, k⟩
  · exact h' pins s σ H x y v u Q I rx ry ⟨d, e, S, Q0, d1, d2, rS, q, k⟩
def rII (C : Int → Int → Prop) (g : Int → Int → D) : R2D := fun x y S Q => ∃ i j, x = .int i ∧ y = .int j ∧ C i j ∧ Q (g i j) S
def rIi (g : Int → Int → D) : R2D := fun x y S Q => ∃ i j, x = .int i ∧ y = .int j ∧ Q (g i j) S
theorem dop_II {f : Value → Value → Sem Value} {C : Int → Int → Prop} {g : Int → Int → V} {g' : Int → Int → D} (h : OpR X f (rI C g)) (hg : ∀ H i j, Den X.K H (g' i j) (g i j)) : DOp X f (rII C g') :=
  OpR_imp h fun x y H Q ⟨d, e, S, Q0, d1, d2, rS, ⟨i, j, e1, e2, c, q⟩, k⟩ => by
    subst e1 e2
    exact ⟨i, j, d1, d2, c, k _ S _ H q (hg H i j) rS Frame.refl⟩
theorem dop_Ii {f : Value → Value → Sem Value} {g : Int → Int → V} {g' : Int → Int → D} (h : OpR X f (rI0 g)) (hg : ∀ H i j, Den X.K H (g' i j) (g i j)) : DOp X f (rIi g') :=
  OpR_imp h fun x y H Q ⟨d, e, S, Q0, d1, d2, rS, ⟨i, j, e1, e2, q⟩, k⟩ => by
    subst e1 e2
    exact ⟨i, j, d1, d2, k _ S _ H q (hg H i j) rS Frame.refl⟩
theorem dop_addI : DOp X (binaryOp .Add) (rIi fun i j => .int (i + j)) := dop_Ii op_add fun _ _ _ => rfl
theorem dop_sub : DOp X (binaryOp .Sub) (rIi fun i j => .int (i - j)) := dop_Ii op_sub fun _ _ _ => rfl
theorem dop_mulI : DOp X (binaryOp .Mult) (rII CMulW fun i j => .int (i * j)) := dop_II op_mulW fun _ _ _ => rfl
theorem dop_fdiv : DOp X (binaryOp .FloorDiv) (rII CDivW fun i j => .int (i / j)) := dop_II op_fdivW fun _ _ _ => rfl
theorem dop_mod : DOp X (binaryOp .Mod) (rII (fun _ j => 0 < j) fun i j => .int (i % j)) := dop_II op_mod fun _ _ _ => rfl
theorem dop_pow : DOp X (binaryOp .Pow) (rII CPow fun i j => .int (i ^ j.toNat)) := dop_II op_pow fun _ _ _ => rfl
theorem dop_lt : DOp X (compareOp .Lt) (rIi fun i j => .bl (decide (i < j))) := dop_Ii op_lt fun _ _ _ => rfl
theorem dop_le : DOp X (compareOp .LtE) (rIi fun i j => .bl (decide (i ≤ j))) := dop_Ii op_le fun _ _ _ => rfl
theorem dop_gt : DOp X (compareOp .Gt) (rIi fun i j => .bl (decide (j < i))) := dop_Ii op_gt fun _ _ _ => rfl
theorem dop_ge : DOp X (compareOp .GtE) (rIi fun i j => .bl (decide (j ≤ i))) := dop_Ii op_ge fun _ _ _ => rfl
def dNeg (ta : DTE) : DTE := fun ε S Q => ta ε S fun x S1 => ∃ i, x = .int i ∧ Q (.int (-i)) S1
theorem de_neg {a : Expr} {ta : DTE} {pos : Pos} (ha : DE X a ta) : DE X (.UnaryOp .USub a pos) (dNeg ta) :=
  PE_imp (pe_un un_neg ha) fun σ H Q ⟨ε, S, Q0, rE, rS, q, k⟩ => ⟨ε, S, _, rE, rS, q, fun d S1 v H1 q1 den rS1 f1 => by
    obtain ⟨i, rfl, q2⟩ := q1
    exact ⟨i, den, k _ S1 _ H1 q2 rfl rS1 f1⟩⟩
def rAddS : R2D := fun x y S Q => ∃ a b, x = .str a ∧ y = .str b ∧ a.length + b.length ≤ 1000000 ∧ Q (.str (a ++ b)) S
def rAddT : R2D := fun x y S Q => ∃ a b, x = .tup a ∧ y = .tup b ∧ a.length + b.length ≤ 1000000 ∧ Q (.tup (a ++ b)) S
theorem million {n : Nat} (h : n ≤ 1000000) : n ≤ sizeLine := Nat.le_trans h (by decide)
theorem dop_addS : DOp X (binaryOp .Add) rAddS :=
  OpR_imp op_add_str fun x y H Q ⟨d, e, S, Q0, d1, d2, rS, ⟨a, b, e1, e2, c, q⟩, k⟩ => by
    subst e1 e2
    exact ⟨a, b, d1, d2, million c, k _ S _ H q rfl rS Frame.refl⟩
def rCatF (K : PySem.W.Frag) : R2 := fun x y H Q => ∃ a b xs ys, x = .ref a ∧ y = .ref b ∧ SqT K H a xs ∧ SqT K H b ys ∧ xs.length + ys.length ≤ sizeLine ∧
  (xs = [] → Q (.ref b) H) ∧ (ys = [] → Q (.ref a) H) ∧ newT H (xs ++ ys) Q
theorem op_catF : OpR X (binaryOp .Add) (rCatF X.K) := by
  intro pins s σ H x y v u Q I rx ry ⟨a, b, xs, ys, e1, e2, ha, hb, hz, q0, q1, q2⟩
  subst e1 e2
  cases rx
  cases ry
  obtain ⟨its, r1, p1, _⟩ := I.tuple ha
  obtain ⟨its2, r2, p2, _⟩ := I.tuple hb
  by_cases hx : xs = []
  · subst hx
    cases r1
    exact cat_tup0 p1 p2 ⟨.ref b, H, I, rfl, q0 rfl⟩
  · refine HT.cat_tup p1 p2 (fun z => hx (r1.nil_iff.mp z)) (fun z => ⟨.ref a, H, I, rfl, q1 (r2.nil_iff.mp z)⟩) (fun z => ?_) (by rw [← r1.length, ← r2.length]; exact hz)
    exact ep_newT (t' := s.toks) I (r1.append r2) (by rw [List.length_append]; exact hz) q2
theorem dop_addT : DOp X (binaryOp .Add) rAddT :=
  OpR_imp op_catF fun x y H Q ⟨d, e, S, Q0, d1, d2, rS, ⟨a, b, e1, e2, c, q⟩, k⟩ => by
    subst e1 e2
    obtain ⟨p, xs, rfl, h1, g1⟩ := d1.untup
    obtain ⟨p', ys, rfl, h2, g2⟩ := d2.untup
    refine ⟨p, p', xs, ys, rfl, rfl, h1.sq, h2.sq, by rw [g1.length, g2.length]; exact million c, fun z => ?_, fun z => ?_, k.newTup rS (g1.app g2) q⟩
    · subst z
      have e : a = [] := List.length_eq_zero_iff.mp g1.length.symm
      subst e
      exact k _ S _ H q (den_tup h2 g2) rS Frame.refl
    · subst z
      have e : b = [] := List.length_eq_zero_iff.mp g2.length.symm
      subst e
      rw [List.append_nil] at q
      exact k _ S _ H q (den_tup h1 g1) rS Frame.refl
def rAdd : R2D := fun x y S Q => rIi (fun i j => .int (i + j)) x y S Q ∨ rAddS x y S Q ∨ rAddT x y S Q
theorem dop_add : DOp X (binaryOp .Add) rAdd := OpR_or dop_addI (OpR_or dop_addS dop_addT)
theorem rep_size (c : Array Nat) : ∀ (n : Nat) (acc : Array Nat), ((List.replicate n c).foldl (· ++ ·) acc).size = acc.size + n * c.size
  | 0, acc => by simp
  | n + 1, acc => by
    rw [List.replicate_succ, List.foldl_cons, rep_size c n, Array.size_append, Nat.add_mul]
    omega
def strMul (x : Str) (n : Int) : Str := if n < 1 then Str.empty else ⟨(List.replicate n.toNat x.cps).foldl (· ++ ·) #[]⟩
def rMulS : R2D := fun x y S Q => ∃ a i, x = .str a ∧ y = .int i ∧ -1000 ≤ i ∧ i ≤ 1000 ∧ a.length ≤ 1000 ∧ Q (.str (strMul a i)) S
theorem dop_mulS : DOp X (binaryOp .Mult) rMulS := by
  intro pins s σ H x y v u Q I rx ry ⟨d, e, S, Q0, d1, d2, rS, ⟨a, i, e1, e2, h1, h2, h3, q⟩, k⟩
  subst e1 e2
  cases (show x = .str a from d1)
  cases (show y = .int i from d2)
  obtain ⟨t, rfl⟩ := rx
  obtain ⟨t', rfl⟩ := ry
  have fin : ∀ z : Str, z = strMul a i → ∀ (t2 : Tok) (n : Nat), EP X pins σ Q (.str z t2) { s with toks := n } := by
    rintro z rfl t2 n
    exact ⟨.str (strMul a i), H, I.tok _, ⟨t2, rfl⟩, k _ S _ H q rfl rS Frame.refl⟩
  have sz : a.length * i.toNat ≤ 1000000 := by
    have := Nat.mul_le_mul h3 (show i.toNat ≤ 1000 by omega)
    exact this
  refine PySem.P.mul_str (by rw [decide_eq_false (by omega), decide_eq_false (by omega)]; rfl) (fun hn _ hgt => ?_) (fun hn _ => ?_) ?_
  · have : (1000 : Int) ≤ (2 ^ 63 - 1) / i := by
      rw [Int.le_ediv_iff_mul_le (by omega)]
      omega
    omega
  · unfold Builtin.Str.tooLong
    have := million sz
    simp
    omega
  · by_cases hn : i < 1
    · rw [if_pos hn]
      refine ⟨by decide, ?_⟩
      exact fin _ (by unfold strMul; rw [if_pos hn]) _ _
    · rw [if_neg hn]
      split
      · rename_i hc
        have hz : a = strMul a i := by
          unfold strMul
          rw [if_neg hn]
          rw [Bool.or_eq_true] at hc
          rcases hc with hc | hc
          · have : i = 1 := by simpa using hc
            subst this
            cases a
            simp
          · have hl : a.length = 0 := by simpa using hc
            have ha : a.cps = #[] := Array.eq_empty_of_size_eq_zero hl
            have all : ∀ n : Nat, (List.replicate n a.cps).foldl (· ++ ·) #[] = #[] := by
              intro n
              rw [ha]
              induction n with
              | zero => rfl
              | succ n ih => simpa [List.replicate_succ] using ih
            rw [all]
            cases a
            simp at ha
            rw [ha]
        have := fin a hz t s.toks
        exact this
      · refine ⟨?_, ?_⟩
        · show ((List.replicate i.toNat a.cps).foldl (· ++ ·) #[]).size ≤ sizeLine
          rw [rep_size]
          have e : a.cps.size = a.length := rfl
          rw [e, Nat.mul_comm]
          exact million (by simpa using sz)
        · exact fin _ (by unfold strMul; rw [if_neg hn]) _ _

mutual
def D.py : D → PyData
  | .non => .none
  | .bl b => .bool b
  | .int i => .int i
  | .str x => .str x
  | .ty _ => .none
  | .ref _ => .none
  | .tup ds => .tuple (pys ds)
  | .ilst ds => .list (pys ds)
  | .fdic _ _ => .none
def pys : List D → List PyData
  | [] => []
  | d :: ds => d.py :: pys ds
end
mutual
/-- no reference within -/
def D.plain : D → Bool
  | .non => true
  | .bl _ => true
  | .int _ => true
  | .str _ => true
  | .ty _ => false
  | .ref _ => false
  | .tup ds => plainL ds
  | .ilst ds => plainL ds
  | .fdic _ _ => false
def plainL : List D → Bool
  | [] => true
  | d :: ds => d.plain && plainL ds
end
mutual
theorem Den.dp {K : PySem.W.Frag} {H : Hp} : ∀ (d : D) (v : V), Den K H d v → d.plain = true → Dp K H v d.py
  | .non, _, h, _ => by
    cases (show _ = V.non from h)
    exact .non
  | .bl b, _, h, _ => by
    cases (show _ = V.bl b from h)
    exact .bl b
  | .int b, _, h, _ => by
    cases (show _ = V.int b from h)
    exact .int b
  | .str b, _, h, _ => by
    cases (show _ = V.str b from h)
    exact .str b
  | .tup ds, _, h, p => by
    obtain ⟨a, vs, rfl, h1, h2⟩ := h.untup
    exact .tup h1.sq (DenL.dp ds vs h2 p)
  | .ilst ds, _, h, p => by
    obtain ⟨a, vs, rfl, h1, h2⟩ := h.unilst
    exact .lst h1.sq (DenL.dp ds vs h2 p)
  | .fdic _ _, _, _, p => nomatch p
  | .ty _, _, _, p => nomatch p
  | .ref _, _, _, p => nomatch p
theorem DenL.dp {K : PySem.W.Frag} {H : Hp} : ∀ (ds : List D) (vs : List V), DenL K H ds vs → plainL ds = true → DpAll K H vs (pys ds)
  | [], _, h, _ => by
    cases h.nil_eq
    exact .nil
  | d :: ds, _, h, p => by
    obtain ⟨v, w, rfl, h1, h2⟩ := h.uncons
    have p' : (d.plain && plainL ds) = true := p
    rw [Bool.and_eq_true] at p'
    exact .cons (Den.dp d v h1 p'.1) (DenL.dp ds w h2 p'.2)
end
def toP (S : SD) (x : D) (a : PyData) : Prop := (x.plain = true ∧ a = x.py) ∨ ∃ p ds, x = .ref p ∧ S p = some (.lst ds) ∧ plainL ds = true ∧ a = .list (pys ds)
theorem toP_dp {K : PySem.W.Frag} {H : Hp} {S : SD} {x : D} {v : V} {a : PyData} (rS : RelS K H S) (d : Den K H x v) (h : toP S x a) : Dp K H v a := by
  rcases h with ⟨p, rfl⟩ | ⟨p, ds, rfl, h1, h2, rfl⟩
  · exact Den.dp x v d p
  · cases (show v = .ref p from d)
    obtain ⟨vs, e1, e2⟩ := rS.lst h1
    exact .lst (SqL.of e1) (DenL.dp ds vs e2 h2)
def rEqS (neg : Bool) : R2D := fun x y S Q => ∃ a b, x = .str a ∧ y = .str b ∧ Q (.bl (if neg then !decide (a = b) else decide (a = b))) S
theorem dec_str {a b : Str} : decide (V.str a = V.str b) = decide (a = b) := by
  by_cases h : a = b
  · subst h; simp
  · rw [decide_eq_false h, decide_eq_false fun z => h (V.str.inj z)]
theorem dop_eqS : DOp X (compareOp .Eq) (rEqS false) :=
  OpR_imp op_eq fun x y H Q ⟨d, e, S, Q0, d1, d2, rS, ⟨a, b, e1, e2, q⟩, k⟩ => by
    subst e1 e2
    cases (show x = .str a from d1)
    cases (show y = .str b from d2)
    exact ⟨rfl, by rw [dec_str]; exact k _ S _ H q rfl rS Frame.refl⟩
theorem dop_neS : DOp X (compareOp .NotEq) (rEqS true) :=
  OpR_imp op_ne fun x y H Q ⟨d, e, S, Q0, d1, d2, rS, ⟨a, b, e1, e2, q⟩, k⟩ => by
    subst e1 e2
    cases (show x = .str a from d1)
    cases (show y = .str b from d2)
    exact ⟨rfl, by rw [dec_str]; exact k _ S _ H q rfl rS Frame.refl⟩
theorem DOp_imp {f : Value → Value → Sem Value} {r r' : R2D} (h : DOp X f r) (i : ∀ x y S Q, r' x y S Q → r x y S Q) : DOp X f r' :=
  OpR_imp h fun x y H Q ⟨d, e, S, Q0, d1, d2, rS, q, k⟩ => ⟨d, e, S, Q0, d1, d2, rS, i _ _ _ _ q, k⟩
def flatD : D → Bool
  | .non => true
  | .bl _ => true
  | .int _ => true
  | .str _ => true
  | _ => false
def vOf : D → V
  | .non => .non
  | .bl b => .bl b
  | .int i => .int i
  | .str x => .str x
  | .ty n => .ty n
  | .ref a => .ref a
  | _ => .non
theorem den_flat {K : PySem.W.Frag} {H : Hp} {d : D} {v : V} (h : Den K H d v) (f : flatD d = true) : v = vOf d ∧ flatV v = true := by
  cases d with
  | non => cases (show v = .non from h); exact ⟨rfl, rfl⟩
  | bl b => cases (show v = .bl b from h); exact ⟨rfl, rfl⟩
  | int b => cases (show v = .int b from h); exact ⟨rfl, rfl⟩
  | str b => cases (show v = .str b from h); exact ⟨rfl, rfl⟩
  | _ => cases f
theorem denL_flat {K : PySem.W.Frag} {H : Hp} : ∀ {ds : List D} {vs : List V}, DenL K H ds vs → ds.all flatD = true → vs = ds.map vOf ∧ vs.all flatV = true
  | [], _, h, _ => by
    cases h.nil_eq
    exact ⟨rfl, rfl⟩
  | d :: ds, _, h, f => by
    obtain ⟨v, w, rfl, h1, h2⟩ := h.uncons
    rw [List.all_cons, Bool.and_eq_true] at f
    obtain ⟨e1, f1⟩ := den_flat h1 f.1
    obtain ⟨e2, f2⟩ := denL_flat h2 f.2
    subst e1 e2
    exact ⟨rfl, by rw [List.all_cons, f1, f2]; rfl⟩
def inD (x : D) (ds : List D) : Bool := ds.any fun d => eqV (vOf d) (vOf x)
theorem inD_eq (x : D) (ds : List D) : inV (vOf x) (ds.map vOf) = inD x ds := by
  unfold inV inD
  rw [List.any_map]
  rfl
def itemsIn (S : SD) (y : D) (ds : List D) : Prop := y = .tup ds ∨ y = .ilst ds ∨ ∃ p, y = .ref p ∧ S p = some (.lst ds)
theorem itemsIn_sq {K : PySem.W.Frag} {H : Hp} {S : SD} {y : D} {ds : List D} {v : V} (rS : RelS K H S) (d : Den K H y v) (h : itemsIn S y ds) : ∃ p vs, v = .ref p ∧ (SqL K H p vs ∨ SqT K H p vs) ∧ DenL K H ds vs := by
  rcases h with rfl | rfl | ⟨p, rfl, h⟩
  · obtain ⟨a, vs, rfl, h1, h2⟩ := d.untup
    exact ⟨a, vs, rfl, .inr h1.sq, h2⟩
  · obtain ⟨a, vs, rfl, h1, h2⟩ := d.unilst
    exact ⟨a, vs, rfl, .inl h1.sq, h2⟩
  · cases (show v = .ref p from d)
    obtain ⟨vs, e1, e2⟩ := rS.lst h
    exact ⟨p, vs, rfl, .inl (SqL.of e1), e2⟩
def rInD (neg : Bool) : R2D := fun x y S Q => ∃ ds, itemsIn S y ds ∧ flatD x = true ∧ ds.all flatD = true ∧ Q (.bl (if neg then !inD x ds else inD x ds)) S
theorem rInD_lift {K : PySem.W.Frag} {neg : Bool} {x y : V} {H : Hp} {Q : VK} (h : lift2 K (DL.rInD neg) x y H Q) : rIn K neg x y H Q := by
  obtain ⟨d, e, S, Q0, d1, d2, rS, ⟨ds, hi, f1, f2, q⟩, k⟩ := h
  obtain ⟨p, vs, rfl, hs, den⟩ := itemsIn_sq rS d2 hi
  obtain ⟨e1, g1⟩ := den_flat d1 f1
  obtain ⟨e2, g2⟩ := denL_flat den f2
  subst e1 e2
  exact ⟨p, _, rfl, hs, g1, g2, by rw [inD_eq]; exact k _ S _ H q rfl rS Frame.refl⟩
theorem dop_notIn : DOp X (compareOp .NotIn) (DL.rInD true) := OpR_imp op_notIn_seq fun _ _ _ _ => rInD_lift

def rIxD : R2D := fun x y S Q => match x, y with
  | .tup ds, .int i => ∃ d, atI ds i = some d ∧ Q d S
  | .ilst ds, .int i => ∃ d, atI ds i = some d ∧ Q d S
  | .ref p, .int i => ∃ ds, S p = some (.lst ds) ∧ ∃ d, atI ds i = some d ∧ Q d S
  | .str z, .int i => z.length ≤ 1000000 ∧ ∃ c, atI z.cps.toList i = some c ∧ Q (.str ⟨#[c]⟩) S
  | _, _ => False
theorem atI_den {K : PySem.W.Frag} {H : Hp} {ds : List D} {vs : List V} {i : Int} {d : D} (h : DenL K H ds vs) (e : atI ds i = some d) : ∃ v, atI vs i = some v ∧ Den K H d v := by
  unfold atI at e ⊢
  rw [h.length]
  cases q : ixN ds.length i with
  | none => rw [q] at e; cases e
  | some j =>
    rw [q] at e
    exact h.get e
theorem rIxD_lift {K : PySem.W.Frag} {x y : V} {H : Hp} {Q : VK} (h : lift2 K rIxD x y H Q) : rIx K x y H Q := by
  obtain ⟨d, e, S, Q0, d1, d2, rS, q, k⟩ := h
  unfold rIxD at q
  split at q
  · obtain ⟨d, hi, q⟩ := q
    obtain ⟨a, vs, rfl, h1, h2⟩ := d1.untup
    obtain ⟨v, e1, e2⟩ := atI_den h2 hi
    exact .inr (.inl ⟨a, vs, _, v, rfl, d2, h1.sq, e1, k _ S _ H q e2 rS Frame.refl⟩)
  · obtain ⟨d, hi, q⟩ := q
    obtain ⟨a, vs, rfl, h1, h2⟩ := d1.unilst
    obtain ⟨v, e1, e2⟩ := atI_den h2 hi
    exact .inl ⟨a, vs, _, v, rfl, d2, h1.sq, e1, k _ S _ H q e2 rS Frame.refl⟩
  · rename_i p i
    obtain ⟨ds, hp, d, hi, q⟩ := q
    obtain ⟨vs, h1, h2⟩ := rS.lst hp
    obtain ⟨v, e1, e2⟩ := atI_den h2 hi
    exact .inl ⟨p, vs, _, v, d1, d2, SqL.of h1, e1, k _ S _ H q e2 rS Frame.refl⟩
  · obtain ⟨hz, c, hc, q⟩ := q
    exact .inr (.inr ⟨_, _, c, d1, d2, million hz, hc, k _ S _ H q rfl rS Frame.refl⟩)
  · exact q.elim
theorem dix : DIx X rIxD := IxR_imp (IxR.or ix_list (IxR.or ix_tup ix_str)) fun _ _ _ _ => rIxD_lift
def dIxF (t : DTA) (tb : DTE) : DTE := fun ε S Q => t ε S fun ds S1 => tb ε S1 fun y S2 => ∃ i, y = .int i ∧ ∃ d, atI ds i = some d ∧ Q d S2
theorem de_ixF {a b : Expr} {t : DTA} {tb : DTE} {pos : Pos} (ha : DF X a t) (hb : DE X b tb) (hs : PlainIx b := by intro _ _; rfl) : DE X (.Subscript a b pos) (dIxF t tb) :=
  PE_imp (pe_ix ix_list ha hb hs) fun σ H Q ⟨ε, S, Q0, rE, rS, q, k⟩ => ⟨ε, S, _, rE, rS, q, fun ds S1 p vs H1 q1 _ hS hp den rS1 f1 =>
    ⟨ε, S1, _, rE.frame rS f1, rS1, q1, fun y S2 v H2 q2 dy rS2 f2 => by
      obtain ⟨i, rfl, d, hi, q3⟩ := q2
      obtain ⟨u, e1, e2⟩ := atI_den (DenL.frame rS1 f2 ds vs den) hi
      exact ⟨p, vs, i, u, rfl, dy, SqL.of (f2.keep p _ hS hp (fun _ z => nomatch z)).1, e1, k _ S2 _ H2 q3 e2 rS2 (f1.trans f2)⟩⟩⟩
end
end DL

namespace DL
open PySem PySem.Spec PyProof.Rows L2
variable [Amb]

abbrev DTO := ED → SD → (Option Int → SD → Prop) → Prop
def liftO (K : PySem.W.Frag) (t : DTO) : TO := fun σ H Q => ∃ ε S Q0, RelE K H σ ε ∧ RelS K H S ∧ t ε S Q0 ∧ ∀ o S' H', Q0 o S' → RelS K H' S' → Frame S H S' H' → Q o H'
abbrev DPO (X : Cx) (e : Option Expr) (t : DTO) : Prop := PO X e (liftO X.K t)
def dNoPart : DTO := fun _ S Q => Q none S
def dPart (t : DTE) : DTO := fun ε S Q => t ε S fun x S1 => ∃ i, x = .int i ∧ Q (some i) S1
def cutG {α : Type} (xs : List α) (lo hi : Option Int) : List α := (xs.drop (HT.sIx xs.length 0 lo)).take (HT.sIx xs.length xs.length hi - HT.sIx xs.length 0 lo)
theorem cutG_from {α : Type} (xs : List α) (k : Nat) : cutG xs (some (k : Int)) none = xs.drop k := by
  unfold cutG
  rw [HT.sIx_nat, HT.sIx_none]
  by_cases h : k ≤ xs.length
  · rw [Nat.min_eq_left h]
    exact List.take_of_length_le (by rw [List.length_drop]; exact Nat.le_refl _)
  · rw [Nat.min_eq_right (by omega), List.drop_length, List.drop_eq_nil_of_le (by omega), List.take_nil]
theorem cutG_1 {α : Type} (xs : List α) : cutG xs (some 1) none = xs.drop 1 := cutG_from xs 1
theorem cutG_den {K : PySem.W.Frag} {H : Hp} {ds : List D} {vs : List V} (h : DenL K H ds vs) (lo hi : Option Int) : DenL K H (cutG ds lo hi) (cutG vs lo hi) := by
  unfold cutG
  rw [h.length]
  exact (h.drop _).take _
section
variable {X : Cx} {e l a b : Expr} {te ta tb : DTE} {t u : DTA} {lo hi : Option Expr} {tl th : DTO} {pos p2 p : Pos}
theorem dpo_none : DPO X none dNoPart := ⟨fun pins s σ H Q I ⟨ε, S, Q0, rE, rS, q, k⟩ => po_none.run pins s σ H Q I (k none S H q rS Frame.refl)⟩
theorem dpo_some (h : DE X e te) : DPO X (some e) (dPart te) := ⟨fun pins s σ H Q I ⟨ε, S, Q0, rE, rS, q, k⟩ => (po_some h).run pins s σ H Q I
  ⟨ε, S, _, rE, rS, q, fun d S1 v H1 q1 den rS1 f1 => by
    obtain ⟨i, rfl, q2⟩ := q1
    exact ⟨i, den, k (some i) S1 H1 q2 rS1 f1⟩⟩⟩
def dSl (r : D → Option Int → Option Int → SD → DK → Prop) (te : DTE) (tl th : DTO) : DTE := fun ε S Q => te ε S fun x S1 => tl ε S1 fun l S2 => th ε S2 fun u S3 => r x l u S3 Q
def rSlF (K : PySem.W.Frag) : V → Option Int → Option Int → Hp → VK → Prop := fun x lo hi H Q => ∃ a xs, x = .ref a ∧ SqT K H a xs ∧ (cutG xs lo hi = xs → Q (.ref a) H) ∧ newT H (cutG xs lo hi) Q
theorem cutG_whole {α : Type} {xs : List α} {lo hi : Option Int} (h1 : HT.sIx xs.length 0 lo = 0) (h2 : HT.sIx xs.length xs.length hi = xs.length) : cutG xs lo hi = xs := by
  unfold cutG
  rw [h1, h2, Nat.sub_zero, List.drop_zero, List.take_length]
theorem sl_tupF : SlR X (rSlF X.K) := by
  intro pins s σ H x v vl vu lo hi sl Q I rx hs pl pu ⟨a, xs, e1, hx, q1, q2⟩
  subst e1
  by_cases hw : HT.sIx xs.length 0 lo = 0 ∧ HT.sIx xs.length xs.length hi = xs.length
  · exact sl_tupA pins s σ H _ v vl vu lo hi sl Q I rx hs pl pu ⟨a, xs, rfl, hx, fun _ => q1 (cutG_whole hw.1 hw.2), fun z => absurd hw z⟩
  · cases rx
    obtain ⟨its, r, ht, hz⟩ := I.tuple hx
    have hlen : its.toArray.size = xs.length := by rw [List.size_toArray]; exact r.length.symm
    refine ⟨"tuple", _, PyProof.Rows.slot_tuple_getitem.lookup, ht.typeIs, ?_⟩
    refine HT.getItem_tuple_cut ht hs pl pu (by rw [hlen]; exact hw) ?_ (by rw [hlen]; exact hz)
    rw [hlen]
    exact ep_newT (t' := s.toks) I ((r.drop (HT.sIx xs.length 0 lo)).take _) (by rw [List.length_take, List.length_drop]; omega) q2
def rSlTD : D → Option Int → Option Int → SD → DK → Prop := fun x lo hi S Q => ∃ ds, x = .tup ds ∧ Q (.tup (cutG ds lo hi)) S
theorem de_slT (he : DE X e te) (hl : DPO X lo tl) (hh : DPO X hi th) : DE X (.Subscript e (.Slice lo hi none p2) pos) (dSl rSlTD te tl th) :=
  PE_imp (pe_slice sl_tupF he hl hh) fun σ H Q ⟨ε, S, Q0, rE, rS, q, k⟩ => ⟨ε, S, _, rE, rS, q, fun d S1 v H1 q1 den rS1 f1 =>
    ⟨ε, S1, _, rE.frame rS f1, rS1, q1, fun l S2 H2 q2 rS2 f2 => ⟨ε, S2, _, (rE.frame rS f1).frame rS1 f2, rS2, q2, fun u S3 H3 q3 rS3 f3 => by
      obtain ⟨ds, rfl, q4⟩ := q3
      obtain ⟨a, vs, rfl, hst, hd⟩ := (den.frame rS1 (f2.trans f3)).untup
      refine ⟨a, vs, rfl, hst.sq, fun z => ?_, (k.frame ((f1.trans f2).trans f3)).newTup rS3 (cutG_den hd l u) q4⟩
      have hcut := cutG_den hd l u
      rw [z] at hcut
      exact k _ S3 _ H3 q4 (den_tup hst hcut) rS3 ((f1.trans f2).trans f3)⟩⟩⟩
def dRevL (te : DTE) : DTA := fun ε S Q => te ε S fun x S1 => ∃ p ds, x = .ref p ∧ S1 p = some (.lst ds) ∧ Q ds.reverse S1
theorem df_revL {k : Nat} {q1 q2 q3 : Pos} (he : DE X e te) : DF X (.Subscript e (.Slice none none (some (.UnaryOp .USub (.Constant (.int 1) k q1) q2)) q3) pos) (dRevL te) :=
  PE_imp (pe_revL he) fun σ H Q ⟨ε, S, Q0, rE, rS, q, k⟩ => ⟨ε, S, _, rE, rS, q, fun d S1 v H1 q1 den rS1 f1 => by
    obtain ⟨p, ds, rfl, hp, q2⟩ := q1
    cases (show v = .ref p from den)
    obtain ⟨vs, hv, hd⟩ := rS1.lst hp
    exact ⟨p, vs, rfl, SqL.of hv, fun r hr => ((show WkF X.K S H Q0 Q from k).frame f1).new rS1 hd.rev hr q2⟩⟩

def dCatFF (t u : DTA) : DTA := fun ε S Q => t ε S fun xs S1 => u ε S1 fun ys S2 => xs.length + ys.length ≤ 1000000 ∧ Q (xs ++ ys) S2
def dCatVF (ta : DTE) (u : DTA) : DTA := fun ε S Q => ta ε S fun x S1 => u ε S1 fun ys S2 => ∃ p xs, x = .ref p ∧ S2 p = some (.lst xs) ∧ xs.length + ys.length ≤ 1000000 ∧ Q (xs ++ ys) S2
theorem df_catFF (ha : DF X a t) (hb : DF X b u) : DF X (.BinOp a .Add b pos) (dCatFF t u) :=
  PE_imp (pe_op op_cat ha hb) fun σ H Q ⟨ε, S, Q0, rE, rS, q, k⟩ => ⟨ε, S, _, rE, rS, q, fun ds S1 p vs H1 q1 _ hS hp den rS1 f1 =>
    ⟨ε, S1, _, rE.frame rS f1, rS1, q1, fun es S2 p' us H2 q2 _ hS' hp' den2 rS2 f2 => by
      have kp := f2.keep p _ hS hp (fun _ z => nomatch z)
      have d1 := DenL.frame rS1 f2 ds vs den
      exact ⟨p, p', vs, us, rfl, rfl, kp.1, hp', by rw [d1.length, den2.length]; exact million q2.1, fun r hr => ((show WkF X.K S H Q0 Q from k).frame (f1.trans f2)).new rS2 (d1.app den2) hr q2.2⟩⟩⟩
theorem df_catVF (ha : DE X a ta) (hb : DF X b u) : DF X (.BinOp a .Add b pos) (dCatVF ta u) :=
  PE_imp (pe_op op_cat ha hb) fun σ H Q ⟨ε, S, Q0, rE, rS, q, k⟩ => ⟨ε, S, _, rE, rS, q, fun d S1 v H1 q1 den rS1 f1 =>
    ⟨ε, S1, _, rE.frame rS f1, rS1, q1, fun es S2 p' us H2 q2 _ hS' hp' den2 rS2 f2 => by
      obtain ⟨p, xs, rfl, hp, hz, q3⟩ := q2
      cases (show v = .ref p from den)
      obtain ⟨vs, hv, hd⟩ := rS2.lst hp
      exact ⟨p, p', vs, us, rfl, rfl, hv, hp', by rw [hd.length, den2.length]; exact million hz, fun r hr => ((show WkF X.K S H Q0 Q from k).frame (f1.trans f2)).new rS2 (hd.app den2) hr q3⟩⟩⟩
def dRepF (t : DTA) (tb : DTE) : DTA := fun ε S Q => t ε S fun xs S1 => tb ε S1 fun y S2 => ∃ i : Int, y = .int i ∧ -1000 ≤ i ∧ i ≤ 1000 ∧ xs.length ≤ 1000 ∧ Q (List.replicate i.toNat xs).flatten S2
theorem rep_line {n : Nat} {i : Int} (h1 : n ≤ 1000) (h2 : i ≤ 1000) : n * i.toNat ≤ sizeLine := million (Nat.le_trans (Nat.mul_le_mul h1 (show i.toNat ≤ 1000 by omega)) (by decide))
theorem df_repF (ha : DF X a t) (hb : DE X b tb) : DF X (.BinOp a .Mult b pos) (dRepF t tb) :=
  PE_imp (pe_op op_rep ha hb) fun σ H Q ⟨ε, S, Q0, rE, rS, q, k⟩ => ⟨ε, S, _, rE, rS, q, fun ds S1 p vs H1 q1 _ hS hp den rS1 f1 =>
    ⟨ε, S1, _, rE.frame rS f1, rS1, q1, fun y S2 v H2 q2 den2 rS2 f2 => by
      obtain ⟨i, rfl, h1, h2, hz, q3⟩ := q2
      cases (show v = .int i from den2)
      have d1 := DenL.frame rS1 f2 ds vs den
      exact ⟨p, i, vs, rfl, rfl, (f2.keep p _ hS hp (fun _ z => nomatch z)).1, by omega, by omega, rep_line (by rw [d1.length]; exact hz) h2, fun r hr => ((show WkF X.K S H Q0 Q from k).frame (f1.trans f2)).new rS2 (denL_rep _ d1) hr q3⟩⟩⟩
def dIfF (c : DTT) (t u : DTA) : DTA := fun ε S Q => c ε S fun k S1 => if k = true then t ε S1 Q else u ε S1 Q
theorem df_if {c : Expr} {tc : DTT} (hc : DT X c tc) (ha : DF X a t) (hb : DF X b u) : DF X (.IfExp c a b pos) (dIfF tc t u) :=
  PE_imp (pe_ifExp hc ha hb) fun σ H Q ⟨ε, S, Q0, rE, rS, q, k⟩ => ⟨ε, S, _, rE, rS, q, fun d S1 H1 q1 rS1 f1 => by
    cases d with
    | true => exact ⟨ε, S1, Q0, rE.frame rS f1, rS1, q1, (show WkF X.K S H Q0 Q from k).frame f1⟩
    | false => exact ⟨ε, S1, Q0, rE.frame rS f1, rS1, q1, (show WkF X.K S H Q0 Q from k).frame f1⟩⟩

theorem call_tupleF : CallR X (.type "tuple") (fun xs H Q => ∃ p ys, xs = [.ref p] ∧ SqL X.K H p ys ∧ newT H ys Q) := by
  rintro pins s σ H xs us Q I r ⟨p, ys, rfl, hq, q⟩
  obtain ⟨u, rfl, rx⟩ := vals1 r
  cases rx
  obtain ⟨its, r', pl, hz⟩ := I.list hq
  have ln := r'.length
  refine call_tuple_list pl.isList (fun h' kp => ?_) (by simp only [List.size_toArray]; omega)
  have I1 : Inv X pins σ H { s with heap := h' } := I.kept (t' := s.toks) kp
  exact ep_newT (t' := s.toks) I1 r' hz q
def dTupF (t : DTA) : DTE := fun ε S Q => t ε S fun ds S1 => Q (.tup ds) S1
theorem de_tupF (hg : Gl X "tuple") (hm : X.mg "tuple" = none) (ha : DF X a t) (he : starEach [a] X.env = (false, eval a X.env) :: starEach [] X.env := by rfl) (hpl : (backTo pos (starEach [] X.env)).any (·.1) = false := by rfl) : DE X (.Call (.Name "tuple" p) [a] [] pos) (dTupF t) :=
  PE_imp (pe_callTy call_tupleF hg hm (by decide +kernel) (pa_cons ha pa_nil he) (he := he) (hpl := hpl)) fun σ H Q ⟨ε, S, Q0, rE, rS, q, k⟩ => ⟨ε, S, _, rE, rS, q, fun ds S1 p vs H1 q1 _ hS hp den rS1 f1 =>
    ⟨p, vs, rfl, SqL.of hp, (k.frame f1).newTup rS1 den q1⟩⟩
def dTupV (ta : DTE) : DTE := fun ε S Q => ta ε S fun x S1 => (∃ ds, x = .tup ds ∧ Q (.tup ds) S1) ∨ (∃ ds, x = .ilst ds ∧ Q (.tup ds) S1) ∨ ∃ p ds, x = .ref p ∧ S1 p = some (.lst ds) ∧ Q (.tup ds) S1
theorem de_tupV (hg : Gl X "tuple") (hm : X.mg "tuple" = none) (ha : DE X a ta) (he : starEach [a] X.env = (false, eval a X.env) :: starEach [] X.env := by rfl) (hpl : (backTo pos (starEach [] X.env)).any (·.1) = false := by rfl) : DE X (.Call (.Name "tuple" p) [a] [] pos) (dTupV ta) :=
  PE_imp (pe_callTy (r := fun xs H Q => (∃ p ys, xs = [.ref p] ∧ SqL X.K H p ys ∧ newT H ys Q) ∨ ∃ p ys, xs = [.ref p] ∧ SqT X.K H p ys ∧ Q (.ref p) H)
    (fun pins s σ H xs us Q I r h => h.elim (call_tupleF pins s σ H xs us Q I r) (call_tupleT pins s σ H xs us Q I r)) hg hm (by decide +kernel) (pa_cons ha pa_nil he) (he := he) (hpl := hpl)) fun σ H Q ⟨ε, S, Q0, rE, rS, q, k⟩ => ⟨ε, S, _, rE, rS, q, fun d S1 v H1 q1 den rS1 f1 => by
    rcases q1 with ⟨ds, rfl, q1⟩ | ⟨ds, rfl, q1⟩ | ⟨p, ds, rfl, hp, q1⟩
    · obtain ⟨x, vs, rfl, h1, h2⟩ := den.untup
      exact .inr ⟨x, vs, rfl, h1.sq, k _ S1 _ H1 q1 (den_tup h1 h2) rS1 f1⟩
    · obtain ⟨x, vs, rfl, h1, h2⟩ := den.unilst
      exact .inl ⟨x, vs, rfl, h1.sq, (k.frame f1).newTup rS1 h2 q1⟩
    · cases (show v = .ref p from den)
      obtain ⟨vs, hv, hd⟩ := rS1.lst hp
      exact .inl ⟨p, vs, rfl, SqL.of hv, (k.frame f1).newTup rS1 hd q1⟩⟩
def dListV (ta : DTE) : DTA := fun ε S Q => ta ε S fun x S1 => ∃ ds, itemsIn S1 x ds ∧ Q ds S1
theorem df_listV (hg : Gl X "list") (hm : X.mg "list" = none) (ha : DE X a ta) (he : starEach [a] X.env = (false, eval a X.env) :: starEach [] X.env := by rfl) (hpl : (backTo pos (starEach [] X.env)).any (·.1) = false := by rfl) : DF X (.Call (.Name "list" p) [a] [] pos) (dListV ta) :=
  PE_imp (pe_callTy call_list_of hg hm (by decide +kernel) (pa_cons ha pa_nil he) (he := he) (hpl := hpl)) fun σ H Q ⟨ε, S, Q0, rE, rS, q, k⟩ => ⟨ε, S, _, rE, rS, q, fun d S1 v H1 q1 den rS1 f1 => by
    obtain ⟨ds, hi, q2⟩ := q1
    obtain ⟨p, vs, rfl, hs, hd⟩ := itemsIn_sq rS1 den hi
    exact ⟨p, vs, rfl, hs, fun r hr => ((show WkF X.K S H Q0 Q from k).frame f1).new rS1 hd hr q2⟩⟩
def dAllF (t : DTA) : DTE := fun ε S Q => t ε S fun ds S1 => ∃ bs : List Bool, ds = bs.map D.bl ∧ Q (.bl (bs.all id)) S1
theorem de_allF (hc : X.calm = true) (hg : Gl X "all") (hm : X.mg "all" = none) (ha : DF X a t) (he : starEach [a] X.env = (false, eval a X.env) :: starEach [] X.env := by rfl) (hpl : (backTo pos (starEach [] X.env)).any (·.1) = false := by rfl) : DE X (.Call (.Name "all" p) [a] [] pos) (dAllF t) :=
  PE_imp (pe_callB (cr_all hc) hg hm (by decide +kernel) (pa_cons ha pa_nil he) (he := he) (hpl := hpl)) fun σ H Q ⟨ε, S, Q0, rE, rS, q, k⟩ => ⟨ε, S, _, rE, rS, q, fun ds S1 p vs H1 q1 _ hS hp den rS1 f1 => by
    obtain ⟨bs, rfl, q2⟩ := q1
    cases denL_bools' den
    exact ⟨p, bs, rfl, SqL.of hp, k _ S1 _ H1 q2 rfl rS1 f1⟩⟩
def dCB (r : RAD) (t : DTA) : DTE := fun ε S Q => t ε S fun ds S1 => r ds S1 Q
theorem dCB_lift {K : PySem.W.Frag} {r : RAD} {σ : L2.St} {H : Hp} {Q : VK} (h : liftE K (dCB r t) σ H Q) : tCB (liftC K r) (liftA K t) σ H Q := by
  obtain ⟨ε, S, Q0, rE, rS, q, k⟩ := h
  exact ⟨ε, S, _, rE, rS, q, fun ds S1 vs H1 q1 den rS1 f1 => ⟨ds, S1, Q0, den, rS1, q1, k.frame f1⟩⟩
theorem de_callB {x : Str} {id : String} {es : List Expr} {r : RAD} (hc : DCall X (.builtin id) r) (hg : Gl X x) (hm : X.mg x = none) (hv : bootBuiltins x = some (.builtin id)) (ha : DA X (e :: es) t) (hn : x ≠ "__name__" := by decide) (hdb : (x == ("__debug__" : Str)) = false := by decide)
    (he : starEach (e :: es) X.env = (false, eval e X.env) :: starEach es X.env := by rfl) (hpl : (backTo pos (starEach es X.env)).any (·.1) = false := by rfl) : DE X (.Call (.Name x p) (e :: es) [] pos) (dCB r t) :=
  PE_imp (pe_callB hc hg hm hv ha hn hdb he hpl) fun _ _ _ => dCB_lift
theorem de_callTy {x : Str} {T : String} {es : List Expr} {r : RAD} (hc : DCall X (.type T) r) (hg : Gl X x) (hm : X.mg x = none) (hv : bootBuiltins x = some (.type T)) (ha : DA X (e :: es) t) (hn : x ≠ "__name__" := by decide) (hdb : (x == ("__debug__" : Str)) = false := by decide)
    (he : starEach (e :: es) X.env = (false, eval e X.env) :: starEach es X.env := by rfl) (hpl : (backTo pos (starEach es X.env)).any (·.1) = false := by rfl) : DE X (.Call (.Name x p) (e :: es) [] pos) (dCB r t) :=
  PE_imp (pe_callTy hc hg hm hv ha hn hdb he hpl) fun _ _ _ => dCB_lift
def rLenD : RAD := fun ds S Q => ∃ x, ds = [x] ∧ ((∃ xs, itemsIn S x xs ∧ Q (.int xs.length) S) ∨ (∃ z, x = .str z ∧ z.length ≤ 1000000 ∧ Q (.int z.length) S) ∨ (∃ p kvs, x = .ref p ∧ S p = some (.dic kvs) ∧ Q (.int kvs.length) S) ∨ ∃ (ks : List Key) (es : List D), x = .fdic ks es ∧ Q (.int ks.length) S)
theorem KVD.length {K : PySem.W.Frag} {H : Hp} : ∀ {kvs : List (Key × D)} {kv : List (Key × V)}, KVD K H kvs kv → kv.length = kvs.length
  | _, _, .nil => rfl
  | _, _, .cons _ t => by rw [List.length_cons, List.length_cons, KVD.length t]
theorem dc_len : DCall X (.builtin "len") rLenD := by
  intro pins s σ H xs us Q I r ⟨ds, S, Q0, den, rS, ⟨x, e1, h⟩, k⟩
  subst e1
  obtain ⟨v, w, rfl, d1, d2⟩ := den.uncons
  cases d2.nil_eq
  rcases h with ⟨ys, hi, q⟩ | ⟨z, rfl, hz, q⟩ | ⟨p, kvs, rfl, hp, q⟩ | ⟨ks, es, rfl, q⟩
  · obtain ⟨p, vs, rfl, hs, hd⟩ := itemsIn_sq rS d1 hi
    exact call_len_seq pins s σ H _ us Q I r ⟨p, vs, rfl, hs, by rw [hd.length]; exact k _ S _ H q rfl rS Frame.refl⟩
  · cases (show v = .str z from d1)
    exact call_len pins s σ H _ us Q I r ⟨.str z, z.length, rfl, ⟨million hz, rfl⟩, k _ S _ H q rfl rS Frame.refl⟩
  · cases (show v = .ref p from d1)
    obtain ⟨kv, e1, e2⟩ : ∃ kv, H p = some (.dK kv) ∧ KVD X.K H kvs kv := rS.cell p _ hp
    obtain ⟨u, rfl, ru⟩ := vals1 r
    cases ru
    exact d_len I (.inl e1) fun t s' I' => ⟨.int kvs.length, H, I', ⟨t, by rw [KVD.length e2]⟩, k _ S _ H q rfl rS Frame.refl⟩
  · obtain ⟨p, o, kv, rfl, e1, e2, _⟩ := (show ∃ a o kv, v = .ref a ∧ H a = some (.frz o (.dK kv)) ∧ kv.map (·.1) = ks ∧ DenL X.K H es (kv.map (·.2)) from d1)
    obtain ⟨u, rfl, ru⟩ := vals1 r
    cases ru
    exact d_len I (.inr ⟨o, e1⟩) fun t s' I' => ⟨.int ks.length, H, I', ⟨t, by rw [← e2, List.length_map]⟩, k _ S _ H q rfl rS Frame.refl⟩
def rIntD : RAD := fun ds S Q => (∃ i, ds = [.int i] ∧ Q (.int i) S) ∨ ∃ b, ds = [.bl b] ∧ Q (.int (if b then 1 else 0)) S
theorem dc_int : DCall X (.type "int") rIntD := by
  intro pins s σ H xs us Q I r ⟨ds, S, Q0, den, rS, h, k⟩
  refine call_int1 pins s σ H xs us Q I r ?_
  rcases h with ⟨i, rfl, q⟩ | ⟨b, rfl, q⟩
  · obtain ⟨v, w, rfl, d1, d2⟩ := den.uncons
    cases d2.nil_eq
    cases (show v = .int i from d1)
    exact .inl ⟨i, rfl, k _ S _ H q rfl rS Frame.refl⟩
  · obtain ⟨v, w, rfl, d1, d2⟩ := den.uncons
    cases d2.nil_eq
    cases (show v = .bl b from d1)
    exact .inr ⟨b, rfl, k _ S _ H q rfl rS Frame.refl⟩
def rMin2 : RAD := fun ds S Q => ∃ i j, ds = [.int i, .int j] ∧ Q (.int (if j < i then j else i)) S
def rMax2 : RAD := fun ds S Q => ∃ i j, ds = [.int i, .int j] ∧ Q (.int (if j > i then j else i)) S
theorem den2 {K : PySem.W.Frag} {H : Hp} {a b : D} {xs : List V} (h : DenL K H [a, b] xs) : ∃ v w, xs = [v, w] ∧ Den K H a v ∧ Den K H b w := by
  obtain ⟨v, w, rfl, d1, d2⟩ := h.uncons
  obtain ⟨u, z, rfl, d3, d4⟩ := d2.uncons
  cases d4.nil_eq
  exact ⟨v, u, rfl, d1, d3⟩
theorem dc_min2 (hc : X.calm = true) : DCall X (.builtin "min") rMin2 := CallR_imp (call_min2 hc) fun xs H Q ⟨ds, S, Q0, den, rS, ⟨i, j, e1, q⟩, k⟩ => by
  subst e1
  obtain ⟨v, w, rfl, d1, d2⟩ := den2 den
  cases (show v = .int i from d1)
  cases (show w = .int j from d2)
  exact ⟨i, j, rfl, k _ S _ H q rfl rS Frame.refl⟩
theorem dc_max2 (hc : X.calm = true) : DCall X (.builtin "max") rMax2 := CallR_imp (call_max2 hc) fun xs H Q ⟨ds, S, Q0, den, rS, ⟨i, j, e1, q⟩, k⟩ => by
  subst e1
  obtain ⟨v, w, rfl, d1, d2⟩ := den2 den
  cases (show v = .int i from d1)
  cases (show w = .int j from d2)
  exact ⟨i, j, rfl, k _ S _ H q rfl rS Frame.refl⟩
def tyD (S : SD) : D → Option String
  | .non => some "NoneType"
  | .bl _ => some "bool"
  | .int _ => some "int"
  | .str _ => some "str"
  | .tup _ => some "tuple"
  | .ilst _ => some "list"
  | .fdic _ _ => some "dict"
  | .ref p => match S p with
    | some (.lst _) => some "list"
    | some (.sat _) => some "list"
    | some (.dic _) => some "dict"
    | _ => none
  | .ty _ => none
def subTy (t T : String) : Bool := t == T || (t == "bool" && T == "int")
def rIsiD : RAD := fun ds S Q => ∃ x T t, ds = [x, .ty T] ∧ tyD S x = some t ∧ (T = "tuple" ∨ T = "str" ∨ T = "int" ∨ T = "bool") ∧ Q (.bl (subTy t T)) S
theorem kit_sub {t T : String} (ht : t ∈ ["NoneType", "bool", "int", "str", "tuple", "list", "dict"]) (hT : T = "tuple" ∨ T = "str" ∨ T = "int" ∨ T = "bool") : kitB t T = some (subTy t T) := by
  have all : ∀ t ∈ ["NoneType", "bool", "int", "str", "tuple", "list", "dict"], ∀ T ∈ ["tuple", "str", "int", "bool"], kitB t T = some (subTy t T) := by decide +kernel
  exact all t ht T (by rcases hT with h | h | h | h <;> simp [h])
theorem tyD_mem {S : SD} {x : D} {t : String} (h : tyD S x = some t) : t ∈ ["NoneType", "bool", "int", "str", "tuple", "list", "dict"] := by
  unfold tyD at h
  split at h
  all_goals first
    | (cases h; done)
    | (cases h; decide)
    | (split at h <;> first | (cases h; done) | (cases h; decide))
theorem tyD_tyX {K : PySem.W.Frag} {H : Hp} {S : SD} {x : D} {v : V} {t : String} (rS : RelS K H S) (d : Den K H x v) (h : tyD S x = some t) : TyX K H v (.type t) := by
  cases x with
  | non => cases h; cases (show v = .non from d); exact .base .non
  | bl b => cases h; cases (show v = .bl b from d); exact .base (.bl b)
  | int b => cases h; cases (show v = .int b from d); exact .base (.int b)
  | str b => cases h; cases (show v = .str b from d); exact .base (.str b)
  | ty n => cases h
  | tup ds =>
    cases h
    obtain ⟨a, vs, rfl, h1, _⟩ := d.untup
    rcases h1 with ⟨o, _, h1⟩ | ⟨o, its, n, h1, h2, _⟩
    · exact .fTuple h1
    · exact .kTuple h1 h2
  | ilst ds =>
    cases h
    obtain ⟨a, vs, rfl, h1, _⟩ := d.unilst
    rcases h1 with ⟨o, h1⟩ | h1
    · exact .base (.frz h1)
    · rcases h1 with (h1 | ⟨o, h1⟩) | ⟨o, its, n, h1, h2, _⟩
      · cases h1
      · cases h1
      · exact .kList h1 h2
  | fdic ks ds =>
    cases h
    obtain ⟨a, o, kv, rfl, h1, _⟩ := (show ∃ a o kv, v = .ref a ∧ H a = some (.frz o (.dK kv)) ∧ kv.map (·.1) = ks ∧ DenL K H ds (kv.map (·.2)) from d)
    exact .fDict h1
  | ref p =>
    cases (show v = .ref p from d)
    have h' : (match S p with
      | some (.lst _) => some "list"
      | some (.sat _) => some "list"
      | some (.dic _) => some "dict"
      | _ => none) = some t := h
    split at h' <;> cases h'
    · rename_i ds e
      obtain ⟨vs, e1, _⟩ := rS.lst e
      exact .base (.lst e1)
    · rename_i q e
      obtain ⟨ds, vs, _, e1, _⟩ : ∃ ds vs, q ds ∧ H p = some (.lst vs) ∧ DenL K H ds vs := rS.cell p _ e
      exact .base (.lst e1)
    · rename_i kvs e
      obtain ⟨kv, e1, _⟩ : ∃ kv, H p = some (.dK kv) ∧ KVD K H kvs kv := rS.cell p _ e
      exact .base (.dK e1)
theorem dc_isi : DCall X (.builtin "isinstance") rIsiD := CallR_imp call_isi fun xs H Q ⟨ds, S, Q0, den, rS, ⟨x, T, t, e1, ht, hT, q⟩, k⟩ => by
  subst e1
  obtain ⟨v, w, rfl, d1, d2⟩ := den2 den
  cases (show w = .ty T from d2)
  exact ⟨v, .ty T, .type t, .type T, subTy t T, rfl, .ty T, tyD_tyX rS d1 ht, kit_ty (kit_sub (tyD_mem ht) hT), k _ S _ H q rfl rS Frame.refl⟩
end
end DL

namespace DL
open PySem PySem.Spec PyProof.Rows L2
variable [Amb]

abbrev RMD := D → List D → SD → DK → Prop
def liftM (K : PySem.W.Frag) (r : RMD) : V → List V → Hp → VK → Prop := fun x xs H Q => ∃ d ds S Q0, Den K H d x ∧ DenL K H ds xs ∧ RelS K H S ∧ r d ds S Q0 ∧ WkE K S H Q0 Q
abbrev DMt (X : Cx) (id : String) (r : RMD) : Prop := MtR X id (liftM X.K r)
def IsLst (S : SD) (x : D) : Prop := ∃ p ds, x = .ref p ∧ S p = some (.lst ds)
def dLM (r : RMD) (to : DTE) (ta : DTA) : DTE := fun ε S Q => to ε S fun x S1 => IsLst S1 x ∧ ta ε S1 fun ds S2 => r x ds S2 Q
def dLM0 (r : RMD) (to : DTE) : DTE := fun ε S Q => to ε S fun x S1 => IsLst S1 x ∧ r x [] S1 Q
section
variable {X : Cx} {o e a b : Expr} {es : List Expr} {name : Str} {apos cpos pos p : Pos} {id : String} {r : RMD} {to ta tb : DTE} {tas : DTA} {t u : DTA}
theorem tyV_lst {K : PySem.W.Frag} {H : Hp} {S : SD} {x : D} {v : V} (rS : RelS K H S) (d : Den K H x v) (h : IsLst S x) : tyV K "list" v H := by
  obtain ⟨p, ds, rfl, hp⟩ := h
  cases (show v = .ref p from d)
  obtain ⟨vs, e1, _⟩ := rS.lst hp
  exact .inl ⟨rfl, vs, SqL.of e1⟩
theorem de_lm (slot : Slot "list" name id) (hty : typeOf (.builtin id) = pure (.type "method_descriptor")) (hm : DMt X id r) (ho : DE X o to) (ha : DA X (e :: es) tas)
    (hbase : attributeBase o name X.env (eval o X.env) = eval o X.env := by rfl)
    (hfew : ((backTo cpos (starEach (e :: es) X.env)).all (fun x => !x.1) && (backToKw cpos (keywordEach [] X.env)).all (fun x => x.1.isSome)
      && decide ((e :: es).length + ([] : List Keyword).length + (if ([] : List Keyword).isEmpty then 0 else 1) < 30)) = true := by rfl)
    (hline : (apos.endLine == cpos.line) = true := by rfl) (hs : starEach (e :: es) X.env = (false, eval e X.env) :: starEach es X.env := by rfl) (hplain : (backTo cpos (starEach es X.env)).any (·.1) = false := by rfl) :
    DE X (.Call (.Attribute o name apos) (e :: es) [] cpos) (dLM r to tas) :=
  PE_imp (pe_bm PySem.F.plainAttrs_list slot hty hm ho ha hbase hfew hline hs hplain) fun σ H Q ⟨ε, S, Q0, rE, rS, q, k⟩ => ⟨ε, S, _, rE, rS, q, fun d S1 v H1 q1 den rS1 f1 =>
    ⟨tyV_lst rS1 den q1.1, ε, S1, _, rE.frame rS f1, rS1, q1.2, fun ds S2 vs H2 q2 den2 rS2 f2 => ⟨d, ds, S2, Q0, den.frame rS1 f2, den2, rS2, q2, k.frame (f1.trans f2)⟩⟩⟩
theorem de_lm0 (slot : Slot "list" name id) (hty : typeOf (.builtin id) = pure (.type "method_descriptor")) (hm : DMt X id r) (ho : DE X o to)
    (hbase : attributeBase o name X.env (eval o X.env) = eval o X.env := by rfl) (hline : (apos.endLine == cpos.line) = true := by rfl) : DE X (.Call (.Attribute o name apos) [] [] cpos) (dLM0 r to) :=
  PE_imp (pe_bm0 PySem.F.plainAttrs_list slot hty hm ho hbase hline) fun σ H Q ⟨ε, S, Q0, rE, rS, q, k⟩ => ⟨ε, S, _, rE, rS, q, fun d S1 v H1 q1 den rS1 f1 =>
    ⟨tyV_lst rS1 den q1.1, d, [], S1, Q0, den, DenL.nil, rS1, q1.2, k.frame f1⟩⟩
theorem WkE.putL {K : PySem.W.Frag} {S : SD} {H : Hp} {Q0 : DK} {Q : VK} {p : Addr} {ds ds' : List D} {vs vs' : List V} {d : D} {v : V} (k : WkE K S H Q0 Q) (rS : RelS K H S) (hp : S p = some (.lst ds)) (hv : H p = some (.lst vs)) (hd : DenL K H ds' vs')
    (dd : Den K H d v) (q : Q0 d (put S p (.lst ds'))) : Q v (upd H p (.lst vs')) := by
  have f : Frame S H (put S p (.lst ds')) (upd H p (.lst vs')) := frame_put hp
  exact k d _ v _ q (dd.frame rS f) (rS.put hp (fun _ z => nomatch z) (cell_lst upd_same (DenL.frame rS f ds' vs' hd))) f
def rAppD : RMD := fun x xs S Q => ∃ p ds d, x = .ref p ∧ xs = [d] ∧ S p = some (.lst ds) ∧ ds.length ≤ 1000000 ∧ Q .non (put S p (.lst (ds ++ [d])))
theorem lt_line {n : Nat} (h : n ≤ 1000000) : n < sizeLine := Nat.lt_of_le_of_lt h (by decide)
theorem dm_append : DMt X "list.append" rAppD := MtR_imp mt_append fun x xs H Q ⟨d, ds, S, Q0, d1, d2, rS, ⟨p, ys, y, e1, e2, hp, hz, q⟩, k⟩ => by
  subst e1 e2
  cases (show x = .ref p from d1)
  obtain ⟨v, w, rfl, d3, d4⟩ := d2.uncons
  cases d4.nil_eq
  obtain ⟨vs, hv, hd⟩ := rS.lst hp
  exact ⟨p, vs, v, rfl, rfl, hv, by rw [hd.length]; exact lt_line hz, k.putL rS hp hv (hd.app (DenL.one d3)) (d := .non) (v := .non) rfl q⟩
def rPopD : RMD := fun x xs S Q => ∃ p ds d, x = .ref p ∧ xs = [] ∧ S p = some (.lst (ds ++ [d])) ∧ Q d (put S p (.lst ds))
theorem denL_snoc {K : PySem.W.Frag} {H : Hp} : ∀ {ds : List D} {d : D} {vs : List V}, DenL K H (ds ++ [d]) vs → ∃ us v, vs = us ++ [v] ∧ DenL K H ds us ∧ Den K H d v
  | [], d, vs, h => by
    obtain ⟨v, w, rfl, h1, h2⟩ := h.uncons
    cases h2.nil_eq
    exact ⟨[], v, rfl, DenL.nil, h1⟩
  | x :: ds, d, vs, h => by
    obtain ⟨v, w, rfl, h1, h2⟩ := h.uncons
    obtain ⟨us, u, rfl, h3, h4⟩ := denL_snoc h2
    exact ⟨v :: us, u, rfl, DenL.cons h1 h3, h4⟩
theorem dm_pop : DMt X "list.pop" rPopD := MtR_imp mt_pop fun x xs H Q ⟨d, ds, S, Q0, d1, d2, rS, ⟨p, ys, y, e1, e2, hp, q⟩, k⟩ => by
  subst e1 e2
  cases (show x = .ref p from d1)
  cases d2.nil_eq
  obtain ⟨vs, hv, hd⟩ := rS.lst hp
  obtain ⟨us, v, rfl, h3, h4⟩ := denL_snoc hd
  refine ⟨p, us ++ [v], v, rfl, rfl, hv, by simp, ?_⟩
  rw [List.dropLast_concat]
  exact k.putL rS hp hv h3 h4 q
end
end DL

namespace DL
open PySem PySem.Spec PyProof.Rows L2
variable [Amb]

def keyD : Key → D
  | .inl i => .int i
  | .inr x => .str x
theorem den_key {K : PySem.W.Frag} {H : Hp} {k : Key} {v : V} (h : Den K H (keyD k) v) : v = kV k := by
  cases k with
  | inl i => exact h
  | inr x => exact h
def valD (kvs : List (Key × D)) (k : Key) : Option D := (kvs.find? fun kv => decide (kv.1 = k)).map (·.2)
def putD (kvs : List (Key × D)) (k : Key) (v : D) : List (Key × D) :=
  if (kvs.any fun kv => decide (kv.1 = k)) = true then kvs.map (fun kv => if kv.1 = k then (kv.1, v) else kv) else kvs ++ [(k, v)]
def mergeD (kvs more : List (Key × D)) : List (Key × D) := more.foldl (fun acc kv => putD acc kv.1 kv.2) kvs
section
variable {K : PySem.W.Frag} {H : Hp}
theorem valD_pos {p : Key × D} {r : List (Key × D)} {k : Key} (e : p.1 = k) : valD (p :: r) k = some p.2 := by simp [valD, List.find?_cons, e]
theorem valD_neg {p : Key × D} {r : List (Key × D)} {k : Key} (e : ¬ p.1 = k) : valD (p :: r) k = valD r k := by simp [valD, List.find?_cons, e]
theorem KVD.val : ∀ {kvs : List (Key × D)} {kv : List (Key × V)}, KVD K H kvs kv → ∀ k, (valD kvs k = none ∧ valV kv k = none) ∨ ∃ d v, valD kvs k = some d ∧ valV kv k = some v ∧ Den K H d v
  | _, _, .nil, k => .inl ⟨rfl, rfl⟩
  | _, _, .cons (a := p) (b := q) h t, k => by
    by_cases e : p.1 = k
    · exact .inr ⟨p.2, q.2, valD_pos e, valV_pos (h.1 ▸ e), h.2⟩
    · rw [valD_neg e, valV_neg (h.1 ▸ e)]
      exact KVD.val t k
theorem KVD.anyK {k : Key} : ∀ {kvs : List (Key × D)} {kv : List (Key × V)}, KVD K H kvs kv → (kvs.any fun x => decide (x.1 = k)) = kv.any fun x => decide (x.1 = k)
  | _, _, .nil => rfl
  | _, _, .cons h t => by rw [List.any_cons, List.any_cons, KVD.anyK t, h.1]
theorem KVD.repl {k : Key} {d : D} {v : V} (g : Den K H d v) : ∀ {kvs : List (Key × D)} {kv : List (Key × V)}, KVD K H kvs kv →
    KVD K H (kvs.map fun x => if x.1 = k then (x.1, d) else x) (kv.map fun x => if x.1 = k then (x.1, v) else x)
  | _, _, .nil => .nil
  | _, _, .cons (a := p) (b := q) h t => by
    rw [List.map_cons, List.map_cons]
    refine .cons ?_ (KVD.repl g t)
    by_cases e : p.1 = k
    · rw [if_pos e, if_pos (h.1 ▸ e)]
      exact ⟨h.1, g⟩
    · rw [if_neg e, if_neg (h.1 ▸ e)]
      exact h
theorem KVD.put {k : Key} {d : D} {v : V} {kvs : List (Key × D)} {kv : List (Key × V)} (r : KVD K H kvs kv) (g : Den K H d v) : KVD K H (putD kvs k d) (putK kv k v) := by
  unfold putD putK
  rw [r.anyK]
  split
  · exact KVD.repl g r
  · exact Paired.snoc r ⟨rfl, g⟩
theorem KVD.merge : ∀ {more : List (Key × D)} {mv : List (Key × V)} {kvs : List (Key × D)} {kv : List (Key × V)}, KVD K H more mv → KVD K H kvs kv → KVD K H (mergeD kvs more) (mergeK kv mv)
  | _, _, _, _, .nil, r => r
  | _, _, kvs, kv, .cons (a := p) (b := q) h t, r => by
    have e : KVD K H (putD kvs p.1 p.2) (putK kv q.1 q.2) := by
      rw [← h.1]
      exact r.put h.2
    have g := KVD.merge t e
    exact g
theorem RelS.dic {S : SD} (r : RelS K H S) {p : Addr} {kvs : List (Key × D)} (h : S p = some (.dic kvs)) : ∃ kv, H p = some (.dK kv) ∧ KVD K H kvs kv := r.cell p _ h
theorem cell_dic {p : Addr} {kvs : List (Key × D)} {kv : List (Key × V)} (h : H p = some (.dK kv)) (g : KVD K H kvs kv) : CellOk K H p (.dic kvs) := ⟨kv, h, g⟩
end
theorem frame_dic {K : PySem.W.Frag} {S : SD} {H : Hp} {p : Addr} {kvs kvs' : List (Key × D)} {kv' : List (Key × V)} (rS : RelS K H S) (hp : S p = some (.dic kvs)) (g : KVD K H kvs' kv') :
    RelS K (upd H p (.dK kv')) (put S p (.dic kvs')) ∧ Frame S H (put S p (.dic kvs')) (upd H p (.dK kv')) := by
  have f : Frame S H (put S p (.dic kvs')) (upd H p (.dK kv')) := frame_put hp
  exact ⟨rS.put hp (fun _ z => nomatch z) (cell_dic upd_same (g.frame rS f)), f⟩

section
variable {X : Cx} {a b e : Expr} {ta tb : DTE} {pos : Pos}
def rIxE : R2D := fun x y S Q => match x, y with
  | .tup ds, .int i => ∃ d, atI ds i = some d ∧ Q d S
  | .ilst ds, .int i => ∃ d, atI ds i = some d ∧ Q d S
  | .ref p, .int i => ∃ ds, S p = some (.lst ds) ∧ ∃ d, atI ds i = some d ∧ Q d S
  | .str z, .int i => z.length ≤ 1000000 ∧ ∃ c, atI z.cps.toList i = some c ∧ Q (.str ⟨#[c]⟩) S
  | .ref p, .str z => ∃ kvs, S p = some (.dic kvs) ∧ ∃ d, valD kvs (.inr z) = some d ∧ Q d S
  | .fdic ks ds, .str z => ∃ d, valD (ks.zip ds) (.inr z) = some d ∧ Q d S
  | _, _ => False
theorem kvd_zip {K : PySem.W.Frag} {H : Hp} : ∀ {ds : List D} {kv : List (Key × V)}, DenL K H ds (kv.map (·.2)) → KVD K H ((kv.map (·.1)).zip ds) kv
  | [], [], _ => .nil
  | [], _ :: _, h => by cases (show _ = [] from h)
  | _ :: _, [], h => by
    obtain ⟨_, _, e, _⟩ := (show ∃ v r, ([] : List V) = v :: r ∧ _ from h)
    cases e
  | d :: ds, (k, v) :: kv, h => by
    obtain ⟨v', r, e, h1, h2⟩ := (show ∃ v' r, ((k, v) :: kv).map (·.2) = v' :: r ∧ Den K H d v' ∧ DenL K H ds r from h)
    cases e
    exact .cons ⟨rfl, h1⟩ (kvd_zip h2)
theorem ix_dict (hu : X.A.units + 1 < cLine) : IxR X (fun x y H Q => ∃ p v, x = .ref p ∧ DGet H p y (some v) ∧ Q v H) := by
  intro value slice pins s σ H x y v u Q I rx ry h hs
  obtain ⟨p, w, rfl, g, q⟩ := h
  cases rx
  have hT := dict_typeIs I g
  unfold subscriptTail
  refine wpAny_bind ?_
  rw [getitemInPython_of_ne hT.not_modules]
  refine wpAny_bind (wpAny_specialOf hT PySem.F.slot_dict_getitem.lookup ?_)
  have fin : wpAny (model X.prog X.w) X.A (subscripted slice false (.ref p) u) (fun r s₃ => wpAny (model X.prog X.w) X.A (letTemporaryGo value (.ref p) r >>= fun _ => pure r) (EP X pins σ Q) X.xe s₃) X.xe s := by
    rw [hs]
    exact wpAny_operating (d_getItem hu I g ry fun w' s3 I3 rw' => wpAny_bind (wpAny_letTemporaryGo (wpAny_pure ⟨w, H, I3, rw', q⟩)))
  first
    | exact wpAny_pure (wpAny_bind fin)
    | exact wpAny_bind (wpAny_pure (wpAny_bind fin))
theorem dixE (hu : X.A.units + 1 < cLine) : DIx X rIxE := IxR_imp (IxR.or dix (ix_dict hu)) fun x y H Q ⟨d, e, S, Q0, d1, d2, rS, q, k⟩ => by
  unfold rIxE at q
  split at q
  · exact .inl ⟨_, _, S, Q0, d1, d2, rS, q, k⟩
  · exact .inl ⟨_, _, S, Q0, d1, d2, rS, q, k⟩
  · exact .inl ⟨_, _, S, Q0, d1, d2, rS, q, k⟩
  · exact .inl ⟨_, _, S, Q0, d1, d2, rS, q, k⟩
  · rename_i p z
    obtain ⟨kvs, hp, d, hd, q⟩ := q
    obtain ⟨kv, e1, e2⟩ := rS.dic hp
    rcases e2.val (.inr z) with ⟨n1, n2⟩ | ⟨d', v, v1, v2, v3⟩
    · rw [hd] at n1; cases n1
    · rw [hd] at v1
      cases v1
      cases (show y = .str z from d2)
      have g : DGet H p (kV (.inr z)) (valV kv (.inr z)) := DGet.k e1
      rw [v2] at g
      exact .inr ⟨p, v, d1, g, k _ S _ H q v3 rS Frame.refl⟩
  · rename_i ks ds z
    obtain ⟨d, hd, q⟩ := q
    obtain ⟨p, o, kv, rfl, e1, e2, e3⟩ := (show ∃ a o kv, x = .ref a ∧ H a = some (.frz o (.dK kv)) ∧ kv.map (·.1) = ks ∧ DenL X.K H ds (kv.map (·.2)) from d1)
    subst e2
    rcases (kvd_zip e3).val (.inr z) with ⟨n1, n2⟩ | ⟨d', v, v1, v2, v3⟩
    · rw [hd] at n1; cases n1
    · rw [hd] at v1
      cases v1
      cases (show y = .str z from d2)
      have g : DGet H p (kV (.inr z)) (valV kv (.inr z)) := .inl ⟨kv, _, .inr ⟨o, e1⟩, rfl, rfl⟩
      rw [v2] at g
      exact .inr ⟨p, v, rfl, g, k _ S _ H q v3 rS Frame.refl⟩
  · exact q.elim
def dIxE (ta tb : DTE) : DTE := dOp rIxE ta tb
theorem de_ixE (hu : X.A.units + 1 < cLine) (ha : DE X a ta) (hb : DE X b tb) (hs : PlainIx b := by intro _ _; rfl) : DE X (.Subscript a b pos) (dIxE ta tb) :=
  PE_imp (pe_ix (dixE hu) ha hb hs) fun _ _ _ => dOp_lift
def rInDic (neg : Bool) : R2D := fun y x S Q => ∃ p kvs k, x = .ref p ∧ S p = some (.dic kvs) ∧ y = keyD k ∧ Q (.bl (if neg then !(valD kvs k).isSome else (valD kvs k).isSome)) S
theorem val_isSome {K : PySem.W.Frag} {H : Hp} {kvs : List (Key × D)} {kv : List (Key × V)} (r : KVD K H kvs kv) (k : Key) : (valV kv k).isSome = (valD kvs k).isSome := by
  rcases r.val k with ⟨n1, n2⟩ | ⟨d, v, v1, v2, _⟩
  · rw [n1, n2]; rfl
  · rw [v1, v2]; rfl
theorem dop_notInDic (hu : X.A.units + 1 < cLine) : DOp X (compareOp .NotIn) (rInDic true) := by
  intro pins s σ H y x u v Q I ry rx ⟨d, e, S, Q0, d1, d2, rS, ⟨p, kvs, k0, e1, hp, e2, q⟩, k⟩
  subst e1 e2
  cases (show x = .ref p from d2)
  cases den_key d1
  cases rx
  obtain ⟨kv, h1, h2⟩ := rS.dic hp
  exact d_notIn hu I (DGet.k h1) ry fun s' I' => ⟨.bl _, H, I', rfl, by rw [val_isSome h2]; exact k _ S _ H q rfl rS Frame.refl⟩
def tKV (K : PySem.W.Frag) (trs : List (Key × DTE)) : List (TE × TE) := trs.map fun p => (tC (kV p.1), liftE K p.2)
structure DPPs (X : Cx) (pos : Pos) (keys : List (Option Expr)) (values : List Expr) (trs : List (Key × DTE)) : Prop where
  pps : PPs X pos keys values (tKV X.K trs)
def rSetE : TSetD := fun o i v S Q => match o, i with
  | .ref p, .int i => ∃ ds j, S p = some (.lst ds) ∧ ixN ds.length i = some j ∧ Q (put S p (.lst (ds.set j v)))
  | .ref p, .str z => ∃ kvs, S p = some (.dic kvs) ∧ kvs.length ≤ 1000000 ∧ Q (put S p (.dic (putD kvs (.inr z) v)))
  | _, _ => False
theorem dset (hu : X.A.units + 1 < cLine) : DPSet X rSetE := by
  intro pins s σ H o i v ov iv u Q I ro ri rv ⟨a, b, d, S, Q0, d1, d2, d3, rS, q, k⟩
  unfold rSetE at q
  split at q
  · rename_i p z
    obtain ⟨ds, j, hp, hj, q⟩ := q
    cases (show o = .ref p from d1)
    cases (show i = .int z from d2)
    obtain ⟨vs, h1, h2⟩ := rS.lst hp
    have f : Frame S H (put S p (.lst (ds.set j d))) (upd H p (.lst (vs.set j v))) := frame_put hp
    exact set_list pins s σ H _ _ v ov iv u Q I ro ri rv ⟨p, vs, z, j, rfl, rfl, h1, by rw [h2.length]; exact hj, k _ _ q (rS.put hp (fun _ z => nomatch z) (cell_lst upd_same (DenL.frame rS f _ _ (h2.set j d3)))) f⟩
  · rename_i p z
    obtain ⟨kvs, hp, hz, q⟩ := q
    cases (show o = .ref p from d1)
    cases (show i = .str z from d2)
    cases ro
    obtain ⟨kv, h1, h2⟩ := rS.dic hp
    obtain ⟨rS', f⟩ := frame_dic rS hp (h2.put (k := .inr z) d3)
    exact d_setItem hu I (DPut.k (k := .inr z) h1 (by rw [KVD.length h2]; exact lt_line hz)) ri rv fun s' I' => ⟨_, I', k _ _ q rS' f⟩
  · exact q.elim
variable {o f : Expr} {to : DTE} {apos cpos : Pos}
end
end DL

namespace DL
open PySem PySem.Spec PyProof.Rows L2
variable [Amb]

section
variable {X : Cx} {a b e : Expr} {ta tb : DTE} {pos : Pos} {pins : List (Addr × Obj)} {σ : L2.St} {H : Hp} {s : Shared}
def okShow (p : PyData) : Prop := p.showable = true ∧ p.hasDict = false ∧ p.depth ≤ 62 ∧ p.shown.length ≤ sizeLine
def rReprD : RAD := fun ds S Q => ∃ x p, ds = [x] ∧ toP S x p ∧ (∃ xs, p = .tuple xs ∨ p = .list xs) ∧ okShow p ∧ Q (.str p.shown) S
theorem dc_repr (hu : X.A.units + 64 < cLine) (hg : X.A.guards = some []) : DCall X (.builtin "repr") rReprD := by
  intro pins s σ H xs us Q I r ⟨ds, S, Q0, den, rS, ⟨x, p, e1, tp, hs, ⟨s1, s2, s3, s4⟩, q⟩, k⟩
  subst e1
  obtain ⟨v, w, rfl, d1, d2⟩ := den.uncons
  cases d2.nil_eq
  obtain ⟨u, rfl, ru⟩ := vals1 r
  obtain ⟨as, hr⟩ := Dp.reads I p v u (toP_dp rS d1 tp) ru
  obtain ⟨b, rfl⟩ : ∃ b, u = .ref b := by
    obtain ⟨zs, rfl | rfl⟩ := hs
    · cases hr
      exact ⟨_, rfl⟩
    · cases hr
      exact ⟨_, rfl⟩
  exact repr_of_reads' hr s1 (fun z => by rw [s2] at z; cases z) hg (by omega) (fun _ _ z => z) (fun h' u tk hk => ⟨.str p.shown, H, I.kept hk, ⟨_, rfl⟩, k _ S _ H q rfl rS Frame.refl⟩) s4

theorem plT_seq {p : Addr} {vs : List V} (I : Inv X pins σ H s) (h : PlT X.K H p vs) : ∃ its : List Value, Vals vs its ∧ PlainSeq "tuple" s.heap p its.toArray ∧ vs.length ≤ sizeLine := by
  rcases h with ⟨o, ⟨hc, hd, its0, n, hdat⟩, h⟩ | ⟨o, its, n, h1, h2, h3, h4, h5, h6⟩
  · obtain ⟨e, z, its, r, ⟨o', e', c', n', d'⟩⟩ := (show ObjOk X.prog X.w H s.heap p (.frz o (.tup vs)) from I.hok p _ h)
    rw [e] at e'
    cases e'
    exact ⟨its, r, ⟨o, n', e, hc, hd, d'⟩, z⟩
  · refine ⟨its.toList, h6, ⟨o, n, I.kIn p o h1, h2, h3, by simpa using h4⟩, ?_⟩
    have e := h6.length
    simp only [Array.length_toList] at e
    omega

theorem pairs_den {K : PySem.W.Frag} {H : Hp} : ∀ {kvs : List (Key × D)} {vs : List V}, DenL K H (kvs.map fun kv => D.tup [keyD kv.1, kv.2]) vs →
    ∃ (ts : List Addr) (kv : List (Key × V)), vs = ts.map V.ref ∧ KVD K H kvs kv ∧ Paired (fun t q => SqT K H t [kV q.1, q.2]) ts kv
  | [], vs, h => by
    cases h.nil_eq
    exact ⟨[], [], rfl, .nil, .nil⟩
  | (k, d) :: r, vs, h => by
    obtain ⟨v, w, rfl, h1, h2⟩ := h.uncons
    obtain ⟨p, us, rfl, ht, hd⟩ := h1.untup
    obtain ⟨u1, w1, rfl, g1, g2⟩ := hd.uncons
    obtain ⟨u2, w2, rfl, g3, g4⟩ := g2.uncons
    cases g4.nil_eq
    cases den_key g1
    obtain ⟨ts, kv, rfl, r1, r2⟩ := pairs_den h2
    exact ⟨p :: ts, (k, u2) :: kv, rfl, .cons ⟨rfl, g3⟩ r1, .cons ht.sq r2⟩
theorem pairs_heap (I : Inv X pins σ H s) : ∀ {ts : List Addr} {kvs : List (Key × V)}, Paired (fun t kv => SqT X.K H t [kV kv.1, kv.2]) ts kvs →
    ∃ (prs : List (Key × Value)) (ps : List (Value × Value)), KV kvs prs ∧ prs.length = ts.length ∧ ps.length = ts.length ∧ (∀ (j : Nat) (q : Value × Value), ps[j]? = some q → ∃ t, ts[j]? = some t ∧ IsTup s.heap t #[q.1, q.2]) ∧
      ∀ (j : Nat) (k v : Value), ps[j]? = some (k, v) → ∃ c, prs[j]? = some (c, v) ∧ (mixKind X.prog X.w).is c k = true
  | _, _, .nil => ⟨[], [], .nil, rfl, rfl, (fun j q e => by simp at e), fun j k v e => by simp at e⟩
  | _, _, .cons (a := p) (b := kv) h t => by
    obtain ⟨prs, ps, r, hl, hl2, h1, h2⟩ := pairs_heap I t
    obtain ⟨its, rv, ht, _⟩ := I.tuple h
    obtain ⟨u, y, ei, ru, ry⟩ := vals2 rv
    subst ei
    refine ⟨(kv.1, y) :: prs, (u, y) :: ps, .cons ⟨rfl, ry⟩ r, by rw [List.length_cons, List.length_cons, hl], by rw [List.length_cons, List.length_cons, hl2], fun j q e => ?_, fun j k v e => ?_⟩
    · cases j with
      | zero =>
        have e' : (u, y) = q := Option.some.inj e
        subst e'
        exact ⟨p, rfl, ht⟩
      | succ j =>
        obtain ⟨t, e1, e2⟩ := h1 j q (by simpa using e)
        exact ⟨t, by simpa using e1, e2⟩
    · cases j with
      | zero =>
        have e' : (u, y) = (k, v) := Option.some.inj e
        cases e'
        exact ⟨kv.1, rfl, kV_is (P := X.prog) (w := X.w) ru⟩
      | succ j =>
        obtain ⟨c, e1, e2⟩ := h2 j k v (by simpa using e)
        exact ⟨c, by simpa using e1, e2⟩
def rDictT : RAD := fun ds S Q => ∃ kvs : List (Key × D), ds = [.tup (kvs.map fun kv => D.tup [keyD kv.1, kv.2])] ∧ ∀ p, S p = none → Q (.ref p) (put S p (.dic (mergeD [] kvs)))
theorem dc_dictT (hcalm : X.calm = true) : DCall X (.type "dict") rDictT := by
  intro pins s σ H xs us Q I r ⟨ds, S, Q0, den, rS, ⟨kvs, e1, q⟩, k⟩
  subst e1
  obtain ⟨v, w, rfl, d1, d2⟩ := den.uncons
  cases d2.nil_eq
  obtain ⟨a, vs, rfl, hpl, hds⟩ := d1.untup
  obtain ⟨u, rfl, ru⟩ := vals1 r
  cases ru
  obtain ⟨ts, kv, rfl, g1, g2⟩ := pairs_den hds
  obtain ⟨its, rv, hseq, hz⟩ := plT_seq I hpl
  have ei := refs_at rv
  subst ei
  rw [List.length_map] at hz
  obtain ⟨prs, ps, rel, hl, hl2, h1, h2⟩ := pairs_heap I g2
  have hitems : PairItems s.heap (ts.map Value.ref).toArray (fun j => ts.getD j 0) ps := by
    refine ⟨by simp [hl2], fun j k v e => ?_⟩
    obtain ⟨t, e1, e2⟩ := h1 j (k, v) e
    refine ⟨by simp [e1], ?_⟩
    have e3 : ts.getD j 0 = t := by simp [e1]
    show PairAt s.heap (ts.getD j 0) k v
    rw [e3]
    exact .inl e2
  have P := PairArg.tuple (prog := X.prog) (w := X.w) a (ts.map Value.ref).toArray (fun j => ts.getD j 0) ps
  refine PySem.call_dict_pairs (knd := mixKind X.prog X.w) (kvs := prs) P (I.ok.hd hcalm) ⟨hseq, hitems⟩ ⟨by rw [hl, hl2], fun i key v hr => h2 i key v hr⟩ (by rw [hl2]; exact hz) fun h' tk hd' hk => ?_
  have hm : (s.heap.objs.size == sysModules) = false := beq_eq_false_iff_ne.mpr (Nat.ne_of_gt I.big)
  have hlen : (mergeK [] kv).length ≤ sizeLine := by
    refine Nat.le_trans (length_mergeK kv []) ?_
    rw [List.length_nil, Nat.zero_add, rel.length, hl]
    exact hz
  have hn : H s.heap.objs.size = none := I.hok.fresh (Nat.le_refl _)
  refine ⟨.ref s.heap.objs.size, upd H s.heap.objs.size (.dK (mergeK [] kv)), I.laid (t' := tk) (fun b o e => hk b o (by simp) e) (Nat.le_refl _) (show ObjOk X.prog X.w _ _ _ (.dK (mergeK [] kv)) from ⟨hlen, hm, merged [] prs, KV.merge rel .nil, hd'⟩), rfl, ?_⟩
  exact k (.ref _) _ (.ref _) _ (q _ (rS.free hn)) rfl (rS.add hn (cell_dic upd_same ((KVD.merge g1 .nil).frame rS (frame_new (S := S) hn)))) (frame_add hn)

def rMulT : R2D := fun x y S Q => ∃ ds i, x = .tup ds ∧ y = .int i ∧ ds ≠ [] ∧ 2 ≤ i ∧ i ≤ 1000 ∧ ds.length ≤ 1000 ∧ Q (.tup (List.replicate i.toNat ds).flatten) S
theorem dop_mulT : DOp X (binaryOp .Mult) rMulT := by
  intro pins s σ H x y v u Q I rx ry ⟨d, e, S, Q0, d1, d2, rS, ⟨ds, k, e1, e2, hne, h1, h2, hz, q⟩, kk⟩
  subst e1 e2
  obtain ⟨l, xs, rfl, hpl, hd⟩ := d1.untup
  cases (show y = .int k from d2)
  cases rx
  obtain ⟨t, rfl⟩ := ry
  have hxl := hd.length
  obtain ⟨its, r, ⟨⟨cls, dd, data, sl⟩, ho, hc, n, hd'⟩, hs⟩ := I.tuple hpl.sq
  simp only at hc hd'
  subst hc hd'
  have hle : its.length = xs.length := r.length.symm
  have hn : its ≠ [] := fun e => hne (by
    rw [e] at hle
    exact List.eq_nil_of_length_eq_zero (by rw [← hxl]; exact hle.symm))
  have hi : its.toArray.isEmpty = false := by
    cases its with
    | nil => exact absurd rfl hn
    | cons a b => rfl
  have hsz0 : its.toArray.size = xs.length := by rw [List.size_toArray, hle]
  have hxz : xs.length ≤ 1000 := by omega
  have hm : ((its.toArray.size : Nat) : Int) * k ≤ 1000000 := by
    rw [hsz0]
    have a1 : ((xs.length : Nat) : Int) * k ≤ 1000 * k := Int.mul_le_mul_of_nonneg_right (by omega) (by omega)
    omega
  have hrl : k.toNat * xs.length ≤ 1000 * 1000 := Nat.mul_le_mul (by omega) hxz
  have flen : (List.replicate k.toNat its).flatten.length ≤ sizeLine := by
    rw [PyProof.Rows.lm_len_rep_flat, hle, sizeLine_eq]
    omega
  have c0 : (decide (k < -(2 ^ 63)) || decide (k ≥ 2 ^ 63)) = false := by
    rw [decide_eq_false (by omega), decide_eq_false (by omega)] <;> rfl
  have c1 : (its.toArray.isEmpty || k == 1) = false := by
    rw [hi, Bool.false_or]
    exact beq_eq_false_iff_ne.mpr (by omega)
  have c2 : (decide (k ≤ 0) || its.toArray.isEmpty) = false := by
    rw [hi, Bool.or_false]
    exact decide_eq_false (by omega)
  have c4 : Builtin.Tuple.tupleTooMany (((its.toArray.size : Nat) : Int) * k) = false := by
    unfold Builtin.Tuple.tupleTooMany
    rw [sizeLine_eq]
    exact decide_eq_false (by omega)
  refine wpAny_binaryOp_repeat_ref (T := "tuple") (U := "int") (by decide) ⟨_, ho, rfl⟩ (fun s' => typeIs_int s' k t) noFill_tuple_mul F.fills_int_mul F.slot_int_rmul repeat_tuple F.slot_int_index.lookup
    (call_meets F.slot_int_rmul (typeIs_int s k t) F.entry_int_rmul (F.args_int_rmul_2 _ _) (int_rmul_tuple k t l its.toArray n dd sl)
      ⟨ho, rfl, ⟨_, ho, rfl⟩, call_meets F.slot_tuple_mul ⟨_, ho, rfl⟩ F.entry_tuple_mul (F.args_tuple_mul_2 _ _) (tuple_mulW l its.toArray n dd sl k t c0 c1 c2 (by omega) c4 (by rw [size_rep, List.size_toArray]; exact flen)) ⟨ho, ?_⟩⟩)
  rw [size_rep]
  refine ep_newT (t' := s.toks) I (r.rep k.toNat) (by rw [PyProof.Rows.lm_len_rep_flat, sizeLine_eq]; omega) ?_
  exact WkE.newTup kk rS (denL_rep k.toNat hd) q

end
end DL

namespace DL
open PySem PySem.Spec PyProof.Rows L2
variable [Amb]

section
variable {X : Cx} {a b e : Expr} {ta tb : DTE} {pos : Pos}
def mAdd : R2D := fun x y S Q => match x, y with
  | .int i, .int j => Q (.int (i + j)) S
  | .str a, .str b => a.length + b.length ≤ 1000000 ∧ Q (.str (a ++ b)) S
  | .tup a, .tup b => a.length + b.length ≤ 1000000 ∧ Q (.tup (a ++ b)) S
  | _, _ => False
theorem dm_add : DOp X (binaryOp .Add) mAdd := DOp_imp dop_add fun x y S Q h => by
  unfold mAdd at h
  split at h
  · exact .inl ⟨_, _, rfl, rfl, h⟩
  · exact .inr (.inl ⟨_, _, rfl, rfl, h.1, h.2⟩)
  · exact .inr (.inr ⟨_, _, rfl, rfl, h.1, h.2⟩)
  · exact h.elim
def mSub : R2D := fun x y S Q => match x, y with
  | .int i, .int j => Q (.int (i - j)) S
  | _, _ => False
theorem dm_sub : DOp X (binaryOp .Sub) mSub := DOp_imp dop_sub fun x y S Q h => by
  unfold mSub at h
  split at h
  · exact ⟨_, _, rfl, rfl, h⟩
  · exact h.elim
def mMul : R2D := fun x y S Q => match x, y with
  | .int i, .int j => CMulW i j ∧ Q (.int (i * j)) S
  | .str a, .int i => rMulS (.str a) (.int i) S Q
  | .tup ds, .int i => ds ≠ [] ∧ 2 ≤ i ∧ i ≤ 1000 ∧ ds.length ≤ 1000 ∧ Q (.tup (List.replicate i.toNat ds).flatten) S
  | _, _ => False
theorem dm_mul : DOp X (binaryOp .Mult) mMul := DOp_imp (OpR_or dop_mulI (OpR_or dop_mulS dop_mulT)) fun x y S Q h => by
  unfold mMul at h
  split at h
  · exact .inl ⟨_, _, rfl, rfl, h.1, h.2⟩
  · exact .inr (.inl h)
  · exact .inr (.inr ⟨_, _, rfl, rfl, h⟩)
  · exact h.elim
def mDiv : R2D := fun x y S Q => match x, y with
  | .int i, .int j => CDivW i j ∧ Q (.int (i / j)) S
  | _, _ => False
theorem dm_div : DOp X (binaryOp .FloorDiv) mDiv := DOp_imp dop_fdiv fun x y S Q h => by
  unfold mDiv at h
  split at h
  · exact ⟨_, _, rfl, rfl, h.1, h.2⟩
  · exact h.elim
def mMod : R2D := fun x y S Q => match x, y with
  | .int i, .int j => 0 < j ∧ Q (.int (i % j)) S
  | _, _ => False
theorem dm_mod : DOp X (binaryOp .Mod) mMod := DOp_imp dop_mod fun x y S Q h => by
  unfold mMod at h
  split at h
  · exact ⟨_, _, rfl, rfl, h.1, h.2⟩
  · exact h.elim
def mPow : R2D := fun x y S Q => match x, y with
  | .int i, .int j => CPow i j ∧ Q (.int (i ^ j.toNat)) S
  | _, _ => False
theorem dm_pow : DOp X (binaryOp .Pow) mPow := DOp_imp dop_pow fun x y S Q h => by
  unfold mPow at h
  split at h
  · exact ⟨_, _, rfl, rfl, h.1, h.2⟩
  · exact h.elim
def mCmp (f : Int → Int → Bool) : R2D := fun x y S Q => match x, y with
  | .int i, .int j => Q (.bl (f i j)) S
  | _, _ => False
theorem mCmp_of {f : Int → Int → Bool} {g : Value → Value → Sem Value} (h0 : DOp X g (rIi fun i j => .bl (f i j))) : DOp X g (mCmp f) := DOp_imp h0 fun x y S Q h => by
  unfold mCmp at h
  split at h
  · exact ⟨_, _, rfl, rfl, h⟩
  · exact h.elim
def mLt : R2D := mCmp fun i j => decide (i < j)
def mLe : R2D := mCmp fun i j => decide (i ≤ j)
def mGt : R2D := mCmp fun i j => decide (j < i)
def mGe : R2D := mCmp fun i j => decide (j ≤ i)
theorem dm_lt : DOp X (compareOp .Lt) mLt := mCmp_of dop_lt
theorem dm_le : DOp X (compareOp .LtE) mLe := mCmp_of dop_le
theorem dm_gt : DOp X (compareOp .Gt) mGt := mCmp_of dop_gt
theorem dm_ge : DOp X (compareOp .GtE) mGe := mCmp_of dop_ge
mutual
theorem py_plain : ∀ d : D, d.plain = true → d.py.plain = true
  | .non, _ => rfl
  | .bl _, _ => rfl
  | .int _, _ => rfl
  | .str _, _ => rfl
  | .ty _, h => nomatch h
  | .ref _, h => nomatch h
  | .tup ds, h => py_plainL ds h
  | .ilst ds, h => py_plainL ds h
  | .fdic _ _, h => nomatch h
theorem py_plainL : ∀ ds : List D, plainL ds = true → PyData.plainAll (pys ds) = true
  | [], _ => rfl
  | d :: ds, h => by
    have h' : (d.plain && plainL ds) = true := h
    rw [Bool.and_eq_true] at h'
    show (d.py.plain && PyData.plainAll (pys ds)) = true
    rw [py_plain d h'.1, py_plainL ds h'.2]
    rfl
end
def mEqP (neg : Bool) : R2D := fun x y S Q => x.plain = true ∧ y.plain = true ∧ min x.py.depth y.py.depth ≤ 60 ∧ Q (.bl (if neg then !PyData.eqv x.py y.py else PyData.eqv x.py y.py)) S
theorem dop_eqP (hu : X.A.units + 64 < cLine) : DOp X (compareOp .Eq) (mEqP false) := by
  intro pins s σ H x y v u Q I rx ry ⟨d, e, S, Q0, d1, d2, rS, ⟨p1, p2, hd, q⟩, k⟩
  obtain ⟨as, r1⟩ := Dp.reads I d.py x v (Den.dp d x d1 p1) rx
  obtain ⟨bs, r2⟩ := Dp.reads I e.py y u (Den.dp e y d2 p2) ry
  exact PySem.SeqAt.eq_plain r1 r2 (py_plain d p1) (py_plain e p2) (by omega) ⟨.bl _, H, I, rfl, k _ S _ H q rfl rS Frame.refl⟩
theorem dop_neP (hu : X.A.units + 64 < cLine) : DOp X (compareOp .NotEq) (mEqP true) := by
  intro pins s σ H x y v u Q I rx ry ⟨d, e, S, Q0, d1, d2, rS, ⟨p1, p2, hd, q⟩, k⟩
  obtain ⟨as, r1⟩ := Dp.reads I d.py x v (Den.dp d x d1 p1) rx
  obtain ⟨bs, r2⟩ := Dp.reads I e.py y u (Den.dp e y d2 p2) ry
  exact PySem.SeqAt.ne_plain r1 r2 (py_plain d p1) (py_plain e p2) (by omega) ⟨.bl _, H, I, rfl, k _ S _ H q rfl rS Frame.refl⟩
def mEq (neg : Bool) : R2D := fun x y S Q => match x, y with
  | .str a, .str b => Q (.bl (if neg then !decide (a = b) else decide (a = b))) S
  | .int a, .int b => Q (.bl (if neg then !decide (a = b) else decide (a = b))) S
  | x, y => mEqP neg x y S Q
theorem mEq_split {neg : Bool} {x y : D} {S : SD} {Q : DK} (h : mEq neg x y S Q) : rEqS neg x y S Q ∨ mEqP neg x y S Q := by
  unfold mEq at h
  split at h
  · exact .inl ⟨_, _, rfl, rfl, h⟩
  · refine .inr ⟨rfl, rfl, Nat.zero_le _, ?_⟩
    have e : ∀ a b : Int, PyData.eqv (D.int a).py (D.int b).py = decide (a = b) := fun a b => by
      simp only [D.py, PyData.eqv]
      exact (Bool.beq_eq_decide_eq a b)
    rw [e]
    exact h
  · exact .inr h
theorem dm_eq (hu : X.A.units + 64 < cLine) : DOp X (compareOp .Eq) (mEq false) := DOp_imp (OpR_or dop_eqS (dop_eqP hu)) fun _ _ _ _ => mEq_split
theorem dm_ne (hu : X.A.units + 64 < cLine) : DOp X (compareOp .NotEq) (mEq true) := DOp_imp (OpR_or dop_neS (dop_neP hu)) fun _ _ _ _ => mEq_split
def mIn (neg : Bool) : R2D := fun x y S Q => match y with
  | .tup ds => flatD x = true ∧ ds.all flatD = true ∧ Q (.bl (if neg then !inD x ds else inD x ds)) S
  | .ilst ds => flatD x = true ∧ ds.all flatD = true ∧ Q (.bl (if neg then !inD x ds else inD x ds)) S
  | .ref p => (∃ ds, S p = some (.lst ds) ∧ flatD x = true ∧ ds.all flatD = true ∧ Q (.bl (if neg then !inD x ds else inD x ds)) S) ∨
      ∃ kvs k, S p = some (.dic kvs) ∧ x = keyD k ∧ Q (.bl (if neg then !(valD kvs k).isSome else (valD kvs k).isSome)) S
  | _ => False
theorem mIn_split {neg : Bool} {x y : D} {S : SD} {Q : DK} (h : mIn neg x y S Q) : DL.rInD neg x y S Q ∨ rInDic neg x y S Q := by
  unfold mIn at h
  split at h
  · exact .inl ⟨_, .inl rfl, h⟩
  · exact .inl ⟨_, .inr (.inl rfl), h⟩
  · rcases h with ⟨ds, hp, h⟩ | ⟨kvs, k, hp, hx, h⟩
    · exact .inl ⟨ds, .inr (.inr ⟨_, rfl, hp⟩), h⟩
    · exact .inr ⟨_, kvs, k, rfl, hp, hx, h⟩
  · exact h.elim
theorem dm_notIn (hu : X.A.units + 1 < cLine) : DOp X (compareOp .NotIn) (mIn true) := DOp_imp (OpR_or dop_notIn (dop_notInDic hu)) fun _ _ _ _ => mIn_split
def dNilL (neg : Bool) (te : DTE) : DTE := fun ε S Q => te ε S fun x S1 => ∃ p ds, x = .ref p ∧ S1 p = some (.lst ds) ∧ Q (.bl (if neg then !ds.isEmpty else ds.isEmpty)) S1
def rNilL (K : PySem.W.Frag) (neg : Bool) : R2 := fun x y H Q => ∃ a c xs, x = .ref a ∧ y = .ref c ∧ SqL K H a xs ∧ SqL K H c [] ∧ Q (.bl (if neg then !xs.isEmpty else xs.isEmpty)) H
theorem op_nilE (hu : X.A.units + 1 < cLine) : OpR X (compareOp .Eq) (rNilL X.K false) := by
  intro pins s σ H x y v u Q I rx ry ⟨a, c, xs, e1, e2, h1, h2, q⟩
  subst e1 e2
  cases rx
  cases ry
  obtain ⟨its, r, p, _⟩ := I.list h1
  obtain ⟨its2, r2, p2, _⟩ := I.list h2
  cases r2
  have hl := r.length
  cases xs with
  | nil =>
    cases r
    exact PySem.SeqAt.eq_listAt (e := fun _ => true) p.isList p2.isList rfl (by omega) (fun j h => absurd h (by simp)) ⟨.bl true, H, I, rfl, q⟩
  | cons z zs =>
    refine PySem.SeqAt.eq_list_lengthsAt p.isList p2.isList ?_ (by omega) ⟨.bl false, H, I, rfl, q⟩
    rw [List.size_toArray, ← hl, List.length_cons]
    simp
theorem op_nilN (hu : X.A.units + 1 < cLine) : OpR X (compareOp .NotEq) (rNilL X.K true) := by
  intro pins s σ H x y v u Q I rx ry ⟨a, c, xs, e1, e2, h1, h2, q⟩
  subst e1 e2
  cases rx
  cases ry
  obtain ⟨its, r, p, _⟩ := I.list h1
  obtain ⟨its2, r2, p2, _⟩ := I.list h2
  cases r2
  have hl := r.length
  cases xs with
  | nil =>
    cases r
    exact PySem.SeqAt.RcNeAt.lists (e := fun _ => true) p.isList p2.isList rfl (by omega) (fun j h => absurd h (by simp)) _ _ _ _ ⟨.bl false, H, I, rfl, q⟩
  | cons z zs =>
    refine PySem.SeqAt.RcNeAt.lists_lengths p.isList p2.isList ?_ (by omega) _ _ _ _ ⟨.bl true, H, I, rfl, q⟩
    rw [List.size_toArray, ← hl, List.length_cons]
    simp
theorem isEmpty_den {K : PySem.W.Frag} {H : Hp} {ds : List D} {vs : List V} (h : DenL K H ds vs) : vs.isEmpty = ds.isEmpty := by
  cases ds with
  | nil => cases h.nil_eq; rfl
  | cons d ds => obtain ⟨v, w, rfl, _, _⟩ := h.uncons; rfl
theorem nil_lift {K : PySem.W.Frag} {neg : Bool} {σ : L2.St} {H : Hp} {Q : VK} (h : liftE K (dNilL neg ta) σ H Q) : tOp (rNilL K neg) (liftE K ta) (tLst tNil) σ H Q := by
  obtain ⟨ε, S, Q0, rE, rS, q, k⟩ := h
  refine ⟨ε, S, _, rE, rS, q, fun d S1 v H1 ⟨p, ds, e1, hp, q1⟩ den rS1 f1 => ?_⟩
  subst e1
  cases (show v = .ref p from den)
  obtain ⟨vs, h1, h2⟩ := rS1.lst hp
  refine ⟨Nat.zero_le _, fun c hc => ?_⟩
  have ne : p ≠ c := ne_of_none h1 hc
  refine ⟨p, c, vs, rfl, rfl, SqL.of (by rw [upd_ne ne]; exact h1), SqL.of upd_same, ?_⟩
  rw [isEmpty_den h2]
  exact k _ S1 _ _ q1 rfl (rS1.frame_new hc) (f1.trans (frame_new hc))
theorem dt_nilE (hu : X.A.units + 1 < cLine) {p1 : Pos} (ha : DE X a ta) (hm : behindInMarks .Eq (.List [] p1) = false := by first | exact nomark _ | with_unfolding_all rfl) : DT X (.Compare a [.Eq] [.List [] p1] pos) (dB (dNilL false ta)) :=
  PT_imp (pt_cmpR (op_nilE hu) ha (pe_lst pa_nil) hm) (dB_lift fun _ _ _ => nil_lift)
theorem dt_nilN (hu : X.A.units + 1 < cLine) {p1 : Pos} (ha : DE X a ta) (hm : behindInMarks .NotEq (.List [] p1) = false := by first | exact nomark _ | with_unfolding_all rfl) : DT X (.Compare a [.NotEq] [.List [] p1] pos) (dB (dNilL true ta)) :=
  PT_imp (pt_cmpR (op_nilN hu) ha (pe_lst pa_nil) hm) (dB_lift fun _ _ _ => nil_lift)
def mCountT : RMD := fun x xs S Q => ∃ ds d, x = .tup ds ∧ xs = [d] ∧ plainL ds = true ∧ d.plain = true ∧ d.py.depth ≤ 60 ∧ Q (.int ((pys ds).countP fun y => PyData.eqv y d.py : Nat)) S
end

structure DC (P : Program) (w : World) (K : PySem.W.Frag) (mg : Str → Option Value) (base : Heap) (k : Nat) (x : Str) (ps : List Str) (sp : DSp) : Prop where
  ex : ∃ f fd, FnD P w K mg base k f fd ps sp ∧ mg x = some (.ref f) ∧ PySem.W.keepIn K (.ref f) = true ∧ Binds K fd ps []
theorem DC.up {P : Program} {w : World} {K : PySem.W.Frag} {mg : Str → Option Value} {base : Heap} {k j : Nat} {x : Str} {ps : List Str} {sp : DSp} (C : DC P w K mg base k x ps sp) (h : k ≤ j) : DC P w K mg base j x ps sp :=
  let ⟨f, fd, F, r⟩ := C.ex
  ⟨f, fd, F.mono h, r⟩
section
variable {X : Cx} {k : Nat} {ps : List Str} {sp : DSp} {x : Str} {p pos : Pos} {e : Expr} {es : List Expr} {ta : DTA}
inductive Do (p : Prop) : Prop where
  | it (h : p)
  | go (h : p)
theorem Do.out {p : Prop} : Do p → p
  | .it h => h
  | .go h => h
end
def bltNames : List String := ["len", "range", "int", "tuple", "list", "dict", "min", "max", "enumerate", "repr", "isinstance", "all", "any", "sum", "sorted", "zip", "reversed", "str", "bool", "set"]
structure BI (mg : Str → Option Value) : Prop where
  all : ∀ x ∈ bltNames, mg (Str.ofString x) = none

def Ext (ks : List Addr) (S S' : SD) : Prop := ∀ q c, q ∉ ks → S q = some c → S' q = some c
theorem Ext.refl {ks : List Addr} {S : SD} : Ext ks S S := fun _ _ _ h => h
theorem Ext.at {ks : List Addr} {S S' : SD} {q : Addr} {c : Cell} (e : Ext ks S S') (h : S q = some c) (hq : q ∉ ks) : S' q = some c := e q c hq h
theorem Ext.trans {ks ks' : List Addr} {S S1 S2 : SD} (a : Ext ks S S1) (b : Ext ks' S1 S2) (h : ∀ q ∈ ks', q ∈ ks ∨ S q = none) : Ext ks S S2 := fun q c hq hc => by
  refine b q c (fun z => ?_) (a q c hq hc)
  rcases h q z with y | y
  · exact hq y
  · rw [hc] at y; cases y
theorem Ext.put {ks : List Addr} {S S1 : SD} {p : Addr} {c : Cell} (a : Ext ks S S1) (h : p ∈ ks ∨ S p = none) : Ext ks S (put S1 p c) := fun q x hq hx => by
  have ne : q ≠ p := by
    rintro rfl
    rcases h with y | y
    · exact hq y
    · rw [hx] at y; cases y
  rw [put_ne ne]
  exact a q x hq hx
theorem Ext.none {ks : List Addr} {S S1 : SD} {p : Addr} (a : Ext ks S S1) (h : S1 p = .none) (hp : p ∉ ks) : S p = .none := by
  cases e : S p with
  | none => rfl
  | some c =>
    rw [a p c hp e] at h
    cases h
end DL

namespace DL
open PySem PySem.Spec PyProof.Rows L2
variable [Amb]

section
variable {X : Cx} {pos : Pos}
def dPar2 (i j : Nat) (ta : DTA) : DTS := fun D ε S => ta ε S fun ds S1 => ∃ v w, ds = [v, w] ∧ D.nx ((ε.set i (some v)).set j (some w)) S1
theorem ds_par2 {i j : Nat} {x y : Str} {a b : Expr} {ta : DTA} {px py pt : Pos} {kt k2 pt2} (hc : X.calm = true) (hN : X.N.Nodup) (ha : DA X [a, b] ta) (hi : X.N[i]? = some x := by rfl) (hj : X.N[j]? = some y := by rfl) (hij : i ≠ j := by decide)
    (hx : X.env.scope.names.lookup x = some .local := by rfl) (hy : X.env.scope.names.lookup y = some .local := by rfl)
    (hw : swappedStores [.Tuple [.Name x px, .Name y py] kt pt] (.Tuple [a, b] k2 pt2) X.env = pure (some [x, y]) := by rfl)
    (hs : swapsWithSole [.Tuple [.Name x px, .Name y py] kt pt] (.Tuple [a, b] k2 pt2) pos.line X.env = pure false := by rfl) :
    DS X (.Assign [.Tuple [.Name x px, .Name y py] kt pt] (.Tuple [a, b] k2 pt2) pos) (dPar2 i j ta) :=
  PS_imp (ps_par hc hN hi hj hij hx hy ha hw hs) fun D σ H ⟨ε, S, D0, rE, rS, q, k⟩ => ⟨ε, S, _, rE, rS, q, fun ds S1 vs H1 q1 den rS1 f1 => by
    obtain ⟨d, e, e1, q2⟩ := q1
    subst e1
    obtain ⟨v, w, rfl, d1, d2⟩ := den2 den
    exact ⟨v, w, rfl, k.nx _ S1 _ H1 q2 (((rE.frame rS f1).set i d1).set j d2) rS1 f1⟩⟩
end
theorem DC.no {P : Program} {w : World} {K : PySem.W.Frag} {mg : Str → Option Value} {base : Heap} {f : Addr} {fd : FuncData} {x : Str} {ps : List Str} (g : mg x = some (.ref f)) (kp : PySem.W.keepIn K (.ref f) = true) (bd : Binds K fd ps []) (k : Nat) :
    DC P w K mg base k x ps (fun _ _ _ => False) :=
  ⟨f, fd, ⟨fun _ _ _ _ ⟨_, _, _, _, _, h, _⟩ => h.elim, fun _ _ _ _ _ _ _ _ _ _ _ _ _ ⟨_, _, _, _, _, h, _⟩ => h.elim⟩, g, kp, bd⟩
theorem DC.imp {P : Program} {w : World} {K : PySem.W.Frag} {mg : Str → Option Value} {base : Heap} {k : Nat} {x : Str} {ps : List Str} {sp sp' : DSp} (C : DC P w K mg base k x ps sp) (h : ∀ ds S Q, sp' ds S Q → sp ds S Q) : DC P w K mg base k x ps sp' :=
  let ⟨f, fd, F, r⟩ := C.ex
  ⟨f, fd, F.imp h, r⟩

theorem Ext.new {S : SD} {p : Addr} {c : Cell} (h : S p = .none) : Ext [] S (DL.put S p c) := Ext.refl.put (.inr h)
end DL

namespace DL
open PySem PySem.Spec PyProof.Rows L2 NdefX LamX
variable [Amb]

theorem PlT.un {K : PySem.W.Frag} {fs ex : List Addr} {H H' : Hp} {h h' : Heap} (u : Un fs ex H H' h h') {a : Addr} {vs : List V} (p : PlT K H a vs) : PlT K H' a vs := by
  rcases p with ⟨o, p, q⟩ | q
  · exact .inl ⟨o, p, u.frzs a o _ q⟩
  · exact .inr q
theorem StL.un {K : PySem.W.Frag} {fs ex : List Addr} {H H' : Hp} {h h' : Heap} (u : Un fs ex H H' h h') {a : Addr} {vs : List V} (p : StL K H a vs) : StL K H' a vs := by
  rcases p with ⟨o, q⟩ | q
  · exact .inl ⟨o, u.frzs a o _ q⟩
  · exact .inr q
mutual
theorem Den.un {K : PySem.W.Frag} {fs ex : List Addr} {H H' : Hp} {h h' : Heap} (u : Un fs ex H H' h h') : ∀ (d : D) (v : V), Den K H d v → Den K H' d v
  | .non, _, h => h
  | .bl _, _, h => h
  | .int _, _, h => h
  | .str _, _, h => h
  | .ty _, _, h => h
  | .ref _, _, h => h
  | .tup ds, v, h => by
    obtain ⟨a, vs, e, h1, h2⟩ := (show ∃ a vs, v = .ref a ∧ PlT K H a vs ∧ DenL K H ds vs from h)
    exact (show ∃ a vs, v = .ref a ∧ PlT K H' a vs ∧ DenL K H' ds vs from ⟨a, vs, e, h1.un u, DenL.un u ds vs h2⟩)
  | .ilst ds, v, h => by
    obtain ⟨a, vs, e, h1, h2⟩ := (show ∃ a vs, v = .ref a ∧ StL K H a vs ∧ DenL K H ds vs from h)
    exact (show ∃ a vs, v = .ref a ∧ StL K H' a vs ∧ DenL K H' ds vs from ⟨a, vs, e, h1.un u, DenL.un u ds vs h2⟩)
  | .fdic ks ds, v, h => by
    obtain ⟨a, o, kv, e, h1, h2, h3⟩ := (show ∃ a o kv, v = .ref a ∧ H a = some (.frz o (.dK kv)) ∧ kv.map (·.1) = ks ∧ DenL K H ds (kv.map (·.2)) from h)
    exact (show ∃ a o kv, v = .ref a ∧ H' a = some (.frz o (.dK kv)) ∧ kv.map (·.1) = ks ∧ DenL K H' ds (kv.map (·.2)) from ⟨a, o, kv, e, u.frzs a _ _ h1, h2, DenL.un u ds _ h3⟩)
theorem DenL.un {K : PySem.W.Frag} {fs ex : List Addr} {H H' : Hp} {h h' : Heap} (u : Un fs ex H H' h h') : ∀ (ds : List D) (vs : List V), DenL K H ds vs → DenL K H' ds vs
  | [], _, h => h
  | d :: ds, vs, h => by
    obtain ⟨v, w, e, h1, h2⟩ := (show ∃ v r, vs = v :: r ∧ Den K H d v ∧ DenL K H ds r from h)
    exact (show ∃ v r, vs = v :: r ∧ Den K H' d v ∧ DenL K H' ds r from ⟨v, w, e, Den.un u d v h1, DenL.un u ds w h2⟩)
end
structure NFn (P : Program) (w : World) (K : PySem.W.Frag) (mg : Str → Option Value) (base : Heap) (k : Nat) (f : Addr) (F : FK) (fr : List Str) (cs : List D) (sp : DSp) : Prop where
  run : ∀ (A : Around) (outer : List Env) (s : Shared) (H : Hp) (us : List Value) (vs ws : List V) (Q : VK) (E : XK), RoomG k A → Env0 P w K mg base A outer s H → H f = some (F.o f) → H F.c = some (CodeO F.c F.qual) → DenL K H cs ws →
    CellsAt F.cl fr (ws.map some) s.heap H → Vals vs us → liftSp K sp vs H Q E → codeAny (model P w) A (.call (.ref f) ⟨us, []⟩) (CR CX0 outer P w H s Q E) s
section
variable {P : Program} {w : World} {K : PySem.W.Frag} {mg : Str → Option Value} {base : Heap}
end
structure CbX (X : Cx) (k : Nat) (a : Addr) (F : FK) (sp : DSp) : Prop where
  ex : ∃ (fr : List Str) (cs : List D) (ws : List V), NFn X.prog X.w X.K X.mg X.base k a F fr cs sp ∧ DenL X.K X.H_0 cs ws ∧ CellsAt F.cl fr (ws.map some) X.s_0.heap X.H_0 ∧ (∀ y c, F.cl.lookup y = some c → c ∉ X.fs) ∧ ∀ y c, F.cl.lookup y = some c → c ∉ X.ex
theorem RelS.fn {K : PySem.W.Frag} {H : Hp} {S : SD} {a : Addr} {F : FK} (r : RelS K H S) (h : S a = some (.fn F)) : H a = some (F.o a) ∧ H F.c = some (CodeO F.c F.qual) := r.cell a _ h
end DL

namespace DL
open PySem PySem.Spec PyProof.Rows L2 NdefX LamX
variable [Amb]

theorem CellOk.ext {K : PySem.W.Frag} {H H1 : Hp} {S : SD} {a : Addr} {c : Cell} (r : RelS K H S) (f : Frame S H S H1) (e : ExtN H H1) (h : CellOk K H a c) : CellOk K H1 a c := by
  cases c with
  | lst ds => obtain ⟨vs, e1, e2⟩ := h; exact ⟨vs, e a _ e1 (fun _ z => nomatch z), DenL.frame r f ds vs e2⟩
  | dic kvs => obtain ⟨kv, e1, e2⟩ := h; exact ⟨kv, e a _ e1 (fun _ z => nomatch z), KVD.frame r f e2⟩
  | sat p => obtain ⟨ds, vs, q, e1, e2⟩ := h; exact ⟨ds, vs, q, e a _ e1 (fun _ z => nomatch z), DenL.frame r f ds vs e2⟩
  | fn F => obtain ⟨e1, e2⟩ := h; exact ⟨e a _ e1 (fun _ z => nomatch z), e F.c _ e2 (fun _ z => nomatch z)⟩
  | gen G ds => obtain ⟨o, vs, e1, g, e2⟩ := h; exact ⟨o, vs, e a _ e1 (G.notTbl g), g, DenL.frame r f ds vs e2⟩
structure CbS (P : Program) (w : World) (K : PySem.W.Frag) (mg : Str → Option Value) (base : Heap) (k : Nat) (outer : List Env) (s : Shared) (H : Hp) (a : Addr) (F : FK) (sp : DSp) : Prop where
  ex : ∃ (fr : List Str) (cs : List D) (ws : List V), NFn P w K mg base k a F fr cs sp ∧ DenL K H cs ws ∧ CellsAt F.cl fr (ws.map some) s.heap H ∧ ∀ y c, F.cl.lookup y = some c → c ∉ frs outer
structure Fn2 (P : Program) (w : World) (K : PySem.W.Frag) (mg : Str → Option Value) (base : Heap) (k j : Nat) (f : Addr) (fd : FuncData) (ps : List Str) (s1 s2 : DSp) (sp : Addr → FK → Addr → FK → DSp) : Prop where
  len : ∀ a1 F1 a2 F2 ds S Q, sp a1 F1 a2 F2 ds S Q → ds.length = ps.length
  run : ∀ (A : Around) (outer : List Env) (s : Shared) (H : Hp) (args : Args) (us : List Value) (vs : List V) (Q : VK) (E : XK) (a1 a2 : Addr) (F1 F2 : FK), RoomG k A → Env0 P w K mg base A outer s H → BindsTo s fd args (ps.zip us) →
    Vals vs us → CbS P w K mg base j outer s H a1 F1 s1 → CbS P w K mg base j outer s H a2 F2 s2 → liftSp K (sp a1 F1 a2 F2) vs H Q E → codeAny (model P w) A (.call (.ref f) args) (CR CX0 outer P w H s Q E) s
section
variable {P : Program} {w : World} {K : PySem.W.Frag} {mg : Str → Option Value} {base : Heap}
end
end DL

namespace DL
open PySem PySem.Spec PyProof.Rows L2 NdefX LamX
variable [Amb]

def Holds (js : List Nat) (ε : ED) (cs : List D) : Prop := js.map (fun j => ε[j]?) = cs.map fun d => some (some d)
structure Made (X : Cx) (scope : Scope) (fr : List Str) (js : List Nat) : Prop where
  free : ∀ y ∈ scope.names, y.2 = .free → X.env.scope.names.lookup y.1 = some .cell ∨ X.env.scope.names.lookup y.1 = some .free
  has : ∀ y ∈ fr, (y, NameKind.free) ∈ scope.names
  at_ : js.map (fun j => X.N[j]?) = fr.map some
  fn : ∀ y, X.fn y = true
end DL

namespace DL
open PySem PySem.Spec PyProof.Rows L2 NdefX LamX

abbrev emptyT : Obj := { cls := .none, data := .fields #[] }
abbrev ambOf (Ts : List Addr) (nm : Nat → Nat → Str) (cls : Str → Addr := fun _ => 0) (wd : World → Prop := fun _ => False) : Amb := ⟨Ts.map fun P => (P, nm), cls, wd⟩
def Bm (mg : Str → Option Value) (h : Heap) : Prop := ∃ (bm : Addr) (ob : Obj), mg "__builtins__" = some (.ref bm) ∧ bm ≠ builtinsNs ∧ h.get? bm = some ob ∧ ob.cls = .type "module" ∧ ob.dict = some builtinsNs ∧ ob.data = .plain
theorem lawGT {P : Program} {w : World} {K : PySem.W.Frag} {mg mb : Str → Option Value} {k : Nat} {fa a : Addr} {fd : FuncData} {x : Str} {sp : DSp} {s1 : Shared} {vs : List Value} {ns : List Int} {Ts : List Addr} {nm : Nat → Nat → Str} {cls : Str → Addr} {wd : World → Prop}
    (KX : K.In s1.heap) (hns : s1.heap.Ns mainGlobals mg) (hb : s1.heap.Ns builtinsNs mb) (hbb : ∀ x : Str, x ≠ "__name__" → mb x = bootBuiltins x) (hlim : s1.heap.NoLimit) (hg : s1.gens = #[])
    (ha : s1.heap.get? a = some { cls := .type "list", data := .seq vs.toArray }) (hi : IntsAre vs ns) (hl : ns.length ≤ sizeLine) (hr : RoomG k callerA)
    (hT : ∀ P ∈ Ts, s1.heap.get? P = some emptyT) (nT : ∀ P ∈ Ts, K.lookup P = none) (hcT : ∀ P ∈ Ts, ∃ c, PySem.W.CodeHd s1.heap c P) (hbm : Bm mg s1.heap)
    (F : ∀ base : Heap, K.In base → base.Ns mainGlobals mg → (∀ P ∈ Ts, base.BuiltinsAt mg P ∧ mainGlobals ≠ P) → @FnD (ambOf Ts nm cls wd) P w K mg base k fa fd [x] sp) (hbind : ∀ (s : Shared) (u : Value), BindsTo s fd ⟨[u], []⟩ [(x, u)])
    (hsp : sp [.ilst (ns.map D.int)] (fun _ => none) fun d _ => d = .bl true) :
    codeAny (model P w) callerA (.call (.ref fa) ⟨[.ref a], []⟩) (fun r s' => r = .ok (.ret (.bool true)) ∧ OldK s1.heap s'.heap ∧ s'.os = s1.os ∧ AllBare s'.gens) s1 := by
  letI : Amb := ambOf Ts nm cls wd
  have rv := vals_ints hi
  have ln := hi.length
  have aT : a ∉ Ts := fun z => by
    have e := hT a z
    rw [ha] at e
    cases e
  have main : ∀ H : Hp, (∀ b, H b = none ∨ (b = a ∧ ∃ ob xs, H b = some (.frz ob (.lst xs))) ∨ b ∈ Ts) → (∀ b ∈ Ts, H b = some (.tbl #[])) → StL K H a (ns.map V.int) → HOk P w H s1.heap → (H a ≠ none → K.lookup a = none) →
      codeAny (model P w) callerA (.call (.ref fa) ⟨[.ref a], []⟩) (fun r s' => r = .ok (.ret (.bool true)) ∧ OldK s1.heap s'.heap ∧ s'.os = s1.os ∧ AllBare s'.gens) s1 := by
    intro H hO hTb hS hok hK
    have none_of : ∀ {b : Addr} {o : Obj}, s1.heap.get? b = some o → (∀ vs n, o.data ≠ .seq vs n) → o.data ≠ .fields #[] → H b = none := by
      intro b o e n1 n2
      rcases hO b with q | ⟨rfl, _⟩ | q
      · exact q
      · rw [ha] at e
        cases e
        exact (n1 _ _ rfl).elim
      · rw [hT b q] at e
        cases e
        exact (n2 rfl).elim
    have nsB : ∀ {b : Addr} {m : Str → Option Value}, s1.heap.Ns b m → (hidT s1.heap H).Ns b m := by
      rintro b m ⟨o, es, ep, e, d, r⟩
      exact ⟨o, es, ep, hidT_get e (none_of e (by rw [d]; exact fun _ _ z => nomatch z) (by rw [d]; exact fun z => nomatch z)), d, r⟩
    have kin : K.In (hidT s1.heap H) := by
      intro b o e
      refine hidT_get (KX b o e) ?_
      rcases hO b with q | ⟨rfl, q⟩ | q
      · exact q
      · obtain ⟨ob, xs, q⟩ := q
        rw [hK (by rw [q]; exact fun z => nomatch z)] at e
        cases e
      · rw [nT b q] at e
        cases e
    have hM : Mod K mg (hidT s1.heap H) := ⟨kin, nsB hns, ⟨mb, nsB hb, hbb⟩, let ⟨mc, h1, h2⟩ := hlim; ⟨mc, nsB h1, h2⟩⟩
    have nil : ∀ {b : Addr}, b ∉ frs ([] : List Env) := fun z => nomatch z
    have e0 : Env0 P w K mg (hidT s1.heap H) callerA [] s1 H := ⟨rfl, hM, fun b o e => of_hidT e, Nat.le_of_eq (hidT_size _ _), trivial, fun b z => (nil z).elim, hok, .of_eq hg⟩
    have den : DenL K H [D.ilst (ns.map D.int)] [V.ref a] :=
      DenL.one (show ∃ p us, V.ref a = .ref p ∧ StL K H p us ∧ DenL K H (ns.map D.int) us from ⟨a, _, rfl, hS, denL_ints ns⟩)
    have tabs0 : TabsN Amb.tabs H := fun q hq => by
      obtain ⟨P0, h0, rfl⟩ := List.mem_map.mp hq
      exact TabN.nil (hTb P0 h0)
    have spl : liftSp K sp [V.ref a] H (fun v _ => v = .bl true) (fun _ _ _ => False) :=
      ⟨_, fun _ => none, _, den, ⟨(fun b c z => nomatch z), tabs0⟩, hsp, fun d S' v H' q dd _ _ => by
        subst q
        exact dd⟩
    have gl : ∀ P0 ∈ Ts, mainGlobals ≠ P0 := fun P0 h0 z => by
      obtain ⟨o, es, ep, e, d, _⟩ := hns
      rw [z, hT P0 h0] at e
      cases e
      cases d
    have bmB : ∀ P0 ∈ Ts, (hidT s1.heap H).BuiltinsAt mg P0 ∧ mainGlobals ≠ P0 := fun P0 h0 => by
      obtain ⟨bm, ob, b1, b2, b3, b4, b5, b6⟩ := hbm
      have pl : ∀ {b : Addr} {o : Obj}, s1.heap.get? b = some o → o.data ≠ .plain → bm ≠ b := fun {b o} e n z => by
        rw [z, e] at b3
        cases b3
        exact n b6
      refine ⟨⟨bm, ob, b1, b2, ?_, pl (hT P0 h0) (fun z => nomatch z), hidT_get b3 (none_of b3 (by rw [b6]; exact fun _ _ z => nomatch z) (by rw [b6]; exact fun z => nomatch z)), b4, b5, b6⟩, gl P0 h0⟩
      obtain ⟨o, es, ep, e, d, _⟩ := hns
      exact pl e (by rw [d]; exact fun z => nomatch z)
    have go := (F _ kin (nsB hns) bmB).run callerA [] s1 H ⟨[.ref a], []⟩ [.ref a] [.ref a] _ _ hr e0 (hbind s1 (.ref a)) (.cons rfl .nil) spl
    refine codeAny_mono go fun r s' h => ?_
    match r, h with
    | .error e, h => exact h.elim
    | .ok .next, h => exact h.elim
    | .ok .brk, h => exact h.elim
    | .ok .cont, h => exact h.elim
    | .ok (.ret u), ⟨v, H', os, bare, un, hok', rr, q⟩ =>
      have q' : v = .bl true := q
      subst q'
      obtain rfl : u = Value.bool true := rr
      have stay : ∀ b o, b ∉ Ts → s1.heap.get? b = some o → s'.heap.get? b = some o := fun b o nb e => by
        rcases hO b with q | ⟨_, ob, xs, z⟩ | q
        · exact un.keep b o e q nil fun z => nomatch z
        · have z2 := un.frzs b ob _ z
          obtain ⟨e1, _⟩ := hok b _ z
          obtain ⟨e2, _⟩ := hok' b _ z2
          rw [e] at e1
          cases e1
          exact e2
        · exact (nb q).elim
      have more : ∀ b ∈ Ts, ∃ m : Array Value, s'.heap.get? b = some { cls := .none, data := .fields m } := fun b hb => by
        obtain ⟨m, z⟩ := un.tbls b #[] (hTb b hb)
        exact ⟨_, hok' b _ z⟩
      refine ⟨rfl, ⟨fun b o e => ?_, fun b o e => ?_⟩, os, bare⟩
      · by_cases hbT : b ∈ Ts
        · obtain ⟨m, hm⟩ := more b hbT
          obtain ⟨c, hc⟩ := hcT b hbT
          have e' := e
          rw [hT b hbT] at e'
          cases e'
          exact .inr (.inl ⟨(hc.tab e).isCodeTable, rfl, #[], m, rfl, by rw [Array.empty_append]; exact hm⟩)
        · exact .inl (stay b o hbT e)
      · by_cases hbT : b ∈ Ts
        · obtain ⟨m, hm⟩ := more b hbT
          exact ⟨_, hm⟩
        · exact ⟨o, stay b o hbT e⟩
  have okT : ∀ b, b ∈ Ts → ObjOk P w (fun _ => none) s1.heap b (.tbl #[]) := fun b hb => hT b hb
  cases hk : K.lookup a with
  | some o =>
    have e := KX a o hk
    rw [ha] at e
    cases e
    refine main (fun b => if b ∈ Ts then some (.tbl #[]) else none) (fun b => ?_) (fun b hb => if_pos hb) (.inr (.inr ⟨_, vs.toArray, _, hk, rfl, rfl, rfl, ?_, by simpa using rv⟩)) (fun b u z => ?_) fun z => absurd (if_neg aT) z
    · by_cases hbT : b ∈ Ts
      · exact .inr (.inr hbT)
      · exact .inl (if_neg hbT)
    · rw [List.size_toArray, ln]
      exact hl
    · by_cases hbT : b ∈ Ts
      · have z' := (if_pos hbT).symm.trans z
        cases z'
        exact hT b hbT
      · have z' := (if_neg hbT).symm.trans z
        cases z'
  | none =>
    refine main (fun b => if b ∈ Ts then some (.tbl #[]) else if b = a then some (.frz { cls := .type "list", data := .seq vs.toArray } (.lst (ns.map V.int))) else none) (fun b => ?_) (fun b hb => if_pos hb) (.inl ⟨{ cls := .type "list", data := .seq vs.toArray }, (if_neg aT).trans (if_pos rfl)⟩) (fun b u z => ?_) fun _ => hk
    · by_cases hbT : b ∈ Ts
      · exact .inr (.inr hbT)
      · by_cases hba : b = a
        · exact .inr (.inl ⟨hba, _, _, (if_neg hbT).trans (if_pos hba)⟩)
        · exact .inl ((if_neg hbT).trans (if_neg hba))
    · by_cases hbT : b ∈ Ts
      · have z' := (if_pos hbT).symm.trans z
        cases z'
        exact hT b hbT
      · have z1 := (if_neg hbT).symm.trans z
        by_cases hba : b = a
        · have z' := (if_pos hba).symm.trans z1
          cases z'
          subst hba
          exact ⟨ha, by rw [List.length_map]; exact hl, vs, _, rv, ha⟩
        · have z' := (if_neg hba).symm.trans z1
          cases z'
def TabAt (K : PySem.W.Frag) (mg : Str → Option Value) (y : Str) (c P : Addr) : Prop := ∃ (f : Addr) (o : Obj) (g : FuncData) (e : Value) (dd : Option Addr) (us : Array Value) (sl : Array (Option Value)), mg y = some (.ref f) ∧ K.lookup f = some o ∧ o.data = .func g ∧ g.code = .ref c ∧ K.lookup c = some ⟨e, dd, .fields us, sl⟩ ∧ us[11]? = some (.ref P)
end DL

namespace DL
open PySem PySem.Spec PyProof.Rows L2

variable [Amb]
variable {X : Cx}
def truD : D → Option Bool
  | .non => some false
  | .bl b => some b
  | .tup ds => some (!ds.isEmpty)
  | _ => none
theorem truD_ok {K : PySem.W.Frag} {H : Hp} {d : D} {v : V} {k : Bool} (h : Den K H d v) (e : truD d = some k) : TruV K v H k := by
  cases d with
  | non => cases e; cases (show v = .non from h); rfl
  | bl b =>
    cases (show v = .bl b from h)
    exact (Option.some.inj e).symm
  | tup ds =>
    cases e
    obtain ⟨a, vs, rfl, h1, h2⟩ := h.untup
    refine .inr (.inl ⟨vs, h1.sq, ?_⟩)
    cases ds with
    | nil => cases h2.nil_eq; rfl
    | cons y ys => obtain ⟨u, r, rfl, _⟩ := h2.uncons; rfl
  | _ => cases e
def dOrT (ta tb : DTE) : DTE := fun ε S Q => ta ε S fun x S1 => ∃ k, truD x = some k ∧ if k = true then Q x S1 else tb ε S1 Q
theorem de_orT {a b : Expr} {rest : List Expr} {ta tb : DTE} {pos : Pos} (ha : DE X a ta) (hb : DE X (.BoolOp .Or (b :: rest) pos) tb) : DE X (.BoolOp .Or (a :: b :: rest) pos) (dOrT ta tb) :=
  PE_imp (pe_orT ha hb) fun σ H Q ⟨ε, S, Q0, rE, rS, q, wk⟩ => ⟨ε, S, _, rE, rS, q, fun x S1 v H1 q1 den rS1 f1 => by
    obtain ⟨k, e, q2⟩ := q1
    refine ⟨k, truD_ok den e, ?_⟩
    cases k with
    | true => exact wk x S1 v H1 q2 den rS1 f1
    | false => exact ⟨ε, S1, Q0, rE.frame rS f1, rS1, q2, wk.frame f1⟩⟩
end DL

namespace DL
open PySem PySem.Spec PyProof.Rows L2 NdefX LamX

section
variable [Amb] {X : Cx} {pins : List (Addr × Obj)} {σ : L2.St} {H : Hp} {s : Shared}
end
section
variable [Amb] {P : Program} {w : World} {K : PySem.W.Frag} {mg : Str → Option Value} {base : Heap}
end
end DL

namespace DL
open PySem PySem.Spec PyProof.Rows L2 NdefX LamX
section
variable [Amb] {X : Cx} {a : Expr} {ta : DTE} {p pos : Pos}
end
end DL

namespace DL
open PySem PySem.Spec PyProof.Rows L2 NdefX LamX
section
variable [Amb] {X : Cx} {pos : Pos}
end
end DL

namespace DL
open PySem PySem.Spec PyProof.Rows L2 NdefX LamX
section
variable [Amb] {X : Cx}
def mIndexT : RMD := fun x xs S Q => ∃ (ys : List Str) (k : Str), x = .tup (ys.map D.str) ∧ xs = [.str k] ∧ k ∈ ys ∧ Q (.int (ys.idxOf k : Nat)) S
end
end DL

namespace DL
open PySem PySem.Spec PyProof.Rows L2
variable [Amb]
theorem den_fdic {K : PySem.W.Frag} {H : Hp} {ks : List Key} {ds : List D} {a : Addr} {o : Obj} {kv : List (Key × V)} (h1 : H a = some (.frz o (.dK kv))) (h2 : kv.map (·.1) = ks) (h3 : DenL K H ds (kv.map (·.2))) : Den K H (.fdic ks ds) (.ref a) :=
  (show ∃ a' o' kv', V.ref a = .ref a' ∧ H a' = some (.frz o' (.dK kv')) ∧ kv'.map (·.1) = ks ∧ DenL K H ds (kv'.map (·.2)) from ⟨a, o, kv, rfl, h1, h2, h3⟩)
theorem rel_lock {K : PySem.W.Frag} {H : Hp} {S : SD} {p : Addr} {o : HO} {c : Cell} (r : RelS K H S) (hS : S p = none) (hc : CellOk K H p c) (nf : ∀ F, c ≠ .fn F) : RelS K (upd H p o) S ∧ ∀ ds vs, DenL K H ds vs → DenL K (upd H p o) ds vs := by
  have r2 : RelS K H (put S p c) := rel_adopt r hc
  have f : Frame (put S p c) H (put (put S p c) p c) (upd H p o) := frame_put put_same
  refine ⟨⟨fun a x e => ?_, tabs_upd r.tabs fun u hu => ?_⟩, fun ds vs => DenL.frame r2 f ds vs⟩
  · have ha : a ≠ p := by
      rintro rfl
      rw [hS] at e
      cases e
    have g := r.cell a x e
    cases x with
    | lst ds => obtain ⟨vs, e1, e2⟩ := g; exact ⟨vs, by rw [upd_ne ha]; exact e1, DenL.frame r2 f ds vs e2⟩
    | dic kvs => obtain ⟨kv, e1, e2⟩ := g; exact ⟨kv, by rw [upd_ne ha]; exact e1, KVD.frame r2 f e2⟩
    | sat q => obtain ⟨ds, vs, q, e1, e2⟩ := g; exact ⟨ds, vs, q, by rw [upd_ne ha]; exact e1, DenL.frame r2 f ds vs e2⟩
    | fn F =>
      obtain ⟨e1, e2⟩ := g
      refine ⟨(upd_ne ha).trans e1, (upd_ne fun z => ?_).trans e2⟩
      rw [z] at e2
      cases c with
      | lst ds => obtain ⟨vs, y, _⟩ := hc; rw [y] at e2; cases e2
      | dic kvs => obtain ⟨kv, y, _⟩ := hc; rw [y] at e2; cases e2
      | sat q => obtain ⟨ds, vs, _, y, _⟩ := hc; rw [y] at e2; cases e2
      | fn F => exact nf F rfl
      | gen G ds =>
        obtain ⟨o, vs, y, g3, _⟩ := hc
        rw [y] at e2
        cases e2
        exact G.notCode g3 _ _ rfl
    | gen G ds => obtain ⟨o, vs, e1, g3, e2⟩ := g; exact ⟨o, vs, by rw [upd_ne ha]; exact e1, g3, DenL.frame r2 f ds vs e2⟩
  · cases c with
    | lst ds => obtain ⟨vs, e1, e2⟩ := hc; rw [e1] at hu; cases hu; exact ⟨(fun _ z => nomatch z), fun _ z => nomatch z⟩
    | dic kvs => obtain ⟨kv, e1, e2⟩ := hc; rw [e1] at hu; cases hu; exact ⟨(fun _ z => nomatch z), fun _ z => nomatch z⟩
    | sat q => obtain ⟨ds, vs, q, e1, e2⟩ := hc; rw [e1] at hu; cases hu; exact ⟨(fun _ z => nomatch z), fun _ z => nomatch z⟩
    | fn F => exact (nf F rfl).elim
    | gen G ds =>
      obtain ⟨o, vs, e1, g3, e2⟩ := hc
      rw [e1] at hu
      cases hu
      exact ⟨G.notTbl g3, fun q => G.notCode g3 _ q⟩
theorem frame_lock {S S' : SD} {H H' : Hp} {p : Addr} {o : HO} (f : Frame S H S' H') (h : H p = none) : Frame S H S' (upd H' p o) := ⟨fun b u e1 e2 n => by
  obtain ⟨q1, q2⟩ := f.keep b u e1 e2 n
  exact ⟨by rw [upd_ne (ne_of_none e2 h)]; exact q1, q2⟩, fun b z => f.there b (upd_there z)⟩
section
variable {X : Cx} {e a b : Expr} {t : DTA} {pos : Pos}
def dFrz (t : DTA) : DTE := fun ε S Q => t ε S fun ds S1 => Q (.ilst ds) S1
theorem de_frz (h : DF X e t) : DE X e (dFrz t) := ⟨fun pins s σ H Q I ⟨ε, S, Q0, rE, rS, q, k⟩ => by
  refine thn (h.run pins s σ H (fun v H' => ∃ p vs ds S', v = .ref p ∧ H p = none ∧ S' p = none ∧ H' p = some (.lst vs) ∧ DenL X.K H' ds vs ∧ RelS X.K H' S' ∧ Frame S H S' H' ∧ Q0 (.ilst ds) S') I
    ⟨ε, S, _, rE, rS, q, fun ds S' p vs H' q1 h0 hS hp den rS1 f1 => ⟨p, vs, ds, S', rfl, h0, hS, hp, den, rS1, f1, q1⟩⟩) fun v s1 ⟨x, H1, I1, r, p, vs, ds, S1, ex, h0, hS, hp, den, rS1, f1, q1⟩ => ?_
  subst ex
  obtain ⟨od, I2⟩ := I1.lock hp trivial
  obtain ⟨r2, dl⟩ := rel_lock (o := .frz od (.lst vs)) rS1 hS (cell_lst hp den) (fun _ z => nomatch z)
  exact ⟨.ref p, _, I2, r, k (.ilst ds) S1 (.ref p) _ q1 (show ∃ a vs, V.ref p = .ref a ∧ StL X.K _ a vs ∧ DenL X.K _ ds vs from ⟨p, vs, rfl, .inl ⟨od, upd_same⟩, dl ds vs den⟩) r2 (frame_lock f1 h0)⟩⟩
theorem de_edic : DE X (.Dict [] [] pos) (dC .edic) := ⟨fun pins s σ H Q I ⟨ε, S, Q0, rE, rS, q, k⟩ => by
  refine thn (pe_dnewK.run pins s σ H (fun v H' => ∃ p, v = .ref p ∧ H p = none ∧ H' = upd H p (.dK [])) I fun p hp => ⟨p, rfl, hp, rfl⟩) fun v s1 ⟨x, H1, I1, r, p, ex, h0, eH⟩ => ?_
  subst ex eH
  have rS1 : RelS X.K (upd H p (.dK [])) S := rS.frame_new h0
  have f1 : Frame S H S (upd H p (.dK [])) := frame_new h0
  obtain ⟨od, I2⟩ := I1.lock (d := p) (u := .dK []) upd_same trivial
  obtain ⟨r2, dl⟩ := rel_lock (p := p) (o := .frz od (.dK [])) (c := .dic []) rS1 (rS.free h0) ⟨[], upd_same, .nil⟩ (fun _ z => nomatch z)
  exact ⟨.ref p, _, I2, r, k .edic S (.ref p) _ q (den_fdic (kv := []) upd_same rfl DenL.nil) r2 (frame_lock f1 h0)⟩⟩
def drop (S : SD) (a : Addr) : SD := fun b => if b = a then none else S b
end
end DL

namespace DL
open PySem PySem.Spec PyProof.Rows L2
variable [Amb]
def pairsOf : List D → List D → List D
  | d :: ds, e :: es => D.tup [d, e] :: pairsOf ds es
  | _, _ => []
section
variable {X : Cx} {a b : Expr} {ta : DTA} {pos p : Pos}
end
end DL

namespace DL
open PySem PySem.Spec PyProof.Rows L2 NdefX LamX
variable [Amb]
section
variable {X : Cx} {tg e l a b : Expr} {tl ta tb : DTE} {pos p : Pos}
def signsD (z : Str) : List D := z.cps.toList.map fun c => .str ⟨#[c]⟩
def dItStr (tl : DTE) : DTI := fun ε S R => tl ε S fun x S1 => ∃ z, x = .str z ∧ R (signsD z) Yes S1
theorem di_str (hl : DE X l tl) : DI X tg l (dItStr tl) :=
  PI_imp (pi_str hl) fun σ H R ⟨ε, S, R0, rE, rS, q, k⟩ => ⟨ε, S, _, rE, rS, q, fun d S1 v H1 q1 den rS1 f1 => by
    obtain ⟨z, rfl, q1⟩ := q1
    cases (show v = .str z from den)
    refine ⟨z, rfl, k _ Yes S1 H1 _ q1 rS1 f1 fun i S2 H2 rS2 f2 _ => ⟨fun hi => ?_, fun d hi => ?_⟩⟩
    · show z.cps.size ≤ i
      have : (signsD z).length = z.cps.size := by simp [signsD]
      omega
    · unfold signsD at hi
      rw [List.getElem?_map, Array.getElem?_toList] at hi
      obtain ⟨c, hc, rfl⟩ := Option.map_eq_some_iff.mp hi
      refine ⟨?_, fun w H3 hy => ?_⟩
      · show i < z.cps.size
        exact (Array.getElem?_eq_some_iff.mp hc).1
      · obtain ⟨rfl, c', hc', rfl⟩ := hy
        rw [hc] at hc'
        cases hc'
        exact ⟨rfl, rS2, Frame.refl⟩⟩
def rInSD : R2D := fun x y S Q => ∃ (c : Nat) (z : Str), x = .str ⟨#[c]⟩ ∧ y = .str z ∧ Q (.bl (decide (c ∈ z.cps.toList))) S
theorem dop_inSD : DOp X (compareOp .In) rInSD := OpR_imp op_inS fun x y H Q ⟨d, e, S, Q0, d1, d2, rS, ⟨c, z, e1, e2, q⟩, k⟩ => by
  subst e1 e2
  cases (show x = .str ⟨#[c]⟩ from d1)
  cases (show y = .str z from d2)
  exact ⟨c, z, rfl, rfl, k _ S _ H q rfl rS Frame.refl⟩
end
end DL

namespace DL
open PySem PySem.Spec PyProof.Rows L2 NdefX LamX
section
variable [Amb] {X : Cx} {e : Expr} {lo hi : Option Expr} {te : DTE} {tl th : DTO} {pos p2 : Pos}
end
end DL

namespace DL
open PySem PySem.Spec PyProof.Rows L2 NdefX LamX
section
variable [Amb] {X : Cx}
variable {k : Nat} {f : Addr} {fd : FuncData} {ps : List Str} {sp : DSp} {x : Str} {p pos : Pos}
end
end DL

namespace DL
open PySem PySem.Spec PyProof.Rows L2 NdefX LamX
section
variable [Amb] {X : Cx} {e : Expr} {lo hi : Option Expr} {te : DTE} {tl th : DTO} {pos p2 : Pos}
def dSlS (te : DTE) (tl th : DTO) : DTE := fun ε S Q => te ε S fun x S1 => tl ε S1 fun l S2 => th ε S2 fun u S3 => ∃ z, x = .str z ∧ z.length ≤ sizeLine ∧ Q (.str (cutS z l u)) S3
theorem de_slS (he : DE X e te) (hl : DPO X lo tl) (hh : DPO X hi th) : DE X (.Subscript e (.Slice lo hi none p2) pos) (dSlS te tl th) :=
  PE_imp (pe_slice sl_str he hl hh) fun σ H Q ⟨ε, S, Q0, rE, rS, q, k⟩ => ⟨ε, S, _, rE, rS, q, fun d S1 v H1 q1 den rS1 f1 =>
    ⟨ε, S1, _, rE.frame rS f1, rS1, q1, fun l S2 H2 q2 rS2 f2 => ⟨ε, S2, _, (rE.frame rS f1).frame rS1 f2, rS2, q2, fun u S3 H3 q3 rS3 f3 => by
      obtain ⟨z, rfl, hz, q4⟩ := q3
      cases (show v = .str z from den)
      exact ⟨z, rfl, hz, k _ S3 _ H3 q4 rfl rS3 ((f1.trans f2).trans f3)⟩⟩⟩⟩
end
end DL

namespace DL
open PySem PySem.Spec PyProof.Rows L2 NdefX LamX
section
variable [Amb] {X : Cx}
end
end DL

namespace DL
open PySem PySem.Spec PyProof.Rows L2 NdefX LamX
section
variable [Amb] {X : Cx} {a b : Expr} {ta tb : DTE} {pos : Pos}
end
end DL

namespace DL
open PySem PySem.Spec PyProof.Rows L2 NdefX LamX
section
variable [Amb] {X : Cx} {o e f : Expr} {to ta tb : DTE} {apos cpos : Pos}
end
end DL

namespace DL
open PySem PySem.Spec PyProof.Rows L2 NdefX LamX
section
variable [Amb] {X : Cx}
def truL : D → Option Bool
  | .ilst ds => some (!ds.isEmpty)
  | _ => none
theorem truL_ok {K : PySem.W.Frag} {H : Hp} {d : D} {v : V} {k : Bool} (h : Den K H d v) (e : truL d = some k) : TruV K v H k := by
  cases d with
  | ilst ds =>
    cases e
    obtain ⟨a, vs, rfl, h1, h2⟩ := h.unilst
    refine .inl ⟨vs, h1.sq, ?_⟩
    cases ds with
    | nil => cases h2.nil_eq; rfl
    | cons y ys => obtain ⟨u, r, rfl, _⟩ := h2.uncons; rfl
  | _ => cases e
def dOrL (ta tb : DTE) : DTE := fun ε S Q => ta ε S fun x S1 => ∃ k, truL x = some k ∧ if k = true then Q x S1 else tb ε S1 Q
theorem de_orL {a b : Expr} {rest : List Expr} {ta tb : DTE} {pos : Pos} (ha : DE X a ta) (hb : DE X (.BoolOp .Or (b :: rest) pos) tb) : DE X (.BoolOp .Or (a :: b :: rest) pos) (dOrL ta tb) :=
  PE_imp (pe_orT ha hb) fun σ H Q ⟨ε, S, Q0, rE, rS, q, wk⟩ => ⟨ε, S, _, rE, rS, q, fun x S1 v H1 q1 den rS1 f1 => by
    obtain ⟨k, e, q2⟩ := q1
    refine ⟨k, truL_ok den e, ?_⟩
    cases k with
    | true => exact wk x S1 v H1 q2 den rS1 f1
    | false => exact ⟨ε, S1, Q0, rE.frame rS f1, rS1, q2, wk.frame f1⟩⟩
end
end DL

namespace DL
open PySem PySem.Spec PyProof.Rows L2 NdefX LamX
section
variable [Amb] {X : Cx} {a b : Expr} {ta tb : DTE} {pos : Pos}
end
end DL

namespace DL
open PySem PySem.Spec PyProof.Rows L2
section
variable [Amb] {X : Cx}
end
end DL

namespace PlO
open PySem PySem.W PyProof.Rows PySem.SeqAt
mutual
def pl : PyData → Bool
  | .int _ => true
  | .str x => PyData.strOk x
  | .tuple xs => plAll xs
  | _ => false
def plAll : List PyData → Bool
  | [] => true
  | x :: xs => pl x && plAll xs
end
mutual
/-- x < y can be asked -/
def cmpb : PyData → PyData → Bool
  | .int _, .int _ => true
  | .str _, .str _ => true
  | .tuple xs, .tuple ys => cmpAll xs ys
  | _, _ => false
def cmpAll : List PyData → List PyData → Bool
  | x :: xs, y :: ys => cond (PyData.eqv x y) (cmpAll xs ys) (cmpb x y)
  | [], _ => true
  | _ :: _, [] => true
end
theorem pl_cons {x : PyData} {xs : List PyData} (h : plAll (x :: xs) = true) : pl x = true ∧ plAll xs = true := by
  rw [plAll, Bool.and_eq_true] at h
  exact h
mutual
theorem pl_lay : ∀ d, pl d = true → d.canLay0 = true
  | .none, h => nomatch (show false = true from h)
  | .bool _, h => nomatch (show false = true from h)
  | .int _, _ => by simp [PyData.canLay0]
  | .str x, h => by
    rw [PyData.canLay0]
    exact h
  | .list _, h => nomatch (show false = true from h)
  | .tuple xs, h => by rw [PyData.canLay0]; exact plAll_lay xs h
  | .dict _, h => nomatch (show false = true from h)
theorem plAll_lay : ∀ ds, plAll ds = true → PyData.canLayAll0 ds = true
  | [], _ => by simp [PyData.canLayAll0]
  | d :: ds, h => by
    obtain ⟨h1, h2⟩ := pl_cons h
    simp [PyData.canLayAll0, pl_lay d h1, plAll_lay ds h2]
end
mutual
theorem eqv_iff : ∀ x y, pl x = true → pl y = true → (PyData.eqv x y = true ↔ x = y)
  | .none, _, h, _ => nomatch (show false = true from h)
  | .bool _, _, h, _ => nomatch (show false = true from h)
  | .list _, _, h, _ => nomatch (show false = true from h)
  | .dict _, _, h, _ => nomatch (show false = true from h)
  | .int a, y, _, h => by
    cases y with
    | int b => simp [PyData.eqv]
    | str b => simp [PyData.eqv]
    | tuple b => simp [PyData.eqv]
    | _ => exact nomatch (show false = true from h)
  | .str a, y, _, h => by
    cases y with
    | int b => simp [PyData.eqv]
    | str b => simp [PyData.eqv]
    | tuple b => simp [PyData.eqv]
    | _ => exact nomatch (show false = true from h)
  | .tuple xs, y, g, h => by
    cases y with
    | int b => simp [PyData.eqv]
    | str b => simp [PyData.eqv]
    | tuple ys =>
      have e := eqvAll_iff xs ys g h
      simp only [PyData.eqv, PyData.tuple.injEq]
      exact e
    | _ => exact nomatch (show false = true from h)
theorem eqvAll_iff : ∀ xs ys, plAll xs = true → plAll ys = true → (PyData.eqvAll xs ys = true ↔ xs = ys)
  | [], [], _, _ => by simp [PyData.eqvAll]
  | [], _ :: _, _, _ => by simp [PyData.eqvAll]
  | _ :: _, [], _, _ => by simp [PyData.eqvAll]
  | x :: xs, y :: ys, g, h => by
    have e1 := eqv_iff x y (pl_cons g).1 (pl_cons h).1
    have e2 := eqvAll_iff xs ys (pl_cons g).2 (pl_cons h).2
    rw [eqv_all_cons, Bool.and_eq_true, e1, e2, List.cons.injEq]
end
theorem cmpAll_cons {x y : PyData} {xs ys : List PyData} : cmpAll (x :: xs) (y :: ys) = cond (PyData.eqv x y) (cmpAll xs ys) (cmpb x y) := by rw [cmpAll]
mutual
/-- the rows of signs of unlike ones differ within -/
theorem toks_ne : ∀ x y, pl x = true → pl y = true → cmpb x y = true → x ≠ y → ∀ l m, lexLt itemOrd (keyToks x ++ l) (keyToks y ++ m) = lexLt itemOrd (keyToks x) (keyToks y)
  | .none, _, h, _, _, _, _, _ => nomatch (show false = true from h)
  | .bool _, _, h, _, _, _, _, _ => nomatch (show false = true from h)
  | .list _, _, h, _, _, _, _, _ => nomatch (show false = true from h)
  | .dict _, _, h, _, _, _, _, _ => nomatch (show false = true from h)
  | .int a, y, _, _, c, ne, l, m => by
    cases y with
    | int b =>
      simp only [keyToks, List.cons_append, List.nil_append]
      exact lex_atom (fun q => ne (by rw [Sum.inl.inj q])) l m
    | _ => exact absurd c (by simp [cmpb])
  | .str a, y, _, _, c, ne, l, m => by
    cases y with
    | str b =>
      simp only [keyToks, List.cons_append, List.nil_append]
      exact lex_atom (fun q => ne (by rw [str_of_cps (Sum.inr.inj q)])) l m
    | _ => exact absurd c (by simp [cmpb])
  | .tuple xs, y, g, h, c, ne, l, m => by
    cases y with
    | tuple ys =>
      simp only [keyToks]
      exact toksAll_ne xs ys g h (by simpa [cmpb] using c) (fun q => ne (by rw [q])) l m
    | _ => exact absurd c (by simp [cmpb])
theorem toksAll_ne : ∀ xs ys, plAll xs = true → plAll ys = true → cmpAll xs ys = true → xs ≠ ys → ∀ l m, lexLt itemOrd (keyToksAll xs ++ l) (keyToksAll ys ++ m) = lexLt itemOrd (keyToksAll xs) (keyToksAll ys)
  | [], [], _, _, _, ne, _, _ => absurd rfl ne
  | [], y :: ys, _, _, _, _, l, m => by
    simp only [keyToksAll, List.cons_append, List.nil_append]
    exact (lex_atom (by simp) _ _).trans (lex_atom (by simp) _ _).symm
  | x :: xs, [], _, _, _, _, l, m => by
    simp only [keyToksAll, List.cons_append, List.nil_append]
    exact (lex_atom (by simp) _ _).trans (lex_atom (by simp) _ _).symm
  | x :: xs, y :: ys, g, h, c, ne, l, m => by
    rw [toks_all_cons, toks_all_cons]
    simp only [List.cons_append, List.append_assoc]
    rw [lex_self (O := itemOrd), lex_self (O := itemOrd)]
    by_cases e : x = y
    · subst e
      rw [cmpAll_cons, (eqv_iff x x (pl_cons g).1 (pl_cons g).1).mpr rfl] at c
      rw [lex_pre, lex_pre]
      exact toksAll_ne xs ys (pl_cons g).2 (pl_cons h).2 c (fun q => ne (by rw [q])) l m
    · have e2 : PyData.eqv x y = false := by
        cases q : PyData.eqv x y with
        | false => rfl
        | true => exact absurd ((eqv_iff x y (pl_cons g).1 (pl_cons h).1).mp q) e
      rw [cmpAll_cons, e2] at c
      have t := toks_ne x y (pl_cons g).1 (pl_cons h).1 c e
      rw [t, t]
end
theorem lt_yes {x : PyData} {xs ys : List PyData} : lexLt itemOrd (keyToksAll (x :: xs)) (keyToksAll (x :: ys)) = lexLt itemOrd (keyToksAll xs) (keyToksAll ys) := by
  rw [toks_all_cons, toks_all_cons, lex_self (O := itemOrd), lex_pre]
theorem lt_no {x y : PyData} {xs ys : List PyData} (g : pl x = true) (h : pl y = true) (c : cmpb x y = true) (ne : x ≠ y) : lexLt itemOrd (keyToksAll (x :: xs)) (keyToksAll (y :: ys)) = dataLt x y := by
  rw [toks_all_cons, toks_all_cons, lex_self (O := itemOrd), toks_ne x y g h c ne]
  rfl
theorem lt_nil {y : PyData} {ys : List PyData} : lexLt itemOrd (keyToksAll []) (keyToksAll (y :: ys)) = true := by
  rw [toks_all_cons]
  simp only [keyToksAll]
  rw [lex_diff (O := itemOrd) (by simp)]
  simp [itemLt]
theorem lt_to_nil {x : PyData} {xs : List PyData} : lexLt itemOrd (keyToksAll (x :: xs)) (keyToksAll []) = false := by
  rw [toks_all_cons]
  simp only [keyToksAll]
  rw [lex_diff (O := itemOrd) (by simp)]
  simp [itemLt]

def LxAt (A : Around) (s : Shared) (fin k : Bool) : List (Value × Value) → Prop
  | [] => k = fin
  | (y, x) :: r => ∃ e, EqAt A s y x e ∧ if e = true then LxAt A s fin k r else RcLt A s y x k
open AutoSeq1 (wpAny_loadPart') in
open MeetsSeq MeetsSeq2 MeetsSeq3 SeqRoads2 in
theorem tuple_ltK (l b : Addr) (us ws : Array Value) (n m : Nat) (d1 d2 : Option Addr) (z1 z2 : Array (Option Value)) (k : Bool) :
    Meets (Builtin.«tuple.__lt__» ⟨[.ref l, .ref b], []⟩)
      (fun A R s => s.heap.get? l = some { cls := .type "tuple", dict := d1, data := .seq us n, slots := z1 } ∧ s.heap.get? b = some { cls := .type "tuple", dict := d2, data := .seq ws m, slots := z2 } ∧
        LxAt A.in1 s (decide (us.size < ws.size)) k (us.toList.zip ws.toList) ∧ R (.ok (.ret (.bool k))) s) :=
  .of_wp fun prog w A R s h => by
    obtain ⟨hp, g, dd, tk, os⟩ := s; obtain ⟨hl, hb, hx, hR⟩ := h
    have ff := AutoSeq1.sub_tuple_tuple
    wp_walk using wpAny_loadPart' hl, wpAny_loadPart' hb, wpAny_forIn_list _ (fun rest c s1 => c.1 = none ∧ s1 = ⟨hp, g, dd, tk, os⟩ ∧ LxAt A.in1 ⟨hp, g, dd, tk, os⟩ (decide (us.size < ws.size)) k rest) _
    case turn =>
      rintro ⟨y, x⟩ rest c s1 ⟨hc, rfl, e, he, hr⟩
      refine wpAny_bind (he prog w _ _ ?_)
      cases e with
      | true =>
        wp_walk
        exact ⟨rfl, rfl, hr⟩
      | false =>
        have hr2 : ∀ (E : Value → Shared → Prop) (Q : Value → Shared → Prop), Q (.bool k) ⟨hp, g, dd, tk, os⟩ → wpAny (model prog w) A.in1 (richCompare .Lt y x) Q E ⟨hp, g, dd, tk, os⟩ := fun E Q => (show RcLt A.in1 _ y x k from hr) prog w E Q
        generalize richCompare .Lt y x = rc at hr2 ⊢
        wp_walk
        refine hr2 _ _ ?_
        wp_walk
        exact ⟨_, rfl, hR⟩
    case fin =>
      rintro ⟨c1, c2⟩ s1 ⟨hc, rfl, hk⟩
      simp only at hc
      subst hc
      have hk' : k = decide (us.size < ws.size) := hk
      subst hk'
      wp_walk
      exact ⟨_, rfl, by simpa [Builtin.Tuple.tupleCompareSizes] using hR⟩
    case h =>
      exact ⟨rfl, rfl, hx⟩
theorem rcLt_tuplesK {A : Around} {s : Shared} {l b : Addr} {us ws : Array Value} {k : Bool} (hl : s.heap.IsTuple l us) (hb : s.heap.IsTuple b ws) (hu : A.units < cLine)
    (hx : LxAt A.in1 s (decide (us.size < ws.size)) k (us.toList.zip ws.toList)) : RcLt A s (.ref l) (.ref b) k := fun prog w E Q h => by
  obtain ⟨⟨c1, d1, a1, z1⟩, ho, hc, n, hd⟩ := id hl
  obtain ⟨⟨c2, d2, a2, z2⟩, ho2, hc2, m, hd2⟩ := id hb
  simp only at hc hd hc2 hd2
  subst hc hd hc2 hd2
  exact richCompare_meets_room (op := .Lt) ⟨_, ho, rfl⟩ ⟨_, ho2, rfl⟩ F.slot_tuple_lt F.entry_tuple_lt (F.args_tuple_lt_2 _ _) (tuple_ltK l b us ws n m d1 d2 z1 z2 k)
    ⟨ho, ho2, hx, show Value.bool k ≠ Value.notImplemented ∧ Q (.bool k) s from ⟨(fun x => nomatch x), h⟩⟩ hu
mutual
theorem rcLt_cmp : ∀ (x y : PyData) (A : Around) (s : Shared) (a b : Value) (as bs : List Addr), Reads s.heap a x as → Reads s.heap b y bs → pl x = true → pl y = true → cmpb x y = true → A.units + min x.depth y.depth < cLine → RcLt A s a b (dataLt x y)
  | .none, _, _, _, _, _, _, _, _, _, h, _, _, _ => nomatch (show false = true from h)
  | .bool _, _, _, _, _, _, _, _, _, _, h, _, _, _ => nomatch (show false = true from h)
  | .list _, _, _, _, _, _, _, _, _, _, h, _, _, _ => nomatch (show false = true from h)
  | .dict _, _, _, _, _, _, _, _, _, _, h, _, _, _ => nomatch (show false = true from h)
  | .int i, y, A, s, a, b, as, bs, ra, rb, _, _, c, _ => by
    cases y with
    | int j =>
      cases ra
      cases rb
      intro prog w E Q hq
      rw [dataLt_int] at hq
      exact P.lt_int hq
    | _ => exact absurd c (by simp [cmpb])
  | .str i, y, A, s, a, b, as, bs, ra, rb, _, _, c, _ => by
    cases y with
    | str j =>
      cases ra
      cases rb
      intro prog w E Q hq
      rw [dataLt_str] at hq
      exact P.lt_str hq
    | _ => exact absurd c (by simp [cmpb])
  | .tuple xs, y, A, s, a, b, as, bs, ra, rb, g, h, c, hu => by
    cases y with
    | tuple ys =>
      cases ra with
      | @tuple l o us n _ _ h1 h2 h3 h4 =>
        cases rb with
        | @tuple l' o' ws n' _ _ k1 k2 k3 k4 =>
          rw [dataLt_tuple]
          refine rcLt_tuplesK ⟨_, h1, h2, _, h3⟩ ⟨_, k1, k2, _, k3⟩ (room_here hu) ?_
          have t := lxAt_cmp xs ys A.in1 s us.toList ws.toList _ _ h4 k4 g h (by simpa [cmpb] using c) (room_in hu)
          simpa using t
    | _ => exact absurd c (by simp [cmpb])
theorem lxAt_cmp : ∀ (xs ys : List PyData) (A : Around) (s : Shared) (us ws : List Value) (as bs : List Addr), ReadsAll s.heap us xs as → ReadsAll s.heap ws ys bs → plAll xs = true → plAll ys = true → cmpAll xs ys = true →
    A.units + min (PyData.depthAll xs) (PyData.depthAll ys) < cLine → LxAt A s (decide (us.length < ws.length)) (lexLt itemOrd (keyToksAll xs) (keyToksAll ys)) (us.zip ws)
  | [], [], _, _, _, _, _, _, ra, rb, _, _, _, _ => by
    cases ra
    cases rb
    simp [LxAt, lex_irrefl]
  | [], y :: ys, _, _, _, _, _, _, ra, rb, _, _, _, _ => by
    cases ra
    cases rb
    rw [lt_nil]
    simp [LxAt]
  | x :: xs, [], _, _, _, _, _, _, ra, rb, _, _, _, _ => by
    cases ra
    cases rb
    rw [lt_to_nil]
    simp [LxAt]
  | x :: xs, y :: ys, A, s, _, _, _, _, ra, rb, g, h, c, hu => by
    cases ra with
    | cons r rs =>
      cases rb with
      | cons r' rs' =>
        rw [cmpAll_cons] at c
        have hE := eqAt_reads x y A s _ _ _ _ r r' (pl_lay x (pl_cons g).1) (pl_lay y (pl_cons h).1) (room_head hu)
        refine ⟨_, hE, ?_⟩
        by_cases e : x = y
        · subst e
          have e1 := (eqv_iff x x (pl_cons g).1 (pl_cons g).1).mpr rfl
          rw [e1] at c
          rw [if_pos e1, lt_yes]
          have t := lxAt_cmp xs ys A s _ _ _ _ rs rs' (pl_cons g).2 (pl_cons h).2 c (room_tail hu)
          simp only [List.length_cons, Nat.add_lt_add_iff_right]
          exact t
        · have e2 : PyData.eqv x y = false := by
            cases q : PyData.eqv x y with
            | false => rfl
            | true => exact absurd ((eqv_iff x y (pl_cons g).1 (pl_cons h).1).mp q) e
          rw [e2] at c
          rw [if_neg (by rw [e2]; decide), lt_no (pl_cons g).1 (pl_cons h).1 c e]
          exact rcLt_cmp x y A s _ _ _ _ r r' (pl_cons g).1 (pl_cons h).1 c (room_head hu)
end

section
variable {prog : Program} {w : World} {A : Around} {E : Value → Shared → Prop} {s : Shared}
end

def tag : PyData → Nat
  | .int _ => 1
  | .str _ => 2
  | .tuple (.int _ :: _) => 3
  | .tuple (.str _ :: _) => 4
  | .tuple (.tuple _ :: _) => 5
  | _ => 0
section
variable {prog : Program} {w : World} {A : Around} {E : Value → Shared → Prop} {s : Shared}
end
end PlO

namespace DL
open PySem PySem.Spec PyProof.Rows L2 PlO PySem.W
mutual
theorem pl_plain : ∀ d : D, pl d.py = true → d.plain = true
  | .int _, _ => rfl
  | .str _, _ => rfl
  | .tup ds, h => pls_plain ds (by simpa [D.py, pl] using h)
  | .non, _ => rfl
  | .bl _, _ => rfl
  | .ty _, h => nomatch (show false = true from h)
  | .ref _, h => nomatch (show false = true from h)
  | .ilst _, h => nomatch (show false = true from h)
  | .fdic _ _, h => nomatch (show false = true from h)
theorem pls_plain : ∀ ds : List D, plAll (pys ds) = true → plainL ds = true
  | [], _ => rfl
  | d :: ds, h => by
    have h' := pl_cons (x := d.py) (xs := pys ds) h
    simp [plainL, pl_plain d h'.1, pls_plain ds h'.2]
end
theorem pys_map : ∀ ds : List D, pys ds = ds.map D.py
  | [] => rfl
  | d :: ds => by rw [pys, pys_map ds]; rfl
def sOk (ds : List D) : Bool := ds.all (fun d => pl d.py && decide (d.py.depth ≤ 60)) && ds.all (fun d => ds.all fun e => cmpb d.py e.py) && (match ds with | [] => true | d :: r => decide (tag d.py ≠ 0) && r.all fun e => decide (tag e.py = tag d.py)) && decide (ds.length ≤ 1000000)
def srt (ds : List D) : List D := ds.mergeSort (dataLe false D.py)
section
variable [Amb] {X : Cx} {a : Expr} {ta : DTE} {p pos : Pos}
end
end DL

namespace DL
open PySem PySem.Spec PyProof.Rows L2
section
variable [Amb] {X : Cx}
end
end DL

namespace DL
open PySem PySem.Spec PyProof.Rows L2
section
variable [Amb] {X : Cx}
end
end DL

namespace DL
open PySem PySem.Spec PyProof.Rows L2
variable [Amb]
def SqB (K : PySem.W.Frag) (b : Bool) (H : Hp) (a : Addr) (us : List V) : Prop := match b with
  | true => SqL K H a us
  | false => SqT K H a us
def IsB (b : Bool) (h : Heap) (a : Addr) (xs : Array Value) : Prop := match b with
  | true => h.IsList a xs
  | false => h.IsTuple a xs
def ItB (b : Bool) (h : Heap) (it l : Addr) (n : Nat) : Prop := match b with
  | true => h.IsListIter it l n
  | false => h.IsTupleIter it l n
theorem SqB.there {X : Cx} {pins : List (Addr × Obj)} {σ : L2.St} {H : Hp} {s : Shared} {b : Bool} {a : Addr} {us : List V} (I : Inv X pins σ H s) (q : SqB X.K b H a us) : ∃ xs : List Value, Vals us xs ∧ IsB b s.heap a xs.toArray := by
  cases b with
  | true =>
    obtain ⟨xs, r, ⟨o, n, e, hc, _, hd⟩, _⟩ := I.list q
    exact ⟨xs, r, ⟨o, e, hc, n, hd⟩⟩
  | false =>
    obtain ⟨xs, r, p, _⟩ := I.tuple q
    exact ⟨xs, r, p⟩
theorem SqB.inj {X : Cx} {pins : List (Addr × Obj)} {σ : L2.St} {H : Hp} {s : Shared} {b : Bool} {a : Addr} {us ws : List V} (I : Inv X pins σ H s) (q : SqB X.K b H a us) (q' : SqB X.K b H a ws) : us = ws := by
  cases b with
  | true => exact I.list_inj q q'
  | false => exact I.tuple_inj q q'
theorem ItB.at {b : Bool} {h h' : Heap} {it l : Addr} {n : Nat} (x : ItB b h it l n) (k : ∀ o, h.get? it = some o → h'.get? it = some o) : ItB b h' it l n := by
  cases b with
  | true => exact Heap.IsListIter.at x k
  | false => exact Heap.IsTupleIter.at x k
theorem IsB.at {b : Bool} {h h' : Heap} {l : Addr} {xs : Array Value} (x : IsB b h l xs) (k : ∀ o, h.get? l = some o → h'.get? l = some o) : IsB b h' l xs := by
  cases b with
  | true => exact Heap.IsList.at x k
  | false => exact Heap.IsTuple.at x k
theorem IsB.lt {b : Bool} {h : Heap} {l : Addr} {xs : Array Value} (x : IsB b h l xs) : l < h.objs.size := by
  cases b with
  | true => obtain ⟨o, e, _⟩ := id (show h.IsList l xs from x); exact Heap.lt_size e
  | false => obtain ⟨o, e, _⟩ := id (show h.IsTuple l xs from x); exact Heap.lt_size e
def seqB : Bool → D → Option (List D)
  | false, .tup ds => some ds
  | true, .ilst ds => some ds
  | _, _ => none
section
variable {X : Cx} {a b : Expr} {ta : DTA} {pos p : Pos}
end
def triplesOf : List D → List D → List D → List D
  | d :: ds, e :: es, f :: fs => D.tup [d, e, f] :: triplesOf ds es fs
  | _, _, _ => []
section
variable {X : Cx} {a b c : Expr} {ta : DTA} {pos p : Pos}
end
end DL

namespace DL
open PySem PySem.Spec PyProof.Rows L2
variable [Amb]
section
variable {X : Cx} {o e : Expr} {apos cpos : Pos} {to : DTE} {ta : DTA}
end
end DL

namespace DL
open PySem PySem.Spec PyProof.Rows L2
variable [Amb]

def objK (C : Addr) (ns : List Str) : GK := ⟨fun _ vs o => ∃ dx, o = .ins C dx (ns.zip vs) ∧ vs.length = ns.length, fun _ _ _ ⟨dx, e, _⟩ => .inl ⟨C, dx, _, e⟩⟩
def putN (f : Str) : List Str → List Str
  | [] => [f]
  | g :: ns => if g = f then g :: ns else g :: putN f ns
def putV {α : Type} (f : Str) (y : α) : List Str → List α → List α
  | g :: ns, x :: xs => if g = f then y :: xs else x :: putV f y ns xs
  | _, _ => [y]
theorem putF_zip {f : Str} {y : V} : ∀ (ns : List Str) (vs : List V), vs.length = ns.length → putF f y (ns.zip vs) = (putN f ns).zip (putV f y ns vs)
  | [], [], _ => rfl
  | [], _ :: _, h => nomatch h
  | _ :: _, [], h => nomatch h
  | g :: ns, v :: vs, h => by
    rw [List.zip_cons_cons, putF, putN, putV]
    by_cases e : g = f
    · rw [if_pos e, if_pos e, if_pos e, List.zip_cons_cons]
    · rw [if_neg e, if_neg e, if_neg e, List.zip_cons_cons, putF_zip ns vs (by simpa using h)]
theorem putV_len {α : Type} {f : Str} {y : α} : ∀ (ns : List Str) (vs : List α), vs.length = ns.length → (putV f y ns vs).length = (putN f ns).length
  | [], [], _ => rfl
  | [], _ :: _, h => nomatch h
  | _ :: _, [], h => nomatch h
  | g :: ns, v :: vs, h => by
    rw [putN, putV]
    by_cases e : g = f
    · rw [if_pos e, if_pos e]
      exact h
    · rw [if_neg e, if_neg e, List.length_cons, List.length_cons, putV_len ns vs (by simpa using h)]
section
variable {K : PySem.W.Frag} {H : Hp}
theorem denL_putV {f : Str} {y : D} {v : V} (d : Den K H y v) : ∀ {ns : List Str} {ds : List D} {vs : List V}, vs.length = ns.length → DenL K H ds vs → DenL K H (putV f y ns ds) (putV f v ns vs)
  | [], ds, vs, hl, h => by
    cases vs with
    | cons _ _ => cases hl
    | nil =>
      cases ds with
      | nil => exact DenL.one d
      | cons x xs => obtain ⟨_, _, e, _⟩ := h.uncons; cases e
  | g :: ns, ds, vs, hl, h => by
    cases vs with
    | nil => cases hl
    | cons w vs =>
      cases ds with
      | nil => cases h.nil_eq
      | cons x xs =>
        obtain ⟨_, _, e, d1, d2⟩ := h.uncons
        cases e
        rw [putV, putV]
        by_cases e : g = f
        · rw [if_pos e, if_pos e]
          exact DenL.cons d d2
        · rw [if_neg e, if_neg e]
          exact DenL.cons d1 (denL_putV d (by simpa using hl) d2)
theorem denL_look {f : Str} {y : D} : ∀ {ns : List Str} {ds : List D} {vs : List V}, DenL K H ds vs → (ns.zip ds).lookup f = some y → ∃ v, (ns.zip vs).lookup f = some v ∧ Den K H y v
  | [], ds, vs, h, e => by simp at e
  | g :: ns, [], vs, h, e => by simp at e
  | g :: ns, x :: xs, vs, h, e => by
    obtain ⟨v, r, rfl, d1, d2⟩ := h.uncons
    rw [List.zip_cons_cons, List.lookup_cons] at e
    rw [List.zip_cons_cons, List.lookup_cons]
    cases hb : f == g with
    | true =>
      rw [hb] at e
      cases e
      exact ⟨v, rfl, d1⟩
    | false =>
      rw [hb] at e
      exact denL_look d2 e
theorem look_none {α : Type} {m : Str} : ∀ {ns : List Str} {vs : List α}, m ∉ ns → (ns.zip vs).lookup m = none
  | [], vs, _ => by simp
  | g :: ns, [], _ => by simp
  | g :: ns, v :: vs, h => by
    rw [List.zip_cons_cons, List.lookup_cons]
    have : (m == g) = false := by
      rw [beq_eq_false_iff_ne]
      exact fun z => h (z ▸ List.mem_cons_self)
    rw [this]
    exact look_none fun z => h (List.mem_cons_of_mem _ z)
end
section
variable {X : Cx} {C : Addr} {o e value : Expr} {f m x : Str} {pos pos' tpos apos p : Pos} {ta tv : DTE} {es : List Expr} {t : DTA}
def dFld (C : Addr) (ta : DTE) (f : Str) : DTE := fun ε S Q => ta ε S fun x S1 => ∃ a ns ds d, x = .ref a ∧ S1 a = some (.gen (objK C ns) ds) ∧ (ns.zip ds).lookup f = some d ∧ Q d S1
theorem de_fld (hc : Cls X.K C) (hn : NoAttr X.K C f) (ha : DE X e ta) (hb : attributeBase e f X.env (eval e X.env) = eval e X.env := by rfl) : DE X (.Attribute e f pos) (dFld C ta f) :=
  PE_imp (pe_fld ha hb) fun σ H Q ⟨ε, S, Q0, rE, rS, q, k⟩ => ⟨ε, S, _, rE, rS, q, fun d S1 v H1 q1 den rS1 f1 => by
    obtain ⟨a, ns, ds, y, rfl, hS, hl, q2⟩ := q1
    cases (show v = .ref a from den)
    obtain ⟨o, vs, ho, ⟨dx, rfl, hlen⟩, dl⟩ := rS1.cell a _ hS
    obtain ⟨v', lk, dv⟩ := denL_look dl hl
    exact ⟨a, C, dx, _, v', rfl, ho, hc, hn, lk, k y S1 v' H1 q2 dv rS1 f1⟩⟩
def dSFld (C : Addr) (ta tv : DTE) (f : Str) : DTS := fun D ε S => tv ε S fun y S1 => ta ε S1 fun x S2 => ∃ a ns ds, x = .ref a ∧ S2 a = some (.gen (objK C ns) ds) ∧ ns.length < 900 ∧ D.nx ε (put S2 a (.gen (objK C (putN f ns)) (putV f y ns ds)))
theorem ds_fld (hc : Cls X.K C) (hn : NoAttr X.K C f) (ha : DE X o ta) (hv : DE X value tv) (hs : swapsWith value (some (.Attribute o f pos')) pos.line X.env = pure false := by rfl) : DS X (.Assign [.Attribute o f pos'] value pos) (dSFld C ta tv f) :=
  PS_imp (ps_fld ha hv hs) fun D σ H ⟨ε, S, D0, rE, rS, q, k⟩ => ⟨ε, S, _, rE, rS, q, fun y S1 u H1 q1 den1 rS1 f1 =>
    ⟨ε, S1, _, rE.frame rS f1, rS1, q1, fun d S2 v H2 q2 den rS2 f2 => by
      obtain ⟨a, ns, ds, rfl, hS, hl, q3⟩ := q2
      cases (show v = .ref a from den)
      obtain ⟨o', vs, ho, ⟨dx, rfl, hlen⟩, dl⟩ := rS2.cell a _ hS
      have den2 := Den.frame rS1 f2 y u den1
      refine ⟨a, C, dx, _, rfl, ho, hc, hn, by rw [List.length_zip]; omega, ?_⟩
      have fr : Frame S2 H2 (put S2 a (.gen (objK C (putN f ns)) (putV f y ns ds))) (upd H2 a (.ins C dx (putF f u (ns.zip vs)))) := frame_put hS
      have rS3 : RelS X.K (upd H2 a (.ins C dx (putF f u (ns.zip vs)))) (put S2 a (.gen (objK C (putN f ns)) (putV f y ns ds))) := by
        refine rS2.put hS (fun F z => nomatch z) ⟨_, putV f u ns vs, upd_same, ⟨dx, by rw [putF_zip ns vs hlen], putV_len ns vs hlen⟩, ?_⟩
        exact denL_putV (Den.frame rS2 fr y u den2) hlen (DenL.frame rS2 fr ds vs dl)
      exact k.nx ε _ _ _ q3 (((rE.frame rS f1).frame rS1 f2).frame rS2 fr) rS3 ((f1.trans f2).trans fr)⟩⟩
section
variable {CX : CXT} {k : Nat} {g : Addr} {fd : FuncData} {ps : List Str} {sp : Sp} {dvs : List V} {dds : List Value} {E : XK} {te : TE} {tas : TA}
theorem pe_methG0 {pl : Sem Bool} (he : PE X o te) (c : Cls X.K C) (hm : Meth X.K C m g) (F : FnG X.prog X.w X.K X.mg X.base CX k g fd ps sp) (hr : RoomG k X.A) (hb : Binds X.K fd ps dds) (hd : Vals dvs dds) (hx : Passes CX X E)
    (ht : eval (.Call (.Attribute o m apos) [] [] pos) X.env = (do
      let ov ← eval o X.env
      standAt apos.atName
      let (f, first) ← holding [ov] (getMethod ov m pl)
      callWith pos f first (backTo pos (starEach [] X.env)) (backToKw pos (keywordEach [] X.env))) := by rfl) :
    PE X (.Call (.Attribute o m apos) [] [] pos) (tMeth C m sp dvs E te tNil) := by
  refine ⟨fun pins s σ H Q I h => ?_⟩
  refine PySem.W.methodCall_KW (pl := pl) (thn (he.run pins s σ H _ I h) fun u s1 ⟨x, H1, I1, rx, a, dx, fs, ex, ea, l, q⟩ => ?_) ht
  subst ex
  obtain rfl : u = Value.ref a := rx
  refine getmeth_ok I1 ea c hm l ?_
  exact PySem.W.callWith_K0 (first := [.ref a]) I1.kIn hm.kp (runG (us := [.ref a]) (vs := [.ref a]) F hr hb hd hx I1 (.cons rfl .nil) q)
theorem RoomG.make {A : Around} (r : RoomG (k + 1) A) (C : Addr) (us : List Value) (kw : List (Str × Value)) : RoomG k (A.under (.builtin "type.__call__" ⟨.ref C :: us, kw⟩)) :=
  ⟨r.r.make C us kw, by
    have : (A.under (.builtin "type.__call__" ⟨.ref C :: us, kw⟩)).guards = A.guards := by
      first | rfl | simp [Around.under, Code.weight, Code.isCreation, Code.isGuard, Code.isCaller, Code.frames, Code.isFrame, guardIds]
    rw [this]
    exact r.g⟩
theorem run_makeG {pins : List (Addr × Obj)} {σ : L2.St} {H : Hp} {s : Shared} {Q : VK} {us : List Value} {vs : List V} (M : Mk X.K C g) (F : FnG X.prog X.w X.K X.mg X.base CX k g fd ps sp) (hr : RoomG (k + 1) X.A) (hb : Binds X.K fd ps dds) (hd : Vals dvs dds)
    (hx : Passes CX X E) (I : Inv X pins σ H s) (r : Vals vs us)
    (h : ∀ x dx, H x = none → H dx = none → dx ≠ x → sp (.ref x :: (vs ++ dvs)) (upd (upd H dx (.own x)) x (.ins C dx [])) (fun v H2 => v = .non ∧ Q (.ref x) H2) E) :
    wpAny (model X.prog X.w) X.A (call (.ref C) us) (EP X pins σ Q) X.xe s := by
  have hq := h (s.heap.objs.size + 1) s.heap.objs.size (I.hok.fresh (Nat.le_succ _)) (I.hok.fresh (Nat.le_refl _)) (Nat.ne_of_lt (Nat.lt_succ_self _))
  have I2 := Inv.made (C := C) I
  have r2 : Vals (V.ref (s.heap.objs.size + 1) :: (vs ++ dvs)) (Value.ref (s.heap.objs.size + 1) :: (us ++ dds)) := .cons rfl (r.append hd)
  have hl : (Value.ref (s.heap.objs.size + 1) :: us ++ dds).length = ps.length := by
    have e := r2.length
    rw [F.len _ _ _ _ hq] at e
    exact e.symm
  refine wpAny_call (make_map (f := g) I.kIn M.makes M.init (beq_iff_eq.mp M.fn) (codeAny_mono (F.run _ X.stack _ _ ⟨Value.ref (s.heap.objs.size + 1) :: us, []⟩ (Value.ref (s.heap.objs.size + 1) :: (us ++ dds)) _ _ E (hr.make C us [])
    (I2.env0.make C us []) (hb _ (Value.ref (s.heap.objs.size + 1) :: us) I2.kIn hl) r2 hq) fun r s' hq' => ?_))
  cases r with
  | error e => exact hx pins σ _ _ e s' I2 hq'
  | ok fl =>
    cases fl with
    | ret u =>
      obtain ⟨v, H', I3, rv, ev, q3⟩ := I2.after hq'
      subst ev
      exact ⟨rv, ⟨V.ref (s.heap.objs.size + 1), H', I3, rfl, q3⟩⟩
    | next => exact False.elim hq'
    | brk => exact False.elim hq'
    | cont => exact False.elim hq'
theorem pe_makeG (M : Mk X.K C g) (F : FnG X.prog X.w X.K X.mg X.base CX k g fd ps sp) (hr : RoomG (k + 1) X.A) (hg : Gl X x) (hm : X.mg x = some (.ref C)) (hb : Binds X.K fd ps dds) (hd : Vals dvs dds) (hx : Passes CX X E)
    (ha : PA X (e :: es) tas) (hdb : (x == ("__debug__" : Str)) = false := by decide) (he : starEach (e :: es) X.env = (false, eval e X.env) :: starEach es X.env := by rfl) (hpl : (backTo pos (starEach es X.env)).any (·.1) = false := by rfl) :
    PE X (.Call (.Name x p) (e :: es) [] pos) (tMake C sp dvs E tas) := by
  refine ⟨fun pins s σ H Q I h => ?_⟩
  refine wpAny_Call_Name_kw (ld_glob I hg hm ?_ hdb)
  refine PySem.W.callWith_K (h₀ := X.base) I.ok.mod.kin M.kp (thn (ha.run pos pins s σ H _ I h) fun us s1 ⟨vs, H1, I1, r, q⟩ => ⟨I1.kIn, ?_⟩) he hpl
  exact run_makeG M F hr hb hd hx I1 r q
end
section
variable {k : Nat} {g : Addr} {fd : FuncData} {ps : List Str} {sp : DSp}
def dMeth0 (C : Addr) (m : Str) (sp : DSp) (to : DTE) : DTE := fun ε S Q => to ε S fun x S1 => ∃ a ns ds, x = .ref a ∧ S1 a = some (.gen (objK C ns) ds) ∧ m ∉ ns ∧ sp [.ref a] S1 Q
theorem de_meth0 {pl : Sem Bool} (c : Cls X.K C) (hm : Meth X.K C m g) (F : FnD X.prog X.w X.K X.mg X.base k g fd ps sp) (hr : RoomG k X.A) (hb : Binds X.K fd ps []) (ho : DE X o ta)
    (ht : eval (.Call (.Attribute o m apos) [] [] pos) X.env = (do
      let ov ← eval o X.env
      standAt apos.atName
      let (f, first) ← holding [ov] (getMethod ov m pl)
      callWith pos f first (backTo pos (starEach [] X.env)) (backToKw pos (keywordEach [] X.env))) := by rfl) :
    DE X (.Call (.Attribute o m apos) [] [] pos) (dMeth0 C m sp ta) :=
  PE_imp (pe_methG0 ho c hm F hr hb .nil pass0 ht) fun σ H Q ⟨ε, S, Q0, rE, rS, q, k⟩ => ⟨ε, S, _, rE, rS, q, fun d S1 v H1 q1 den rS1 f1 => by
    obtain ⟨a, ns, ds, rfl, hS, hmn, q2⟩ := q1
    cases (show v = .ref a from den)
    obtain ⟨o', vs, ho', ⟨dx, rfl, hlen⟩, dl⟩ := rS1.cell a _ hS
    exact ⟨a, dx, _, rfl, ho', look_none hmn, [.ref a], S1, Q0, DenL.one rfl, rS1, q2, k.frame f1⟩⟩
def dMake (C : Addr) (sp : DSp) (t : DTA) : DTE := fun ε S Q => t ε S fun ds S1 => ∀ a, S1 a = none → sp (.ref a :: ds) (put S1 a (.gen (objK C []) [])) fun d S2 => d = .non ∧ Q (.ref a) S2
theorem de_make (M : Mk X.K C g) (F : FnD X.prog X.w X.K X.mg X.base k g fd ps sp) (hr : RoomG (k + 1) X.A) (hg : Gl X x) (hm : X.mg x = some (.ref C)) (hb : Binds X.K fd ps [])
    (ha : DA X (e :: es) t) (hdb : (x == ("__debug__" : Str)) = false := by decide) (he : starEach (e :: es) X.env = (false, eval e X.env) :: starEach es X.env := by rfl) (hpl : (backTo pos (starEach es X.env)).any (·.1) = false := by rfl) :
    DE X (.Call (.Name x p) (e :: es) [] pos) (dMake C sp t) :=
  PE_imp (pe_makeG M F hr hg hm hb .nil pass0 ha hdb he hpl) fun σ H Q ⟨ε, S, Q0, rE, rS, q, k⟩ => ⟨ε, S, _, rE, rS, q, fun ds S1 vs H1 q1 den rS1 f1 => by
    intro x dx hx hdx ne
    have hx2 : upd H1 dx (.own x) x = none := by rw [upd_ne (Ne.symm ne)]; exact hx
    have fr1 : Frame S1 H1 S1 (upd H1 dx (.own x)) := frame_new hdx
    have rS2 := rS1.frame_new (o := .own x) hdx
    have fr2 : Frame S1 (upd H1 dx (.own x)) (put S1 x (.gen (objK C []) [])) (upd (upd H1 dx (.own x)) x (.ins C dx [])) :=
      ⟨fun a o h e n => ⟨by rw [upd_ne (ne_of_none e hx2)]; exact e, by rw [put_ne (ne_of_none e hx2)]; exact h⟩, fun a h => upd_there h⟩
    have rS3 : RelS X.K (upd (upd H1 dx (.own x)) x (.ins C dx [])) (put S1 x (.gen (objK C []) [])) := rS2.add hx2 ⟨_, [], upd_same, ⟨dx, rfl, rfl⟩, DenL.nil⟩
    have den3 := DenL.frame rS2 fr2 ds vs (DenL.frame rS1 fr1 ds vs den)
    refine ⟨.ref x :: ds, _, _, by rw [List.append_nil]; exact DenL.cons rfl den3, rS3, q1 x (rS1.free hx), fun d S2 v H2 ⟨e1, q2⟩ den4 rS4 f4 => ?_⟩
    subst e1
    exact ⟨den4, k (.ref x) S2 (.ref x) H2 q2 rfl rS4 (((f1.trans fr1).trans fr2).trans f4)⟩⟩
end
end
end DL

namespace DL
open PySem PySem.Spec PyProof.Rows L2
variable [Amb]

mutual
/-- a value as a key -/
def nkD : D → NestedKey
  | .int i => .num i
  | .str x => .text x
  | .tup ds => .tup (nkL ds)
  | _ => .none
def nkL : List D → List NestedKey
  | [] => []
  | d :: ds => nkD d :: nkL ds
end
mutual
def nkOk : D → Bool
  | .int _ => true
  | .str _ => true
  | .tup ds => nkOkL ds
  | _ => false
def nkOkL : List D → Bool
  | [] => true
  | d :: ds => nkOk d && nkOkL ds
end
mutual
theorem nk_inj : ∀ {a b : D}, nkOk a = true → nkOk b = true → nkD a = nkD b → a = b
  | .int i, b, _, hb, h => by
    cases b <;> first | (simp [nkOk] at hb; done) | (simp [nkD] at h; done) | (simp only [nkD, NestedKey.num.injEq] at h; rw [h])
  | .str x, b, _, hb, h => by
    cases b <;> first | (simp [nkOk] at hb; done) | (simp [nkD] at h; done) | (simp only [nkD, NestedKey.text.injEq] at h; rw [h])
  | .tup ds, b, ha, hb, h => by
    cases b with
    | tup es =>
      simp only [nkOk] at ha hb
      simp only [nkD, NestedKey.tup.injEq] at h
      rw [nk_injL ha hb h]
    | int i => simp [nkD] at h
    | str x => simp [nkD] at h
    | _ => simp [nkOk] at hb
  | .non, _, ha, _, _ => by simp [nkOk] at ha
  | .bl _, _, ha, _, _ => by simp [nkOk] at ha
  | .ty _, _, ha, _, _ => by simp [nkOk] at ha
  | .ref _, _, ha, _, _ => by simp [nkOk] at ha
  | .ilst _, _, ha, _, _ => by simp [nkOk] at ha
  | .fdic _ _, _, ha, _, _ => by simp [nkOk] at ha
theorem nk_injL : ∀ {as bs : List D}, nkOkL as = true → nkOkL bs = true → nkL as = nkL bs → as = bs
  | [], [], _, _, _ => rfl
  | [], b :: bs, _, _, h => by simp [nkL] at h
  | a :: as, [], _, _, h => by simp [nkL] at h
  | a :: as, b :: bs, ha, hb, h => by
    simp only [nkOkL, Bool.and_eq_true] at ha hb
    simp only [nkL, List.cons.injEq] at h
    rw [nk_inj ha.1 hb.1 h.1, nk_injL ha.2 hb.2 h.2]
end
def keyOk (d : D) : Bool := match d with
  | .tup ds => nkOk (.tup ds) && decide ((nkD (.tup ds)).depth ≤ 8)
  | _ => false
section
variable {X : Cx} {pins : List (Addr × Obj)} {σ : L2.St} {H : Hp} {s : Shared}
mutual
theorem den_nested (I : Inv X pins σ H s) : ∀ (d : D) (v : V) (u : Value), nkOk d = true → Den X.K H d v → RelV v u → NestedIs s.heap (nkD d) u
  | .int i, v, u, _, h, r => by
    cases (show v = .int i from h)
    obtain ⟨t, rfl⟩ := r
    exact .int i t
  | .str x, v, u, _, h, r => by
    cases (show v = .str x from h)
    obtain ⟨t, rfl⟩ := r
    exact .text x t
  | .tup ds, v, u, ok, h, r => by
    obtain ⟨a, vs, rfl, hp, hd⟩ := (show ∃ a vs, v = .ref a ∧ PlT X.K H a vs ∧ DenL X.K H ds vs from h)
    cases (show u = .ref a from r)
    obtain ⟨its, rv, ⟨o, ho, hc, n, hdat⟩, _⟩ := I.tuple hp.sq
    simp only [nkOk] at ok
    exact .tup ho hc hdat (by simpa using den_nestedL I ds vs its ok hd rv)
  | .non, _, _, ok, _, _ => by simp [nkOk] at ok
  | .bl _, _, _, ok, _, _ => by simp [nkOk] at ok
  | .ty _, _, _, ok, _, _ => by simp [nkOk] at ok
  | .ref _, _, _, ok, _, _ => by simp [nkOk] at ok
  | .ilst _, _, _, ok, _, _ => by simp [nkOk] at ok
  | .fdic _ _, _, _, ok, _, _ => by simp [nkOk] at ok
theorem den_nestedL (I : Inv X pins σ H s) : ∀ (ds : List D) (vs : List V) (us : List Value), nkOkL ds = true → DenL X.K H ds vs → Vals vs us → NestedAll s.heap (nkL ds) us
  | [], vs, us, _, h, r => by
    cases h.nil_eq
    cases r
    exact .nil
  | d :: ds, vs, us, ok, h, r => by
    obtain ⟨v, w, rfl, h1, h2⟩ := h.uncons
    cases r with
    | cons r1 r2 =>
      simp only [nkOkL, Bool.and_eq_true] at ok
      exact .cons (den_nested I d v _ ok.1 h1 r1) (den_nestedL I ds w _ ok.2 h2 r2)
end
end
def xsOf : List D → List Addr → List Value → List (NestedKey × Addr × Value)
  | k :: ks, t :: ts, u :: us => (nkD k, t, u) :: xsOf ks ts us
  | _, _, _ => []
def DnH (w : World) (a : Addr) (ks : List D) (ts : List Addr) (us : List V) : Heap → Prop := fun h => ∃ ob es ep vals, h.get? a = some ob ∧ ob.ExactDict ∧ ob.data = .dict es ep ∧ Vals us vals ∧
  es.toList = (xsOf ks ts vals).map fun x => (⟨x.1.hash w, .ref x.2.1, x.2.2⟩ : DictEntry)
theorem not_code {w : World} {a : Addr} {ks : List D} {ts : List Addr} {us : List V} (p : Addr) (q : Str) : HO.ext (DnH w a ks ts us) ≠ LamX.CodeO p q := fun z => by
  have e := HO.ext.inj z
  have h0 : (fun h : Heap => ∃ (oc : Obj) (vs : Array Value) (t : Tok), h.get? p = some oc ∧ oc.data = .fields vs ∧ vs[1]? = some (.str q t)) ⟨(List.replicate (p + 1) ({ cls := .none, data := .fields #[.none, .str q 0] } : Obj)).toArray, {}⟩ := by
    refine ⟨{ cls := .none, data := .fields #[.none, .str q 0] }, #[.none, .str q 0], 0, ?_, rfl, rfl⟩
    unfold Heap.get?
    simp
  rw [← e] at h0
  obtain ⟨ob, es, ep, vals, g, _, d, _⟩ := h0
  unfold Heap.get? at g
  by_cases ha : a < p + 1
  · simp [ha] at g
    rw [← g] at d
    cases d
  · simp [ha] at g
def dnK (w : World) (ks : List D) : GK := ⟨fun a vs o => (a == sysModules) = false ∧ ks.length ≤ 1000000 ∧ (∀ k ∈ ks, keyOk k = true) ∧ ks.Nodup ∧ ∃ ts us, vs = ts.map V.ref ++ us ∧ ts.length = ks.length ∧ us.length = ks.length ∧ o = .ext (DnH w a ks ts us),
  fun a vs o ⟨_, _, _, _, ts, us, _, _, _, e⟩ => .inr ⟨⟨_, e⟩, fun p q z => not_code p q (e.symm.trans z)⟩⟩
def dnAt : List D → List D → D → Option D
  | k :: ks, d :: ds, x => if nkD k = nkD x then some d else dnAt ks ds x
  | _, _, _ => none
section
variable {K : PySem.W.Frag} {H : Hp}
end
section
variable {X : Cx} {pins : List (Addr × Obj)} {σ : L2.St} {H : Hp} {s : Shared} {S : SD}
end
section
variable {X : Cx} {a b e f o : Expr} {ta tb to : DTE} {pos apos cpos : Pos}
end
end DL

namespace DL
open PySem PySem.Spec PyProof.Rows L2
variable [Amb]

section
variable {K : PySem.W.Frag} {H : Hp}
end
section
variable {X : Cx} {pins : List (Addr × Obj)} {σ : L2.St} {H : Hp} {s : Shared} {S : SD}
end
section
variable {X : Cx} {e f o : Expr} {ta tb to : DTE} {pos apos cpos : Pos}
end
end DL

namespace DL
open PySem PySem.Spec PyProof.Rows L2 NdefX LamX
section
variable {prog : Program} {w : World} {A : Around} {E : Value → Shared → Prop} {s : Shared} {z TI TO i1 i2 T : Addr} {f : Bool} {oT : Obj} {fp1 fp2 : List Addr} {n1 n2 i : Nat} {P1 P2 : Nat → Value → Prop} {St1 St2 : Nat → Heap → Prop}
end
section
variable [Amb] {X : Cx} {pins : List (Addr × Obj)} {σ : L2.St} {A1 : Around} {a b q z t1 t2 i1 i2 : Addr} {b1 b2 : Bool}
end
section
variable [Amb] {X : Cx} {a b : Expr} {ta : DTA} {pos pos2 p p2 : Pos}
end
end DL

namespace DL
open PySem PySem.Spec PyProof.Rows L2 NdefX LamX
section
variable [Amb] {X : Cx} {o e : Expr} {to te : DTE} {t : DTA} {pos apos : Pos}
def rIntS : RAD := fun ds S Q => ∃ a n, ds = [.str a] ∧ PySem.intText? a = some n ∧ a.length ≤ 640 ∧ Q (.int n) S
theorem dc_intS : DCall X (.type "int") rIntS := by
  intro pins s σ H xs us Q I r ⟨ds, S, Q0, den, rS, ⟨a, n, e0, h1, h2, q⟩, k⟩
  subst e0
  obtain ⟨v, w, rfl, d1, d2⟩ := den.uncons
  cases d2.nil_eq
  cases (show v = .str a from d1)
  exact call_int_str pins s σ H _ us Q I r ⟨a, n, rfl, h1, h2, k _ S _ H q rfl rS Frame.refl⟩
def rStrI : RAD := fun ds S Q => ∃ i, ds = [.int i] ∧ i.natAbs.log2 < 1920 ∧ Q (.str (toString i)) S
theorem dc_strI : DCall X (.type "str") rStrI := by
  intro pins s σ H xs us Q I r ⟨ds, S, Q0, den, rS, ⟨i, e0, h1, q⟩, k⟩
  subst e0
  obtain ⟨v, w, rfl, d1, d2⟩ := den.uncons
  cases d2.nil_eq
  cases (show v = .int i from d1)
  exact call_str_int pins s σ H _ us Q I r ⟨i, rfl, h1, k _ S _ H q rfl rS Frame.refl⟩
def dJoinF (to : DTE) (t : DTA) : DTE := fun ε S Q => to ε S fun x S1 => (∃ a, x = .str a) ∧ t ε S1 fun ds S2 => ∃ a ys, x = .str a ∧ ds = ys.map D.str ∧ (ys.map (·.length)).sum + ys.length * a.length ≤ 16777216 ∧ Q (.str (Txt.join a ys)) S2
theorem de_joinF (ho : DE X o to) (he : DF X e t) (hs : starEach [e] X.env = [(false, eval e X.env)] := by rfl) (hbase : attributeBase o "join" X.env (eval o X.env) = eval o X.env := by rfl) (hline : (apos.endLine == pos.line) = true := by rfl) :
    DE X (.Call (.Attribute o "join" apos) [e] [] pos) (dJoinF to t) :=
  PE_imp (pe_join ho he hs hbase hline) fun σ H Q ⟨ε, S, Q0, rE, rS, q, k⟩ => ⟨ε, S, _, rE, rS, q, fun x S1 v H1 ⟨⟨a0, e0⟩, q1⟩ den rS1 f1 =>
    ⟨⟨a0, by rw [e0] at den; exact den⟩, ε, S1, _, rE.frame rS f1, rS1, q1, fun ds S2 p vs H2 ⟨a, ys, e1, e2, hz, q2⟩ h0 hS hp dl rS2 f2 => by
      subst e1 e2
      cases (show v = .str a from den)
      have ev := denL_strs' dl
      subst ev
      exact ⟨a, p, ys, rfl, rfl, .inl (.inl (.inl hp)), hz, k _ S2 _ H2 q2 rfl rS2 (f1.trans f2)⟩⟩⟩
variable {value : Expr} {tpos : Pos} {ta tv : DTE} {C : Addr} {f : Str}
def dFldAdd (C : Addr) (ta tv : DTE) (f : Str) : DTS := fun D ε S => ta ε S fun x S1 => ∃ a ns ds i, x = .ref a ∧ S1 a = some (.gen (objK C ns) ds) ∧ (ns.zip ds).lookup f = some (.int i) ∧
  tv ε S1 fun y S2 => ∃ j ns' ds', y = .int j ∧ S2 a = some (.gen (objK C ns') ds') ∧ ns'.length < 900 ∧ D.nx ε (put S2 a (.gen (objK C (putN f ns')) (putV f (.int (i + j)) ns' ds')))
theorem ds_fldAdd (hc : Cls X.K C) (hn : NoAttr X.K C f) (ha : DE X o ta) (hv : DE X value tv) : DS X (.AugAssign (.Attribute o f tpos) .Add value pos) (dFldAdd C ta tv f) :=
  PS_imp (ps_fldaug ha hv in_add) fun D σ H ⟨ε, S, D0, rE, rS, q, k⟩ => ⟨ε, S, _, rE, rS, q, fun d S1 v H1 q1 den rS1 f1 => by
    obtain ⟨a, ns, ds, i, rfl, hS, hl, q2⟩ := q1
    cases (show v = .ref a from den)
    obtain ⟨o', vs, ho, ⟨dx, rfl, hlen⟩, dl⟩ := rS1.cell a _ hS
    obtain ⟨v', lk, dv⟩ := denL_look dl hl
    cases (show v' = .int i from dv)
    refine ⟨a, C, dx, _, _, rfl, ho, hc, hn, lk, ε, S1, _, rE.frame rS f1, rS1, q2, fun y S2 u H2 q3 den2 rS2 f2 => ?_⟩
    obtain ⟨j, ns', ds', rfl, hS2, hl2, q4⟩ := q3
    cases (show u = .int j from den2)
    obtain ⟨o2, vs2, ho2, ⟨dx2, rfl, hlen2⟩, dl2⟩ := rS2.cell a _ hS2
    refine ⟨i, j, rfl, rfl, dx2, _, ho2, by rw [List.length_zip]; omega, ?_⟩
    have fr : Frame S2 H2 (put S2 a (.gen (objK C (putN f ns')) (putV f (.int (i + j)) ns' ds'))) (upd H2 a (.ins C dx2 (putF f (.int (i + j)) (ns'.zip vs2)))) := frame_put hS2
    have rS3 : RelS X.K (upd H2 a (.ins C dx2 (putF f (.int (i + j)) (ns'.zip vs2)))) (put S2 a (.gen (objK C (putN f ns')) (putV f (.int (i + j)) ns' ds'))) := by
      refine rS2.put hS2 (fun F z => nomatch z) ⟨_, putV f (.int (i + j)) ns' vs2, upd_same, ⟨dx2, by rw [putF_zip ns' vs2 hlen2], putV_len ns' vs2 hlen2⟩, ?_⟩
      exact denL_putV (y := .int (i + j)) (v := .int (i + j)) rfl hlen2 (DenL.frame rS2 fr ds' vs2 dl2)
    exact k.nx ε _ _ _ q4 ((rE.frame rS f1).frame rS1 f2 |>.frame rS2 fr) rS3 ((f1.trans f2).trans fr)⟩
end
end DL

namespace DL
open PySem PySem.Spec PyProof.Rows L2 NdefX LamX
theorem walkGC {l : PySem.W.OpenLaw} {n k : Nat} {q : Program} {loose : List Str} {XP : (Str → Option Value) → Heap → Prop} {YP : World → Heap → Prop} {d : DefRec} {K : Params → PySem.W.Frag} {sp : DSp} {x : Str} {xs : List Str}
    (hn : l.most = some n) (hn2 : n ≤ sizeLine) (hdf : d.params.defaults = []) (hr : RoomG k callerA) (hrec : ∀ y ∈ xs, ((recsOf q).any fun e => e.name == y) = true) (hY : ∀ (w : World) (h : Heap), YP w h → (K w.params).In h)
    (F : ∀ (w : World) (mg : Str → Option Value) (fa : Addr) (h : Heap), (K w.params).In h → h.Ns mainGlobals mg → mg d.name = some (.ref fa) →
      ∃ (fd : FuncData) (Ts : List Addr) (nm : Nat → Nat → Str) (cls : Str → Addr) (wd : World → Prop), (∀ (s : Shared) (u : Value), BindsTo s fd ⟨[u], []⟩ [(x, u)]) ∧ (∀ P ∈ Ts, (K w.params).lookup P = none ∧ ∃ y c, y ∈ xs ∧ PySem.W.codeHdIn (K w.params) c P = true ∧ TabAt (K w.params) mg y c P) ∧
        ∀ base : Heap, (K w.params).In base → base.Ns mainGlobals mg → (∀ P ∈ Ts, base.BuiltinsAt mg P ∧ mainGlobals ≠ P) → @FnD (ambOf Ts nm cls wd) l.prog w (K w.params) mg base k fa fd [x] sp)
    (hsp : ∀ ns : List Int, ns.length ≤ n → sp [.ilst (ns.map D.int)] (fun _ => none) fun d _ => d = .bl true) :
    PySem.W.WalkO q loose XP YP l.row.toRowW d [] (fun f vs => PySem.call f vs) := by
  refine Att.attach_call hn hdf fun w s₀ s1 mg mb fa o pm cd doc a vs ns G Y ho hd hcd hmg hobj hints hlen hg => ?_
  have KX := hY w _ Y
  obtain ⟨fd, Ts, nm, cls, wd, hb, hT, hF⟩ := F w mg fa _ KX G.T.g hmg
  refine lawGT KX G.T.g G.T.b G.T.builtins G.T.nolimit hg hobj hints (Nat.le_trans hlen hn2) hr (fun P hP => ?_) (fun P hP => (hT P hP).1) (fun P hP => ?_) G.T.bmain hF hb (hsp ns hlen)
  · obtain ⟨_, y, c, hy, _, f, o1, g, e, dd, us, sl, m1, k1, k2, k3, k4, k5⟩ := hT P hP
    obtain ⟨dy, my, ey⟩ := List.any_eq_true.mp (hrec y hy)
    obtain ⟨f2, o2, g2, c2, P2, r1, r2, r3, r4, r5, ⟨oc, vc, t1, t2, t3, t4⟩, tP⟩ := G.T.tab dy my
    rw [beq_iff_eq.mp ey, m1] at r1
    cases r1
    rw [KX _ _ k1] at r2
    cases r2
    rw [k2] at r3
    cases r3
    rw [k3] at r4
    cases r4
    rw [KX _ _ k4] at t1
    cases t1
    cases t3
    rw [k5] at t4
    cases t4
    exact tP
  · obtain ⟨_, y, c, _, hc, _⟩ := hT P hP
    exact ⟨c, PySem.W.codeHd_of_K KX hc⟩
end DL

namespace L2
open PySem PySem.Spec PyProof.Rows
def stepped {α : Type} (i : Int) (xs : List α) : List α := if i = 1 then xs else xs.reverse
end L2
namespace DL
open PySem PySem.Spec PyProof.Rows L2
section
variable [Amb] {X : Cx} {e st : Expr} {te : DTE} {ts : DTO} {p3 pos : Pos}
end
end DL

namespace DL
open PySem PySem.Spec PyProof.Rows L2
variable [Amb]
section
variable {X : Cx}
inductive Repl (a : Addr) (xs : List D) : List D → List D → Prop
  | nil : Repl a xs [] []
  | keep {d ds es} : Repl a xs ds es → Repl a xs (d :: ds) (d :: es)
  | lock {ds es} : Repl a xs ds es → Repl a xs (.ref a :: ds) (.ilst xs :: es)
inductive FrzR : SD → SD → Prop
  | refl {S} : FrzR S S
  | lock {S S' : SD} {a q : Addr} {xs : List D} {G : GK} {ds es : List D} : S a = some (.lst xs) → q ≠ a → S q = some (.gen G ds) → Repl a xs ds es → FrzR (put (drop S a) q (.gen G es)) S' → FrzR S S'
end
end DL

namespace DL
open PySem PySem.Spec PyProof.Rows L2
variable [Amb]
def IsStr (x : D) : Prop := ∃ y, x = .str y
def dSM (r : RMD) (to : DTE) (ta : DTA) : DTE := fun ε S Q => to ε S fun x S1 => IsStr x ∧ ta ε S1 fun ds S2 => r x ds S2 Q
section
variable {X : Cx} {o e : Expr} {es : List Expr} {name : Str} {apos cpos : Pos} {id : String} {r : RMD} {to : DTE} {tas : DTA}
theorem tyV_str {K : PySem.W.Frag} {H : Hp} {x : D} {v : V} (d : Den K H x v) (h : IsStr x) : tyV K "str" v H := by
  obtain ⟨y, rfl⟩ := h
  cases (show v = .str y from d)
  exact rfl
theorem de_sm (slot : Slot "str" name id) (hty : typeOf (.builtin id) = pure (.type "method_descriptor")) (hm : DMt X id r) (ho : DE X o to) (ha : DA X (e :: es) tas)
    (hbase : attributeBase o name X.env (eval o X.env) = eval o X.env := by rfl)
    (hfew : ((backTo cpos (starEach (e :: es) X.env)).all (fun x => !x.1) && (backToKw cpos (keywordEach [] X.env)).all (fun x => x.1.isSome)
      && decide ((e :: es).length + ([] : List Keyword).length + (if ([] : List Keyword).isEmpty then 0 else 1) < 30)) = true := by rfl)
    (hline : (apos.endLine == cpos.line) = true := by rfl) (hs : starEach (e :: es) X.env = (false, eval e X.env) :: starEach es X.env := by rfl) (hplain : (backTo cpos (starEach es X.env)).any (·.1) = false := by rfl) :
    DE X (.Call (.Attribute o name apos) (e :: es) [] cpos) (dSM r to tas) :=
  PE_imp (pe_bm PySem.F.plainAttrs_str slot hty hm ho ha hbase hfew hline hs hplain) fun σ H Q ⟨ε, S, Q0, rE, rS, q, k⟩ => ⟨ε, S, _, rE, rS, q, fun d S1 v H1 q1 den rS1 f1 =>
    ⟨tyV_str den q1.1, ε, S1, _, rE.frame rS f1, rS1, q1.2, fun ds S2 vs H2 q2 den2 rS2 f2 => ⟨d, ds, S2, Q0, den.frame rS1 f2, den2, rS2, q2, k.frame (f1.trans f2)⟩⟩⟩
end
end DL

namespace DL
open PySem PySem.Spec PyProof.Rows L2
section
variable [Amb] {X : Cx}
def insI {α : Type} (i : Nat) (y : α) (xs : List α) : List α := xs.take i ++ y :: xs.drop i
end
end DL

namespace DL
open PySem PySem.Spec PyProof.Rows L2
section
variable [Amb] {X : Cx}
end
end DL

namespace DL
open PySem PySem.Spec PyProof.Rows L2
section
variable [Amb] {X : Cx}
end
end DL

namespace DL
open PySem PySem.Spec PyProof.Rows L2
section
variable [Amb] {X : Cx} {a : Expr} {ta : DTE} {p pos : Pos}
end
end DL

namespace DL
open PySem PySem.Spec PyProof.Rows L2
section
variable [Amb] {X : Cx} {o e f : Expr} {to ta tb : DTE} {apos cpos : Pos}
end
end DL

namespace DL
open PySem PySem.Spec PyProof.Rows L2
def inG (x : D) (ds : List D) : Bool := ds.any fun d => PyData.eqv d.py x.py
def okG (x : D) (ds : List D) : Prop := x.plain = true ∧ plainL ds = true ∧ x.py.depth ≤ 60
instance (x : D) (ds : List D) : Decidable (okG x ds) := by unfold okG; infer_instance
section
variable [Amb] {X : Cx}
end
end DL

namespace DL
open PySem PySem.Spec PyProof.Rows L2
section
variable [Amb] {X : Cx}
end
end DL

namespace DL
open PySem PySem.Spec PyProof.Rows L2
variable [Amb]

section
variable {X : Cx} {e : Expr} {es : List Expr} {ta : TA} {p1 p2 pos : Pos}
theorem pe_keinit {CB : Addr} {mc : Value} {b : Str} {pl : Sem Bool} (hg : Gl X b) (hm : X.mg b = some (.ref CB)) (r : ClX.CRead X.K CB mc) (v : PySem.W.findCls X.K (.ref CB) mc "__init__" = some (.val (.builtin "ValueError.__init__"))) (ha : PA X (e :: es) ta)
    (hdb : (b == ("__debug__" : Str)) = false := by decide)
    (hc : eval (.Call (.Attribute (.Name b p1) "__init__" p2) (e :: es) [] pos) X.env = (do
      let ov ← eval (.Name b p1) X.env
      standAt p2.atName
      let (f, first) ← holding [ov] (getMethod ov "__init__" pl)
      callWith pos f first (backTo pos (starEach (e :: es) X.env)) (backToKw pos (keywordEach [] X.env))) := by rfl)
    (he : starEach (e :: es) X.env = (false, eval e X.env) :: starEach es X.env := by rfl) (hpl : (backTo pos (starEach es X.env)).any (·.1) = false := by rfl) :
    PE X (.Call (.Attribute (.Name b p1) "__init__" p2) (e :: es) [] pos) (tVeI X.K ta) := by
  refine ⟨fun pins s σ H Q I h => ?_⟩
  refine PySem.W.methodCall_KW (ld_glob I hg hm ?_ hdb) hc
  refine PySem.W.method_cls I.kIn r.ga (PySem.W.cls_value I.kIn r.rd v (by decide +kernel) ?_)
  show wpAny _ _ (callWith pos (Value.builtin "ValueError.__init__") [] (backTo pos (starEach (e :: es) X.env)) []) _ _ _
  refine PyProof.Rows.callWith_method1 (thn (ha.run pos pins _ σ H _ (I.tok _) h) fun us s1 ⟨vs, H1, I1, r1, a, C, ws, ev, hl, T, ea, q⟩ => ?_) he hpl
  subst ev
  cases r1 with
  | @cons _ u0 _ ur ra rw' =>
    obtain rfl : u0 = Value.ref a := ra
    have hlen : ur.length ≤ sizeLine := by
      rw [← Paired.length rw', sizeLine_eq]
      omega
    exact oinit_ok T I1 ea hlen fun s' J => ⟨.non, H1, J, rfl, q⟩
end
def spXI (C : Addr) (f : Str) : Sp := fun vs H Q _ => ∃ a v, vs = [.ref a, v] ∧ H a = some (exo a C none) ∧ ∀ dx, H dx = none → dx ≠ a → Q .non (upd (upd H dx (exd dx [(f, v)])) a (exo a C (some dx)))
structure ExcD (P : Program) (w : World) (K : PySem.W.Frag) (mg : Str → Option Value) (base : Heap) (x f : Str) (C : Addr) : Prop where
  gl : mg x = some (.ref C)
  oc : OexC K C
  ini : ∃ fI fd p, PySem.W.findIn K (.ref C) "__init__" = some (some (.ref fI)) ∧ PySem.W.typeIn K (.ref fI) = some (.type "function") ∧ FnOk P w K mg base CX0 1 fI fd ["self", p] (spXI C f) ∧ Binds K fd ["self", p] []
section
variable {P : Program} {w : World} {K : PySem.W.Frag} {mg : Str → Option Value} {base : Heap}
end

def WkX (K : PySem.W.Frag) (C : Addr) (f : Str) (S : SD) (H : Hp) (X0 : DK) (E : XK) : Prop :=
  ∀ c S' v H' dd fs, X0 c S' → Den K H' c v → RelS K H' S' → Frame S H S' H' → H' dd = some (.xd fs) → fs.lookup f = some v → E (.ref C) (some dd) H'
section
variable (K : PySem.W.Frag) (S0 : SD) (H0 : Hp)
def liftSL (t : DTS) : TS := fun D σ H => ∃ ε S D0, RelE K H σ ε ∧ RelS K H S ∧ t D0 ε S ∧ WkD K S H D0 D ∧ Frame S0 H0 S H
end
abbrev DSL (X : Cx) (S0 : SD) (H0 : Hp) (st : Stmt) (t : DTS) : Prop := PS X st (liftSL X.K S0 H0 t)
abbrev DSsL (X : Cx) (S0 : SD) (H0 : Hp) (st : List Stmt) (t : DTS) : Prop := PSs X st (liftSL X.K S0 H0 t)
section
variable {X : Cx} {S0 : SD} {H0 : Hp} {st : Stmt} {rest : List Stmt} {t u : DTS} {pos : Pos}
theorem dsl_of (h : DS X st t) : DSL X S0 H0 st t := PS_imp h fun D σ H ⟨ε, S, D0, a, b, c, d, _⟩ => ⟨ε, S, D0, a, b, c, d⟩
theorem DSL_imp {t' : DTS} (h : DSL X S0 H0 st t) (i : ∀ D ε S, t' D ε S → t D ε S) : DSL X S0 H0 st t' := PS_imp h fun D σ H ⟨ε, S, D0, a, b, c, d, f⟩ => ⟨ε, S, D0, a, b, i _ _ _ c, d, f⟩
theorem DSsL_imp {st : List Stmt} {t' : DTS} (h : DSsL X S0 H0 st t) (i : ∀ D ε S, t' D ε S → t D ε S) : DSsL X S0 H0 st t' := PSs_imp h fun D σ H ⟨ε, S, D0, a, b, c, d, f⟩ => ⟨ε, S, D0, a, b, i _ _ _ c, d, f⟩
theorem dssl_nil : DSsL X S0 H0 [] dNext := PSs_imp pss_nil fun D σ H ⟨ε, S, D0, rE, rS, q, k, _⟩ => k.nx ε S σ H q rE rS Frame.refl
theorem dssl_one (h1 : DSL X S0 H0 st t) : DSsL X S0 H0 [st] t := pss_one h1
theorem dssl_cons (h1 : DSL X S0 H0 st t) (h2 : DSsL X S0 H0 rest u) : DSsL X S0 H0 (st :: rest) (dSeq t u) :=
  PSs_imp (pss_cons h1 h2) fun D σ H ⟨ε, S, D0, rE, rS, q, k, f0⟩ => ⟨ε, S, _, rE, rS, q, ⟨fun ε' S' σ' H' q1 rE1 rS1 f1 => ⟨ε', S', D0, rE1, rS1, q1, k.frame f1, f0.trans f1⟩, k.rt, k.bk, k.ct⟩, f0⟩
theorem dsl_if {c : Expr} {a b : List Stmt} {tc : DTT} (hc : DT X c tc) (ha : DSsL X S0 H0 a t) (hb : DSsL X S0 H0 b u) : DSL X S0 H0 (.If c a b pos) (dIfS tc t u) :=
  PS_imp (ps_if hc ha hb) fun D σ H ⟨ε, S, D0, rE, rS, q, k, f0⟩ => ⟨ε, S, _, rE, rS, q, fun d S1 H1 q1 rS1 f1 => by
    cases d with
    | true => exact ⟨ε, S1, D0, rE.frame rS f1, rS1, q1, k.frame f1, f0.trans f1⟩
    | false => exact ⟨ε, S1, D0, rE.frame rS f1, rS1, q1, k.frame f1, f0.trans f1⟩⟩
theorem upd_del {H : Hp} {a dx : Addr} {u v w : HO} {o : HO} (ha : H a = none) (hd : dx ≠ a) : upd (del (upd (upd (upd H a u) dx v) a w) a) dx o = upd H dx o := by
  funext b
  by_cases h1 : b = dx
  · subst h1
    rw [upd_same, upd_same]
  · rw [upd_ne h1, upd_ne h1]
    by_cases h2 : b = a
    · subst h2
      rw [del_same, ha]
    · rw [del_ne h2, upd_ne h2, upd_ne h1, upd_ne h2]
end

abbrev DSpX := List D → SD → DK → DK → Prop
def liftSpX (K : PySem.W.Frag) (C : Addr) (f : Str) (sp : DSpX) : Sp := fun vs H Q E => ∃ ds S Q0 X0, DenL K H ds vs ∧ RelS K H S ∧ sp ds S Q0 X0 ∧ WkE K S H Q0 Q ∧ WkX K C f S H X0 E
section
variable {P : Program} {w : World} {K : PySem.W.Frag} {mg : Str → Option Value} {base : Heap}
theorem fnXD {x qual fl : Str} {C : Addr} {st : Stmt} {f : Addr} {fd : FuncData} {N ps : List Str} {k : Nat} {sp : DSpX} (F : Fun K x qual st f fd) (S : FnScope N ps (defScope st)) (len : ∀ ds S Q X0, sp ds S Q X0 → ds.length = ps.length) (t : DK → DTS)
    (hbody : ∀ (cdv : Value) (A : Around) (outer : List Env) (s : Shared) (H : Hp) (E : XK) (S0 : SD) (H0 : Hp) (X0 : DK), RoomG k (A.deeper (envOfC qual (defScope st) s.heap.objs.size f cdv)) → WkX K C fl S0 H0 X0 E →
      DSsL (cxOf (L2.CX P w) P w K mg base N qual (defScope st) f cdv A outer s H E) S0 H0 (defBody st) (t X0))
    (hsp : ∀ ds S Q X0, sp ds S Q X0 → t (Lets X0) (endsD Q) (startD N ds) S) : FnG P w K mg base (L2.CX P w) (k + 1) f fd ps (liftSpX K C fl sp) := by
  obtain ⟨oc, od, kV, doc, pm, an, cdv, ct, osl, rfl, lk, hcd⟩ := F.ex
  refine fnG_of lk hcd S (fun vs H Q E ⟨ds, S1, Q0, X0, a, _, c, _⟩ => by rw [a.length]; exact len ds S1 Q0 X0 c) fun A outer s H vs Q E hr h => ?_
  obtain ⟨ds, S1, Q0, X0, den, rS, c, wk, wx⟩ := h
  have wx' : WkX K C fl S1 H (Lets X0) E := fun c S' v H' dd fs ⟨S3, sub, q⟩ dn r fr e1 e2 => wx c S3 v H' dd fs q dn (r.sub sub) (fr.sub sub) e1 e2
  refine ⟨_, hbody cdv A outer s H E S1 H (Lets X0) hr wx', startD N ds, S1, endsD Q0, rel_start den, rS, hsp ds S1 Q0 X0 c, ?_, Frame.refl⟩
  refine ⟨fun ε' S' σ' H' q _ r f => ?_, fun d S' v H' q dd r f => ?_, fun _ _ _ _ q => q.elim, fun _ _ _ _ q => q.elim⟩
  · obtain ⟨S3, sub, q⟩ := q
    exact wk .non S3 .non H' q rfl (r.sub sub) (f.sub sub)
  · obtain ⟨S3, sub, q⟩ := q
    exact wk d S3 v H' q dd (r.sub sub) (f.sub sub)
end

section
variable {X : Cx} {k : Nat} {f : Addr} {fd : FuncData} {ps : List Str} {sp : Sp} {x : Str} {p pos : Pos} {e : Expr} {es : List Expr} {t : TA}
def tCallW (sp : Sp) (W : WX) (t : TA) : TE := fun σ H Q => t σ H fun vs H1 => sp vs H1 Q (WE W σ)
theorem pe_callW {W : WX} (F : FnG X.prog X.w X.K X.mg X.base (L2.CX X.prog X.w) k f fd ps sp) (hr : RoomG k X.A) (hg : Gl X x) (hm : X.mg x = some (.ref f)) (hk : PySem.W.keepIn X.K (.ref f) = true) (hb : Binds X.K fd ps []) (tk : Takes X W)
    (ha : PA X (e :: es) t) (hdb : (x == ("__debug__" : Str)) = false := by decide) (he : starEach (e :: es) X.env = (false, eval e X.env) :: starEach es X.env := by rfl) (hpl : (backTo pos (starEach es X.env)).any (·.1) = false := by rfl) :
    PE X (.Call (.Name x p) (e :: es) [] pos) (tCallW sp W t) := by
  refine ⟨fun pins s σ H Q I h => wpAny_Call_Name_kw (ld_glob I hg hm ?_ hdb)⟩
  refine PySem.W.callWith_K (h₀ := X.base) I.ok.mod.kin hk (thn (ha.run pos pins s σ H _ I h) ?_) he hpl
  rintro us s1 ⟨vs, H1, I1, r, q⟩
  refine ⟨I1.kIn, ?_⟩
  have ln : us.length = ps.length := r.length.symm.trans (F.len _ _ _ _ q)
  have bb := hb s1 us I1.kIn (by rw [List.append_nil]; exact ln)
  rw [List.append_nil] at bb
  have go := F.run X.A X.stack s1 H1 ⟨us, []⟩ us vs Q (WE W σ) hr I1.env0 bb r q
  refine wpAny_call (codeAny_mono go fun z s' hz => ?_)
  match z, hz with
  | .error e, hz => exact passAt tk σ pins H1 s1 e s' I1 hz
  | .ok (.ret u), hz => exact I1.after hz
  | .ok .next, hz => exact hz.elim
  | .ok .brk, hz => exact hz.elim
  | .ok .cont, hz => exact hz.elim
end
section
variable {X : Cx}
end
end DL

namespace L2
open PySem PySem.Spec PyProof.Rows
def ExA (C dd a : Addr) : HO := .ext fun h => ∃ (oe : Obj) (vs : Array Value), h.get? a = some oe ∧ Zc (.ref C) (some dd) oe ∧ oe.data = .fields vs
section
variable {X : Cx} {pins : List (Addr × Obj)} {σ : St} {H : Hp} {s : Shared}
theorem Inv.track {a C dd : Addr} {oe : Obj} {vs : Array Value} (I : Inv X pins σ H s) (ha : s.heap.get? a = some oe) (hz : Zc (.ref C) (some dd) oe) (hd : oe.data = .fields vs) (na : H a = none) (nL : a ≠ X.env.locals) (n0 : X.s_0.heap.get? a = none) (np : ∀ p ∈ X.pn ++ pins, p.1 ≠ a) :
    Inv X pins σ (upd H a (ExA C dd a)) s := by
  refine ⟨I.ok, I.os, I.bare, ⟨I.base.keep, I.base.slot, fun b o e n hx => ?_, I.base.there, fun b xs e => ?_, fun b o u e => ?_, fun b ps e => ?_⟩, I.loc, I.cell, ?_, fun x c e => ?_, fun p hp => ?_, fun b u e => ?_, I.len⟩
  · rw [upd_ne (fun z => by rw [z, n0] at e; cases e)]
    exact I.base.free b o e n hx
  · have q := I.base.tups b xs e
    rw [upd_ne (ne_of_none q na)]
    exact q
  · have q := I.base.frzs b o u e
    rw [upd_ne (ne_of_none q na)]
    exact q
  · obtain ⟨m, q⟩ := I.base.tbls b ps e
    exact ⟨m, by rw [upd_ne (ne_of_none q na)]; exact q⟩
  · rw [upd_ne (Ne.symm nL)]
    exact I.free
  · have hca : c ≠ a := fun z => by
      obtain ⟨v, o, h1, h2⟩ := I.cell x c e
      rw [z, ha] at h1
      cases h1
      rw [hd] at h2
      cases h2
    rw [upd_ne hca]
    exact I.freeC x c e
  · obtain ⟨e, n, ne, nf, d⟩ := I.pin p hp
    exact ⟨e, by rw [upd_ne (np p hp)]; exact n, ne, nf, d⟩
  · by_cases hb : b = a
    · subst hb
      rw [upd_same] at e
      cases e
      exact ⟨⟨oe, vs, ha, hz, hd⟩, ⟨oe, ha⟩, fun h1 h2 ⟨o, v, q, r⟩ k => ⟨o, v, k o q, r⟩⟩
    · rw [upd_ne hb] at e
      exact (I.hok b u e).stay (fun c v _ q => q) (fun c q => by rw [upd_ne (ne_of_none q na)]; exact q) fun c xs q => by rw [upd_ne (ne_of_none q na)]; exact q
theorem Inv.suiteK (I : Inv X pins σ H s) (a : Addr) : Inv (X.suite a (X.pn ++ pins)) [] σ H s :=
  ⟨I.ok.suite _ _, I.os, I.bare, I.base, I.loc, I.cell, I.free, I.freeC, fun p hp => I.pin p (by rw [List.append_nil] at hp; exact hp), I.hok, I.len⟩
theorem Inv.unsuiteK {a : Addr} {pn' : List (Addr × Obj)} (I : Inv (X.suite a (X.pn ++ pins)) pn' σ H s) (ok : X.Ok) : Inv X pins σ H s :=
  ⟨ok, I.os, I.bare, I.base, I.loc, I.cell, I.free, I.freeC, fun p hp => I.pin p (List.mem_append_left _ hp), I.hok, I.len⟩
end
def wAsK (K : PySem.W.Frag) (c : Value) (i : Nat) (ts : Addr → TS) (D : Ends) : WX := fun cls d σ H =>
  PySem.W.exmOne K cls c = some true ∧ ∃ C dd : Addr, cls = .ref C ∧ d = some dd ∧ ∀ a, H a = none → ts a { nx := fun σ' H' => D.nx (σ'.set i none) H', rt := D.rt, bk := fun σ' H' => D.bk (σ'.set i none) H', ct := fun σ' H' => D.ct (σ'.set i none) H' } (σ.set i (some (.ref a))) (upd H a (ExA C dd a))
section
variable {X : Cx} {x n : Str} {c : Value} {i : Nat} {body suite : List Stmt} {b₀ : Stmt} {np pos pos' : Pos} {tb : WX → TS} {ts : Addr → TS}
theorem ps_try_asK (hs : X.stack = X.env :: X.outer) (hf : X.env.frame = some X.env.locals) (hN : X.N.Nodup) (hi : X.N[i]? = some n) (hln : X.env.kindOf n = some .local) (hc : Names X x c) (hxx : X.ex = [])
    (hb : ∀ (W : WX) (pn : List (Addr × Obj)) (xe : Value → Shared → Prop), Takes (X.tr pn xe) W → PassesOwn (model X.prog X.w) X.A X.env xe → PSs (X.tr pn xe) body (tb W))
    (hsu : ∀ (a : Addr) (pn : List (Addr × Obj)), PSs (X.suite a pn) (b₀ :: suite) (ts a)) :
    PS X (.Try body [.ExceptHandler (some (.Name x np)) (some n) (b₀ :: suite) pos'] [] [] pos) (fun D σ H => tb (wAsK X.K c i ts D) D σ H) := by
  refine ⟨fun pins s σ H D I h => ?_⟩
  have ok := I.ok
  have hfr : X.A.frames = some (X.env :: X.outer) := by rw [ok.frames, hs]
  have hloc : Loc X.env.scope n := .inl hln
  refine wpAny_Try_except ?_
  refine wpAny_mono ((hb (wAsK X.K c i ts D) (X.pn ++ pins) (fun e s₁ => wpAny (model X.prog X.w) X.A (noteFrame e X.env) (fun _ s₂ => wpAny (model X.prog X.w) X.A (setFlight e none) (fun _ s₃ =>
    wpAny (model X.prog X.w) X.A (handleBy e X.env [.ExceptHandler (some (.Name x np)) (some n) (b₀ :: suite) pos']) (SP X pins D) X.xe s₃) X.xe s₂) X.xe s₁) (fun u s' xx => ?_) PassesOwn.looking).run [] s σ H D (I.toTry _) h) (fun f s1 hsp => ?_) (fun e s1 he => he)
  · -- the catch
    obtain ⟨a, B, sI, pins', σ', H', cls, d, rfl, J', nb, up, sky, na, os, ag, hb1, C, dd, hcls, hdd, hyes⟩ := xx
    have J : Inv X pins σ' H' sI := J'.ofTry ok
    have sky' : Sky B (X.env :: X.outer) a (Zc cls d) X.env.locals s'.heap := by rw [← hs]; exact sky
    show wpAny (model X.prog X.w) X.A (noteFrame (.ref a) X.env) _ _ _
    refine Sky.land Zc.steady hfr hf sky' fun h3 fl3 up3 => ?_
    have J3 : Inv X pins σ' H' { s' with heap := h3 } := J.landed nb fl3.1 (up.trans up3) os ag
    obtain ⟨oe3, vs3, he3, hz3, hd3⟩ := fl3.there
    have notFr : ∀ {h : Heap} {o : Obj} {vs : Array Value}, h.FunFrames B (X.env :: X.outer) → h.get? a = some o → o.data = .fields vs → a ∉ frs (X.env :: X.outer) := fun {h o vs} ff e dd hm => by
      obtain ⟨_, o', e', hnf⟩ := ff.mem hm
      rw [e] at e'; cases e'
      exact hnf _ dd
    have nfr := notFr fl3.2.2.1 he3 hd3
    have nL : a ≠ X.env.locals := fun z => nfr (List.mem_filterMap.mpr ⟨X.env, List.mem_cons_self, by rw [hf, z]⟩)
    have nF : a ∉ X.fs := fun hm => by
      obtain ⟨e, he, q⟩ := List.mem_filterMap.mp hm
      exact nfr (List.mem_filterMap.mpr ⟨e, List.mem_cons_of_mem _ he, q⟩)
    have S3 := J3.suite he3 hd3 na nL nF
    refine wpAny_handleBy_cons (codeAny_handlers_test ?_) (by intro q; cases q)
    have LT : PySem.W.Looks (model X.prog X.w) h3 (typeOf (.ref a)) cls := fun A Q E s k q => wpAny_typeOf_ref (k _ _ he3) (by rw [hz3.1]; exact q)
    have LM := PySem.W.exm_one (M := model X.prog X.w) (J3.kIn) LT hb1
    have test : ∀ {Q : Value → Shared → Prop} {E : Value → Shared → Prop}, Q c { s' with heap := h3 } → wpAny (model X.prog X.w) (X.A.mark (some (.ref a))) (eval (.Name x np) X.env) Q E { s' with heap := h3 } := fun {Q E} q => by
      obtain ⟨hg, hdbg, hm | ⟨hm, hv, hnn⟩⟩ := hc
      · exact ld_glob (X := X.suite a ((a, oe3) :: (X.pn ++ pins))) S3 hg hm q hdbg
      · exact ld_blt (X := X.suite a ((a, oe3) :: (X.pn ++ pins))) S3 hg hm hv q hnn hdbg
    refine test (LM.here ?_)
    refine codeAny_handlers_suite_as ?_
    refine HandSPX.lands_againZ fl3 fun h4 fl4 up4 => ?_
    have J4 : Inv X pins σ' H' { s' with heap := h4 } := J.landed nb fl4.1 ((up.trans up3).trans up4) os ag
    obtain ⟨oe4, vs4, he4, hz4, hd4⟩ := fl4.there
    have nS : sI.heap.get? a = none := by
      cases e : sI.heap.get? a with
      | none => rfl
      | some o =>
        have z := nb a o e (by rw [hs]; exact nfr)
        rw [fl3.2.1] at z
        cases z
    have n0 : X.s_0.heap.get? a = none := by
      cases e : X.s_0.heap.get? a with
      | none => rfl
      | some o =>
        obtain ⟨o', q⟩ := J.base.there a o e (by rw [hxx]; exact fun z => nomatch z)
        rw [nS] at q
        cases q
    have np : ∀ p ∈ X.pn ++ pins, p.1 ≠ a := fun p hp z => by
      have q := (J.pin p hp).1
      rw [z, nS] at q
      cases q
    subst hcls hdd
    have T4 := J4.track he4 hz4 hd4 na nL n0 np
    have S4 := T4.suiteK a
    refine store_ok (X := X.suite a (X.pn ++ pins)) (v := .ref a) S4 hN hi hloc rfl (fun s5 S5 => ?_) (.inr hln)
    refine wpAny_mono ((hsu a (X.pn ++ pins)).run [] s5 _ _ _ S5 (hyes a na)) (fun f s6 hsp => ?_) (fun _ _ z => False.elim z)
    have end_ : ∀ {σ6 : St} {H6 : Hp} {Q : Shared → Prop}, Inv (X.suite a (X.pn ++ pins)) [] σ6 H6 s6 → (∀ s7, Inv X pins (σ6.set i none) H6 s7 → Q s7) →
        wpAny (model X.prog X.w) X.A (do bindName X.env n .none; unbindBehindTheSuite X.env n pos') (fun _ s7 => Q s7) X.xe s6 := fun {σ6 H6 Q} S6 hq => gone_ok (S6.unsuiteK ok) hN hi hln hq
    cases f with
    | next =>
      obtain ⟨σ6, H6, S6, q6⟩ := hsp
      exact end_ S6 fun s7 J7 => ⟨_, _, J7, q6⟩
    | brk =>
      obtain ⟨σ6, H6, S6, q6⟩ := hsp
      exact end_ S6 fun s7 J7 => ⟨_, _, J7, q6⟩
    | cont =>
      obtain ⟨σ6, H6, S6, q6⟩ := hsp
      exact end_ S6 fun s7 J7 => ⟨_, _, J7, q6⟩
    | ret u =>
      obtain ⟨v6, σ6, H6, S6, r6, q6⟩ := hsp
      exact end_ S6 fun s7 J7 => ⟨_, _, _, J7, r6, q6⟩
  · cases f with
    | next =>
      obtain ⟨σ', H', J', q⟩ := hsp
      exact wpAny_execs_nil ⟨σ', H', J'.ofTry ok, q⟩
    | brk =>
      obtain ⟨σ', H', J', q⟩ := hsp
      exact ⟨σ', H', J'.ofTry ok, q⟩
    | cont =>
      obtain ⟨σ', H', J', q⟩ := hsp
      exact ⟨σ', H', J'.ofTry ok, q⟩
    | ret u =>
      obtain ⟨v, σ', H', J', r, q⟩ := hsp
      exact ⟨v, σ', H', J'.ofTry ok, r, q⟩
end
def Kept (H : Hp) (a C dd : Addr) (fs : List (Str × V)) : Prop := H a = some (ExA C dd a) ∧ H dd = some (.xd fs)
theorem Kept.inst {X : Cx} {pins : List (Addr × Obj)} {σ : St} {H : Hp} {s : Shared} {a C dd : Addr} {fs : List (Str × V)} (I : Inv X pins σ H s) (k : Kept H a C dd fs) :
    ∃ oe od mA, PySem.W.InstAt s.heap a oe C (some od) ∧ s.heap.Ns1 dd mA ∧ s.heap.get? dd = some od ∧ (∀ f, PySem.W.lookIn f od = some (mA f)) ∧ ∀ f, RelO (fs.lookup f) (mA f) := by
  have h1 : ObjOk X.prog X.w H s.heap a (ExA C dd a) := I.hok a _ k.1
  obtain ⟨⟨oe, vs, ho, hz, hd⟩, _, _⟩ := h1
  have h2 : ObjOk X.prog X.w H s.heap dd (.xd fs) := I.hok dd _ k.2
  obtain ⟨mA, hns, hr⟩ := h2
  obtain ⟨od, hod, hl⟩ := lookIn_ns hns
  exact ⟨oe, od, mA, ⟨ho, hz.1, by unfold PySem.W.notCls; rw [hd] <;> rfl, by rw [hz.2]; exact hod⟩, hns, hod, hl, hr⟩
section
variable {X : Cx}
theorem kit_x {K : PySem.W.Frag} {a C : Addr} {oe : Obj} {od : Option Obj} (T : ExcC K C) : PySem.W.KitX K (.ref a) (.ref C) (fun h => PySem.W.InstAt h a oe C od) :=
  PySem.W.kitx_exc (by
    obtain ⟨cd, hc, _⟩ := PySem.W.any_some T.hd
    rw [hc]
    rfl) T.hg T.hk T.hs T.ha T.hn T.ht T.hm
def rIsX (K : PySem.W.Frag) : List V → Hp → VK → Prop := fun xs H Q => ∃ (a C dd : Addr) (fs : List (Str × V)) (c : V) (u : Value) (b : Bool), xs = [.ref a, c] ∧ Kept H a C dd fs ∧ ExcC K C ∧ ClsV c u ∧ PySem.W.kitOne K (.ref C) u = some b ∧ Q (.bl b) H
def rIsXT (K : PySem.W.Frag) : List V → Hp → VK → Prop := fun xs H Q => ∃ (a C dd : Addr) (fs : List (Str × V)) (tp : Addr) (cs : List V) (us : List Value) (b : Bool), xs = [.ref a, .ref tp] ∧ Kept H a C dd fs ∧ ExcC K C ∧ H tp = some (.tup cs) ∧ Paired ClsV cs us ∧ PySem.W.kitAny K (.ref C) us = some b ∧ Q (.bl b) H
theorem call_isX : CallR X (.builtin "isinstance") (rIsX X.K) := by
  intro pins s σ H xs us Q I r h
  obtain ⟨a, C, dd, fs, c, u, b, rfl, k, T, kc, e, q⟩ := h
  obtain ⟨u1, u2, rfl, r1, r2⟩ := vals2 r
  have e2 := kc.eq r2
  subst e2
  obtain rfl : u1 = Value.ref a := r1
  obtain ⟨oe, od, mA, J, _⟩ := k.inst I
  exact PySem.W.kia_one (kit_x T) I.kIn J e (fun z => nomatch z) fun tk => ⟨.bl b, H, I.tok tk, rfl, q⟩
theorem call_isXT : CallR X (.builtin "isinstance") (rIsXT X.K) := by
  intro pins s σ H xs us Q I r h
  obtain ⟨a, C, dd, fs, tp, cs, us2, b, rfl, k, T, ht, pc, e, q⟩ := h
  obtain ⟨u1, u2, rfl, r1, r2⟩ := vals2 r
  obtain rfl : u1 = Value.ref a := r1
  obtain rfl : u2 = Value.ref tp := r2
  obtain ⟨oe, od, mA, J, _⟩ := k.inst I
  obtain ⟨z, its, rv, o, h1, h2, n, h3⟩ := (show ObjOk X.prog X.w H s.heap tp (.tup cs) from I.hok tp _ ht)
  have ei := ClsV.all pc rv
  subst ei
  obtain ⟨oc, dd2, od2, sl⟩ := o
  dsimp only at h2 h3
  subst h2 h3
  exact PySem.W.kia_tup (kit_x T) I.kIn J h1 e (fun z => nomatch z) fun tk => ⟨.bl b, H, I.tok tk, rfl, q⟩
def tXk (f : Str) (K : PySem.W.Frag) (te : TE) : TE := fun σ H Q => te σ H fun x H1 => ∃ (a C dd : Addr) (fs : List (Str × V)) (v : V), x = .ref a ∧ Kept H1 a C dd fs ∧ XfC K C ∧ PySem.W.findIn K (.ref C) f = some none ∧ fs.lookup f = some v ∧ Q v H1
theorem pe_xk {e : Expr} {te : TE} {pos : Pos} {n : Str} (he : PE X e te) (hb : attributeBase e n X.env (eval e X.env) = eval e X.env := by rfl) : PE X (.Attribute e n pos) (tXk n X.K te) := by
  refine ⟨fun pins s σ H Q I h => ?_⟩
  refine attr_of hb (thn (he.run pins s σ H _ I h) fun u s1 hh => ?_)
  obtain ⟨x, H1, I1, rx, a, C, dd, fs, v, ex, k, T, hno, l, q⟩ := hh
  subst ex
  obtain rfl : u = Value.ref a := rx
  obtain ⟨oe, od, mA, J, _, _, hl, hr⟩ := k.inst I1
  obtain ⟨u, hu, ru⟩ := RelO.some_of (v := v) (o := mA n) (by rw [← l]; exact hr n)
  exact HandSPX.exc_get I1.kIn J T.ga T.gg T.exC (PySem.W.findObj_own T.hdC hno rfl (by rw [hl, hu])) (handed_of ru) ⟨v, H1, I1.tok _, ru, q⟩
end
end L2

namespace DL
open PySem PySem.Spec PyProof.Rows L2
variable [Amb]
theorem if_no {c : Prop} [Decidable c] {p q : Prop} (hc : ¬ c) (h : q) : if c then p else q := by
  rw [if_neg hc]
  exact h
structure ToldC (K : PySem.W.Frag) (C : Addr) (fl : Str) (us : List Value) : Prop where
  ex : ExcC K C
  xf : XfC K C
  no : PySem.W.findIn K (.ref C) fl = some none
  any : PySem.W.kitAny K (.ref C) us = some false
  ve : PySem.W.kitOne K (.ref C) (.type "ValueError") = some true
  own : PySem.W.kitOne K (.ref C) (.ref C) = some true
section
variable {X : Cx} {j : Nat} {y cn fl w : Str} {C : Addr} {us : List Value} {cs : List V} {es : List Expr} {r1 r2 : List Stmt} {y1 y2 y3 y4 y5 i1 i2 i3 n1 n2 n3 q1 q2 q3 q4 q5 q6 q7 q8 q9 q10 q11 q12 q13 q14 q15 : Pos} {k1 k2 k3 x1 x2 : Nat}
end
section
variable {X : Cx}
end
end DL

namespace DL
open PySem PySem.Spec PyProof.Rows L2 NdefX LamX
instance datumOS : PySem.W.Datum (Option Str) where
  toD
    | none => .none
    | some s => .str s
  plain a := by cases a <;> rfl
  eqv a b := by cases a <;> cases b <;> simp [PyData.eqv, Bool.beq_eq_decide_eq]
  depth := 0
  depth_le a := by cases a <;> exact Nat.le_refl _
section
variable [Amb] {X : Cx}
def ixNon (os : List (Option Str)) : Nat := @List.idxOf (Option Str) instBEqOfDecidableEq none os
end
end DL

namespace DL
open PySem PySem.Spec PyProof.Rows L2 NdefX LamX
section
variable [Amb] {X : Cx} {a : Expr} {ta : DTE} {p pos : Pos}
end
end DL

namespace DL
open PySem PySem.Spec PyProof.Rows L2
variable [Amb]
def rLstrip : RMD := fun x xs S Q => ∃ a b, x = .str a ∧ xs = [.str b] ∧ a.length ≤ 1000000 ∧ Q (.str (PySem.Txt.lstripChars a b)) S
section
variable {X : Cx}
theorem dm_lstrip : DMt X "str.lstrip" rLstrip := by
  intro pins s σ H x xs v us Q I rx rv ⟨d, ds0, S, Q0, d1, d2, rS, ⟨a, b, e1, e2, hl, q⟩, k⟩
  subst e1 e2
  cases (show x = .str a from d1)
  obtain ⟨w, w2, rfl, d3, d4⟩ := d2.uncons
  cases d4.nil_eq
  cases (show w = .str b from d3)
  obtain ⟨u, rfl, ru⟩ := rv.one
  obtain ⟨t, rfl⟩ := rx
  obtain ⟨t2, rfl⟩ := ru
  exact PySem.SC.lstripChars (fun t' j => ⟨.str _, H, I.tok _, ⟨_, rfl⟩, k _ S _ H q rfl rS Frame.refl⟩) (by rw [sizeLine_eq]; omega)
end
end DL

namespace DL
open PySem PySem.Spec PyProof.Rows L2
variable [Amb]
def tLock (t : TE) : TE := fun σ H Q => t σ H fun v H1 => ∃ p vs, v = .ref p ∧ H1 p = some (.lst vs) ∧ ∀ od, Q (.ref p) (upd H1 p (.frz od (.lst vs)))
theorem pe_lock {X : Cx} {e : Expr} {t : TE} (h : PE X e t) : PE X e (tLock t) := ⟨fun pins s σ H Q I q => by
  refine thn (h.run pins s σ H _ I q) fun v s1 ⟨x, H1, I1, r, p, vs, ex, hp, k⟩ => ?_
  subst ex
  obtain ⟨od, I2⟩ := I1.lock hp trivial
  exact ⟨.ref p, _, I2, r, k od⟩⟩
structure ToldD (K : PySem.W.Frag) (C : Addr) (fl : Str) (us : List Value) : Prop where
  ex : ExcC K C
  xf : XfC K C
  no : PySem.W.findIn K (.ref C) fl = some none
  any : PySem.W.kitAny K (.ref C) us = some false
  own : PySem.W.kitOne K (.ref C) (.ref C) = some true
def tKeptR (K : PySem.W.Frag) (j : Nat) (C : Addr) (fl : Str) : TS := fun D σ H => ∃ a dd fs v, σ[j]? = some (some (V.ref a)) ∧ Kept H a C dd fs ∧ fs.lookup fl = some v ∧ ∀ p cs, H p = none → newT (upd H p (.tup cs)) [v] D.rt
section
variable {X : Cx} {j : Nat} {y cn fl : Str} {C : Addr} {us : List Value} {cs : List V} {es : List Expr} {r2 : List Stmt} {y2 y3 y5 i1 i2 q3 q4 q6 q7 q8 q9 q10 q12 q13 q15 : Pos} {x1 x2 : Nat}
theorem pss_keptR (hN : X.N[j]? = some y) (hv : Vis X.env.scope y) (hd : (y == ("__debug__" : Str)) = false) (hcd : (y == ("__classdict__" : Str)) = false) (T : ToldD X.K C fl us) (gi : Gl X "isinstance") (mi : X.mg "isinstance" = none) (gc : Gl X cn) (mc : X.mg cn = some (.ref C)) (hdc : (cn == ("__debug__" : Str)) = false)
    (hes : PA X es (fun _ H Q => Q cs H)) (hcs : Paired ClsV cs us) (hcl : cs.length ≤ 1000)
    (he1 : starEach [.Name y y2, .Tuple es x1 q3] X.env = (false, eval (.Name y y2) X.env) :: starEach [.Tuple es x1 q3] X.env := by rfl) (he2 : starEach [.Tuple es x1 q3] X.env = (false, eval (.Tuple es x1 q3) X.env) :: starEach [] X.env := by rfl) (hp1 : (backTo q4 (starEach [.Tuple es x1 q3] X.env)).any (·.1) = false := by rfl) :
    PSs X [.If (.BoolOp .Or [.Call (.Name "isinstance" i1) [.Name y y2, .Tuple es x1 q3] [] q4, .UnaryOp .Not (.Call (.Name "isinstance" i2) [.Name y y3, .Name cn q10] [] q6) q7] q8) r2 [] q9,
      .Return (some (.Tuple [.Attribute (.Name y y5) fl q12] x2 q13)) q15] (tKeptR X.K j C fl) := by
  have pv : ∀ {pos : Pos}, PE X (.Name y pos) (tVar j) := pe_var hN hv hd hcd
  have a1 : PA X [.Name y y2, .Tuple es x1 q3] _ := pa_cons pv (pa_cons (pe_tup hes) pa_nil he2) he1
  have c1 : PE X (.Call (.Name "isinstance" i1) [.Name y y2, .Tuple es x1 q3] [] q4) _ := pe_callB call_isXT gi mi PyProof.Rows.Boot.«isinstance» a1 (by decide) (by decide) he1 hp1
  have c2 : PE X (.Call (.Name "isinstance" i2) [.Name y y3, .Name cn q10] [] q6) _ := pe_callB call_isX gi mi PyProof.Rows.Boot.«isinstance» (pa_cons pv (pa_cons (pe_glob (v := .ref C) gc mc rfl hdc) pa_nil)) (by decide) (by decide)
  have t4 : PT X (.BoolOp .Or [.Call (.Name "isinstance" i1) [.Name y y2, .Tuple es x1 q3] [] q4, .UnaryOp .Not (.Call (.Name "isinstance" i2) [.Name y y3, .Name cn q10] [] q6) q7] q8) _ := PW.pt (pw_or (pt_val c1) (pw_or1 (pt_not (pt_val c2))))
  have r5 : PE X (.Tuple [.Attribute (.Name y y5) fl q12] x2 q13) _ := pe_tupF (pa_cons (pe_xk pv) pa_nil)
  refine PSs_imp (pss_cons (ps_if t4 pss_never pss_nil) (pss_one (ps_ret r5))) fun D σ H ⟨a, dd, fs, v, hs, hk, hl, q⟩ => ?_
  dsimp only [tNext, tSeq, tIfS, tOr, tB, tCB, tCons, tVar]
  refine ⟨.ref a, hs, ?_⟩
  show cs.length ≤ sizeLine ∧ _
  refine ⟨by rw [sizeLine_eq]; omega, fun p hp => ?_⟩
  have hk2 : Kept (upd H p (.tup cs)) a C dd fs := ⟨by rw [upd_ne (ne_of_none hk.1 hp)]; exact hk.1, by rw [upd_ne (ne_of_none hk.2 hp)]; exact hk.2⟩
  refine ⟨a, C, dd, fs, p, cs, us, false, rfl, hk2, T.ex, upd_same, hcs, T.any, false, rfl, ?_⟩
  refine if_no Bool.false_ne_true ?_
  refine ⟨.ref a, hs, ?_⟩
  refine ⟨a, C, dd, fs, .ref C, .ref C, true, rfl, hk2, T.ex, .own _, T.own, true, rfl, ?_⟩
  refine if_no (by decide) ?_
  show tRet _ _ _ _
  refine ⟨.ref a, hs, a, C, dd, fs, v, rfl, hk2, T.xf, T.no, hl, by simp [sizeLine_eq], q p cs hp⟩
end
def dToldR (sp : DSpX) (ie : Nat) (ta : DTA) : DTS := fun D ε S => ta ε S fun ds S1 => ie < ε.length ∧ sp ds S1 (fun d S2 => D.rt (.ilst [d]) S2) (fun c S2 => D.rt (.tup [c]) S2)
section
variable {X : Cx}
theorem dss_toldR {k ie : Nat} {f C : Addr} {cv : Value} {fd : FuncData} {ps : List Str} {sp : DSpX} {x en ec fl : Str} {p cpos lpos rpos np pos pos' : Pos} {e : Expr} {es : List Expr} {ta : DTA} {b₀ : Stmt} {suite : List Stmt}
    (hs : X.stack = X.env :: X.outer) (hf : X.env.frame = some X.env.locals) (hxx : X.ex = []) (F : FnG X.prog X.w X.K X.mg X.base (L2.CX X.prog X.w) k f fd ps (liftSpX X.K C fl sp)) (hr : RoomG k X.A) (hg : Gl X x) (hm : X.mg x = some (.ref f)) (hk : PySem.W.keepIn X.K (.ref f) = true) (hb : Binds X.K fd ps [])
    (hN : X.N.Nodup) (hie : X.N[ie]? = some en) (hln : X.env.kindOf en = some .local)
    (hc : Names X ec cv) (hx : PySem.W.exmOne X.K (.ref C) cv = some true)
    (ha : ∀ (pn : List (Addr × Obj)) (xe : Value → Shared → Prop), DA (X.tr pn xe) (e :: es) ta)
    (hsu : ∀ (a : Addr) (pn : List (Addr × Obj)), PSs (X.suite a pn) (b₀ :: suite) (tKeptR X.K ie C fl))
    (hdb : (x == ("__debug__" : Str)) = false := by decide) (he : starEach (e :: es) X.env = (false, eval e X.env) :: starEach es X.env := by rfl) (hpl : (backTo cpos (starEach es X.env)).any (·.1) = false := by rfl)
    (hs2 : starEach [Expr.Call (.Name x p) (e :: es) [] cpos] X.env = (false, eval (.Call (.Name x p) (e :: es) [] cpos) X.env) :: starEach [] X.env := by rfl) :
    DSs X [.Try [.Return (some (.List [.Call (.Name x p) (e :: es) [] cpos] lpos)) rpos] [.ExceptHandler (some (.Name ec np)) (some en) (b₀ :: suite) pos'] [] [] pos] (dToldR sp ie ta) := by
  refine PSs_imp (pss_one (ps_try_asK (tb := fun W => tRet (tLock (tLst (tCons (tCallW (liftSpX X.K C fl sp) W (liftA X.K ta)) tNil)))) (ts := fun _ => tKeptR X.K ie C fl) hs hf hN hie hln hc hxx
    (fun W pn xe tk _ => pss_one (ps_ret (pe_lock (pe_lst (pa_cons (pe_callW (X := X.tr pn xe) F hr hg hm hk hb tk (ha pn xe) hdb he hpl) pa_nil hs2)))))
    hsu)) fun D σ H ⟨ε, S, D0, rE, rS, q, k⟩ => ?_
  refine ⟨ε, S, _, rE, rS, q, fun ds S1 vs H1 ⟨l1, q1⟩ den rS1 f1 => ⟨ds, S1, _, _, den, rS1, q1, fun d S2 v H2 q2 den2 rS2 f2 => ?_, fun c S2 v H2 dd fs q2 den2 rS2 f2 hd hl => ?_⟩⟩
  · refine ⟨by simp [sizeLine_eq], fun a ha => ⟨a, [v], rfl, upd_same, fun od => ?_⟩⟩
    have g1 : Frame S2 H2 S2 (upd H2 a (.lst [v])) := frame_new ha
    have r1 := rS2.frame_new (o := .lst [v]) ha
    have dl : DenL X.K (upd H2 a (.lst [v])) [d] [v] := DenL.one (Den.frame rS2 g1 d v den2)
    obtain ⟨r2, dl2⟩ := rel_lock (o := .frz od (.lst [v])) r1 (rS2.free ha) (cell_lst upd_same dl) (fun _ z => nomatch z)
    exact k.rt (.ilst [d]) S2 (.ref a) _ q2 (show ∃ a' vs', V.ref a = .ref a' ∧ StL X.K _ a' vs' ∧ DenL X.K _ [d] vs' from ⟨a, [v], rfl, .inl ⟨od, upd_same⟩, dl2 [d] [v] dl⟩) r2 (frame_lock ((f1.trans f2).trans g1) ((f1.trans f2).there a ha))
  · have ls : σ.length = ε.length := rE.1
    refine ⟨hx, C, dd, rfl, rfl, fun a ha => ⟨a, dd, fs, v, ?_, ⟨upd_same, by rw [upd_ne (ne_of_none hd ha)]; exact hd⟩, hl, fun p cs hp => ?_⟩⟩
    · rw [List.getElem?_set_self (by omega)]
    · have g1 : Frame S2 H2 S2 (upd H2 a (ExA C dd a)) := frame_new ha
      have r1 := rS2.frame_new (o := ExA C dd a) ha
      have g2 : Frame S2 (upd H2 a (ExA C dd a)) S2 (upd (upd H2 a (ExA C dd a)) p (.tup cs)) := frame_new hp
      have r2 := r1.frame_new (o := .tup cs) hp
      exact (k.rt.frame ((f1.trans f2).trans (g1.trans g2))).newTup r2 (DenL.one (Den.frame r1 g2 c v (Den.frame rS2 g1 c v den2))) q2
end
def ShortI (i : Int) : Prop := i.natAbs.log2 < 1920 ∧ ∃ z : Str, z = toString i ∧ z.length ≤ 1000
def spXJ (C : Addr) (f : Str) : Sp := fun vs H Q _ => ∃ a i, vs = [.ref a, .int i] ∧ ShortI i ∧ H a = some (exo a C none) ∧ ∀ dx, H dx = none → dx ≠ a → Q .non (upd (upd H dx (exd dx [(f, .int i)])) a (exo a C (some dx)))
structure ExcI (P : Program) (w : World) (K : PySem.W.Frag) (mg : Str → Option Value) (base : Heap) (x f : Str) (C : Addr) : Prop where
  gl : mg x = some (.ref C)
  oc : OexC K C
  ini : ∃ fI fd p, PySem.W.findIn K (.ref C) "__init__" = some (some (.ref fI)) ∧ PySem.W.typeIn K (.ref fI) = some (.type "function") ∧ FnOk P w K mg base CX0 1 fI fd ["self", p] (spXJ C f) ∧ Binds K fd ["self", p] []
def rStrV : List V → Hp → VK → Prop := fun xs H Q => ∃ i, xs = [.int i] ∧ i.natAbs.log2 < 1920 ∧ Q (.str (toString i)) H
def rAddV : V → V → Hp → VK → Prop := fun x y H Q => ∃ i j, x = .str i ∧ y = .str j ∧ i.length + j.length ≤ sizeLine ∧ Q (.str (i ++ j)) H
section
variable {P : Program} {w : World} {K : PySem.W.Frag} {mg : Str → Option Value} {base : Heap}
theorem excI {x qual p f : Str} {st : Stmt} {fI C : Addr} {fd : FuncData} {m : Str} (F : Fun K "__init__" qual st fI fd) (gl : mg x = some (.ref C)) (oc : OexC K C) (hno : PySem.W.findIn K (.ref C) f = some none) (hi : PySem.W.findIn K (.ref C) "__init__" = some (some (.ref fI)))
    (ht : PySem.W.isFn K (.ref fI) = true) (bd : Binds K fd ["self", p] []) (S : FnScope ["self", p] ["self", p] (defScope st)) (hml : m.length ≤ 1000)
    (hbody : ∀ (cdv : Value) (A : Around) (outer : List Env) (s : Shared) (H : Hp) (E : XK), Room 0 (A.deeper (envOfC qual (defScope st) s.heap.objs.size fI cdv)) →
      PSs (cxOf CX0 P w K mg base ["self", p] qual (defScope st) fI cdv A outer s H E) (defBody st) (tSeq (tDrop (tVeI K (tCons (tVar 0) (tCons (tOp rAddV (tC (.str m)) (tCB rStrV (tCons (tVar 1) tNil))) tNil)))) (tOst K f (tVar 0) (tVar 1)))) :
    ExcI P w K mg base x f C := by
  refine ⟨gl, oc, fI, fd, p, hi, beq_iff_eq.mp ht, ?_, bd⟩
  obtain ⟨oc', od, kV, doc, pm, an, cdv, ct, osl, rfl, lk, hcd⟩ := F.ex
  refine fn_of lk hcd S (fun vs H Q E ⟨a, v, e, _⟩ => by rw [e]; rfl) fun A outer s H vs Q E hr h => ?_
  obtain ⟨a, i, rfl, ⟨hi1, z, ez, hz⟩, ea, q⟩ := h
  refine ⟨_, hbody cdv A outer s H E hr, ?_⟩
  refine ⟨.ref a, rfl, .int i, rfl, i, rfl, hi1, m, toString i, rfl, rfl, ?_, ?_⟩
  · rw [← ez, sizeLine_eq]
    omega
  refine ⟨a, C, [.str (m ++ toString i)], rfl, by simp, oc, ea, ?_⟩
  refine ⟨.int i, rfl, .ref a, rfl, a, C, rfl, oc, hno, .inl ⟨ea, fun dx hn ne => ?_⟩⟩
  exact q dx hn ne
end
section
variable {X : Cx} {S0 : SD} {H0 : Hp} {pos : Pos}
def dRaiseI (ta : DTE) (X0 : DK) : DTS := fun _ ε S => ta ε S fun d S' => (∃ i, d = .int i ∧ ShortI i) ∧ X0 d S'
theorem dsl_raiseI {x f : Str} {C : Addr} {e : Expr} {ta : DTE} {E : XK} {X0 : DK} {p1 pos' : Pos} (hc : X.calm = true) (tk : Takes X (fun cls d _ H => E cls d H)) (wk : WkX X.K C f S0 H0 X0 E) (T : ExcI X.prog X.w X.K X.mg X.base x f C) (hr : RoomG 2 X.A) (hg : Gl X x)
    (he : DE X e ta) (hdb : (x == ("__debug__" : Str)) = false := by decide) (hs : starEach [e] X.env = (false, eval e X.env) :: starEach [] X.env := by rfl) (hpl : (backTo pos' (starEach [] X.env)).any (·.1) = false := by rfl) :
    DSL X S0 H0 (.Raise (some (.Call (.Name x p1) [e] [] pos')) none pos) (dRaiseI ta X0) := by
  obtain ⟨fI, fd, p, iC, tI, F1, hb⟩ := T.ini
  refine PS_imp (ps_raise hc tk (pmk_oex T.oc iC tI F1 hr.r hb .nil pass0 hg T.gl (pa_cons he pa_nil hs) hdb hs hpl)) fun D σ H ⟨ε, S, D0, rE, rS, q, k, f0⟩ => ?_
  refine ⟨ε, S, _, rE, rS, q, fun c S1 v H1 q1 den rS1 f1 => ?_⟩
  obtain ⟨⟨i, ei, si⟩, q1⟩ := q1
  subst ei
  cases (show v = .int i from den)
  refine ⟨by simp, fun a ha => ?_⟩
  refine ⟨a, i, rfl, si, upd_same, fun dx hn hd => ⟨rfl, dx, [(f, .int i)], upd_same, by rw [upd_ne hd, upd_same], by rw [upd_ne hd] at hn; exact hn, ?_⟩⟩
  rw [upd_ne hd] at hn
  rw [upd_del ha hd]
  have fr : Frame S1 H1 S1 (upd H1 dx (.xd [(f, .int i)])) := frame_new hn
  exact wk (.int i) S1 (.int i) _ dx [(f, .int i)] q1 rfl (rS1.frame_new hn) ((f0.trans f1).trans fr) upd_same (by simp)
end
end DL

namespace FL
open PySem PySem.Spec PyProof.Rows L2 DL

inductive PV where
  | val (d : D)
  | lst (ds : List D)
  | dic (ks : List Key) (ps : List PV)
  | lsts (ps : List PV)
  | ptup (ps : List PV)
  | cb (k : Nat)
  | obj (cn : Str) (ns : List Str) (ps : List PV)
  | dn (ks : List D) (ds : List D)
  | dnp (ks : List D) (ps : List PV)
  deriving Inhabited
class Cbs where
  cb : Nat → Addr → FK → Prop
instance (priority := low) : Cbs := ⟨fun _ _ _ => False⟩
variable [Amb] [Cbs]
mutual
def Own (S : SD) : PV → D → List Addr → Prop
  | .val d, x, fp => x = d ∧ fp = []
  | .lst ds, x, fp => ∃ a, x = .ref a ∧ fp = [a] ∧ S a = some (.lst ds)
  | .dic ks ps, x, fp => ∃ a ds fq, x = .ref a ∧ fp = a :: fq ∧ S a = some (.dic (ks.zip ds)) ∧ ks.length = ps.length ∧ OwnL S ps ds fq
  | .lsts ps, x, fp => ∃ a ds fq, x = .ref a ∧ fp = a :: fq ∧ S a = some (.lst ds) ∧ OwnL S ps ds fq
  | .ptup ps, x, fp => ∃ ds, x = .tup ds ∧ OwnL S ps ds fp
  | .cb k, x, fp => ∃ a F, x = .ref a ∧ fp = [a] ∧ S a = some (.fn F) ∧ Cbs.cb k a F
  | .obj cn ns ps, x, fp => ∃ a ds fq, x = .ref a ∧ fp = a :: fq ∧ S a = some (.gen (objK (Amb.cls cn) ns) ds) ∧ ns.length = ps.length ∧ OwnL S ps ds fq
  | .dn ks ds, x, fp => ∃ a w, x = .ref a ∧ fp = [a] ∧ Amb.wd w ∧ S a = some (.gen (dnK w ks) (ks ++ ds))
  | .dnp ks ps, x, fp => ∃ a w ds fq, x = .ref a ∧ fp = a :: fq ∧ Amb.wd w ∧ S a = some (.gen (dnK w ks) (ks ++ ds)) ∧ ks.length = ps.length ∧ OwnL S ps ds fq
def OwnL (S : SD) : List PV → List D → List Addr → Prop
  | [], ds, fp => ds = [] ∧ fp = []
  | p :: ps, ds, fp => ∃ d r f1 f2, ds = d :: r ∧ fp = f1 ++ f2 ∧ Own S p d f1 ∧ OwnL S ps r f2
end
abbrev PEnv := List (Option PV)
def OwnO (S : SD) : Option PV → Option D → List Addr → Prop
  | none, _, fp => fp = []
  | some p, x, fp => ∃ d, x = some d ∧ Own S p d fp
def OwnE (S : SD) : PEnv → ED → List Addr → Prop
  | [], ε, fp => ε = [] ∧ fp = []
  | o :: r, ε, fp => ∃ x rd f1 f2, ε = x :: rd ∧ fp = f1 ++ f2 ∧ OwnO S o x f1 ∧ OwnE S r rd f2

section
variable {S S' : SD}
theorem own_val {d : D} : Own S (.val d) d [] := by
  unfold Own
  exact ⟨rfl, rfl⟩
theorem own_lst {a : Addr} {ds : List D} (h : S a = some (.lst ds)) : Own S (.lst ds) (.ref a) [a] := by
  unfold Own
  exact ⟨a, rfl, rfl, h⟩
theorem Own.val {d x : D} {fp : List Addr} (h : Own S (.val d) x fp) : x = d ∧ fp = [] := by
  unfold Own at h
  exact h
theorem Own.lst {ds : List D} {x : D} {fp : List Addr} (h : Own S (.lst ds) x fp) : ∃ a, x = .ref a ∧ fp = [a] ∧ S a = some (.lst ds) := by
  unfold Own at h
  exact h
theorem Own.dic {ks : List Key} {ps : List PV} {x : D} {fp : List Addr} (h : Own S (.dic ks ps) x fp) : ∃ a ds fq, x = .ref a ∧ fp = a :: fq ∧ S a = some (.dic (ks.zip ds)) ∧ ks.length = ps.length ∧ OwnL S ps ds fq := by
  unfold Own at h
  exact h
theorem Own.lsts {ps : List PV} {x : D} {fp : List Addr} (h : Own S (.lsts ps) x fp) : ∃ a ds fq, x = .ref a ∧ fp = a :: fq ∧ S a = some (.lst ds) ∧ OwnL S ps ds fq := by
  unfold Own at h
  exact h
theorem Own.ptup {ps : List PV} {x : D} {fp : List Addr} (h : Own S (.ptup ps) x fp) : ∃ ds, x = .tup ds ∧ OwnL S ps ds fp := by
  unfold Own at h
  exact h
theorem Own.cb {k : Nat} {x : D} {fp : List Addr} (h : Own S (.cb k) x fp) : ∃ a F, x = .ref a ∧ fp = [a] ∧ S a = some (.fn F) ∧ Cbs.cb k a F := by
  unfold Own at h
  exact h
theorem Own.obj {cn : Str} {ns : List Str} {ps : List PV} {x : D} {fp : List Addr} (h : Own S (.obj cn ns ps) x fp) : ∃ a ds fq, x = .ref a ∧ fp = a :: fq ∧ S a = some (.gen (objK (Amb.cls cn) ns) ds) ∧ ns.length = ps.length ∧ OwnL S ps ds fq := by
  unfold Own at h
  exact h
theorem Own.dn {ks ds : List D} {x : D} {fp : List Addr} (h : Own S (.dn ks ds) x fp) : ∃ a w, x = .ref a ∧ fp = [a] ∧ Amb.wd w ∧ S a = some (.gen (dnK w ks) (ks ++ ds)) := by
  unfold Own at h
  exact h
theorem Own.dnp {ks : List D} {ps : List PV} {x : D} {fp : List Addr} (h : Own S (.dnp ks ps) x fp) : ∃ a w ds fq, x = .ref a ∧ fp = a :: fq ∧ Amb.wd w ∧ S a = some (.gen (dnK w ks) (ks ++ ds)) ∧ ks.length = ps.length ∧ OwnL S ps ds fq := by
  unfold Own at h
  exact h
theorem own_dnp {ks ds : List D} {ps : List PV} {a : Addr} {w : World} {fq : List Addr} (hw : Amb.wd w) (h : S a = some (.gen (dnK w ks) (ks ++ ds))) (hl : ks.length = ps.length) (o : OwnL S ps ds fq) : Own S (.dnp ks ps) (.ref a) (a :: fq) := by
  unfold Own
  exact ⟨a, w, ds, fq, rfl, rfl, hw, h, hl, o⟩
theorem own_obj {cn : Str} {ns : List Str} {ps : List PV} {a : Addr} {ds : List D} {fq : List Addr} (h : S a = some (.gen (objK (Amb.cls cn) ns) ds)) (hl : ns.length = ps.length) (o : OwnL S ps ds fq) : Own S (.obj cn ns ps) (.ref a) (a :: fq) := by
  unfold Own
  exact ⟨a, ds, fq, rfl, rfl, h, hl, o⟩
theorem own_dn {ks ds : List D} {a : Addr} {w : World} (hw : Amb.wd w) (h : S a = some (.gen (dnK w ks) (ks ++ ds))) : Own S (.dn ks ds) (.ref a) [a] := by
  unfold Own
  exact ⟨a, w, rfl, rfl, hw, h⟩
theorem own_cb {k : Nat} {a : Addr} {F : FK} (h : S a = some (.fn F)) (c : Cbs.cb k a F) : Own S (.cb k) (.ref a) [a] := by
  unfold Own
  exact ⟨a, F, rfl, rfl, h, c⟩
theorem own_ptup {ps : List PV} {ds : List D} {fp : List Addr} (h : OwnL S ps ds fp) : Own S (.ptup ps) (.tup ds) fp := by
  unfold Own
  exact ⟨ds, rfl, h⟩
theorem own_dic {ks : List Key} {ps : List PV} {a : Addr} {ds : List D} {fq : List Addr} (h : S a = some (.dic (ks.zip ds))) (hl : ks.length = ps.length) (o : OwnL S ps ds fq) : Own S (.dic ks ps) (.ref a) (a :: fq) := by
  unfold Own
  exact ⟨a, ds, fq, rfl, rfl, h, hl, o⟩
theorem own_lsts {ps : List PV} {a : Addr} {ds : List D} {fq : List Addr} (h : S a = some (.lst ds)) (o : OwnL S ps ds fq) : Own S (.lsts ps) (.ref a) (a :: fq) := by
  unfold Own
  exact ⟨a, ds, fq, rfl, rfl, h, o⟩
theorem ownL_nil : OwnL S [] [] [] := by
  unfold OwnL
  exact ⟨rfl, rfl⟩
theorem ownL_cons {p : PV} {ps : List PV} {d : D} {ds : List D} {f1 f2 : List Addr} (h : Own S p d f1) (g : OwnL S ps ds f2) : OwnL S (p :: ps) (d :: ds) (f1 ++ f2) := by
  unfold OwnL
  exact ⟨d, ds, f1, f2, rfl, rfl, h, g⟩
theorem OwnL.nil {ds : List D} {fp : List Addr} (h : OwnL S [] ds fp) : ds = [] ∧ fp = [] := by
  unfold OwnL at h
  exact h
theorem OwnL.cons {p : PV} {ps : List PV} {ds : List D} {fp : List Addr} (h : OwnL S (p :: ps) ds fp) : ∃ d r f1 f2, ds = d :: r ∧ fp = f1 ++ f2 ∧ Own S p d f1 ∧ OwnL S ps r f2 := by
  unfold OwnL at h
  exact h
mutual
theorem Own.dom : ∀ (p : PV) {x : D} {fp : List Addr}, Own S p x fp → ∀ a ∈ fp, ∃ c, S a = some c
  | .val d, x, fp, h, a, ha => by
    rw [h.val.2] at ha
    cases ha
  | .lst ds, x, fp, h, a, ha => by
    obtain ⟨b, _, rfl, e⟩ := h.lst
    rw [List.mem_singleton] at ha
    subst ha
    exact ⟨_, e⟩
  | .dic ks ps, x, fp, h, a, ha => by
    obtain ⟨b, ds, fq, _, rfl, e, _, o⟩ := h.dic
    rcases List.mem_cons.mp ha with rfl | ha
    · exact ⟨_, e⟩
    · exact OwnL.dom ps o a ha
  | .lsts ps, x, fp, h, a, ha => by
    obtain ⟨b, ds, fq, _, rfl, e, o⟩ := h.lsts
    rcases List.mem_cons.mp ha with rfl | ha
    · exact ⟨_, e⟩
    · exact OwnL.dom ps o a ha
  | .ptup ps, x, fp, h, a, ha => by
    obtain ⟨ds, _, o⟩ := h.ptup
    exact OwnL.dom ps o a ha
  | .cb k, x, fp, h, a, ha => by
    obtain ⟨b, F, _, rfl, e, _⟩ := h.cb
    rw [List.mem_singleton] at ha
    subst ha
    exact ⟨_, e⟩
  | .obj cn ns ps, x, fp, h, a, ha => by
    obtain ⟨b, ds, fq, _, rfl, e, _, o⟩ := h.obj
    rcases List.mem_cons.mp ha with rfl | ha
    · exact ⟨_, e⟩
    · exact OwnL.dom ps o a ha
  | .dn ks ds, x, fp, h, a, ha => by
    obtain ⟨b, w, _, rfl, _, e⟩ := h.dn
    rw [List.mem_singleton] at ha
    subst ha
    exact ⟨_, e⟩
  | .dnp ks ps, x, fp, h, a, ha => by
    obtain ⟨b, w, ds, fq, _, rfl, _, e, _, o⟩ := h.dnp
    rcases List.mem_cons.mp ha with rfl | ha
    · exact ⟨_, e⟩
    · exact OwnL.dom ps o a ha
theorem OwnL.dom : ∀ (ps : List PV) {ds : List D} {fp : List Addr}, OwnL S ps ds fp → ∀ a ∈ fp, ∃ c, S a = some c
  | [], ds, fp, h, a, ha => by
    rw [h.nil.2] at ha
    cases ha
  | p :: ps, ds, fp, h, a, ha => by
    obtain ⟨d, r, f1, f2, _, rfl, h1, h2⟩ := h.cons
    rcases List.mem_append.mp ha with ha | ha
    · exact Own.dom p h1 a ha
    · exact OwnL.dom ps h2 a ha
end
mutual
theorem Own.frame : ∀ (p : PV) {x : D} {fp : List Addr}, Own S p x fp → (∀ a ∈ fp, S' a = S a) → Own S' p x fp
  | .val d, x, fp, h, k => by
    obtain ⟨rfl, rfl⟩ := h.val
    exact own_val
  | .lst ds, x, fp, h, k => by
    obtain ⟨b, rfl, rfl, e⟩ := h.lst
    exact own_lst (by rw [k b (by simp)]; exact e)
  | .dic ks ps, x, fp, h, k => by
    obtain ⟨b, ds, fq, rfl, rfl, e, hl, o⟩ := h.dic
    exact own_dic (by rw [k b (by simp)]; exact e) hl (OwnL.frame ps o fun a ha => k a (List.mem_cons_of_mem _ ha))
  | .lsts ps, x, fp, h, k => by
    obtain ⟨b, ds, fq, rfl, rfl, e, o⟩ := h.lsts
    exact own_lsts (by rw [k b (by simp)]; exact e) (OwnL.frame ps o fun a ha => k a (List.mem_cons_of_mem _ ha))
  | .ptup ps, x, fp, h, k => by
    obtain ⟨ds, rfl, o⟩ := h.ptup
    exact own_ptup (OwnL.frame ps o k)
  | .cb n, x, fp, h, k => by
    obtain ⟨b, F, rfl, rfl, e, c⟩ := h.cb
    exact own_cb (by rw [k b (by simp)]; exact e) c
  | .obj cn ns ps, x, fp, h, k => by
    obtain ⟨b, ds, fq, rfl, rfl, e, hl, o⟩ := h.obj
    exact own_obj (by rw [k b (by simp)]; exact e) hl (OwnL.frame ps o fun a ha => k a (List.mem_cons_of_mem _ ha))
  | .dn ks ds, x, fp, h, k => by
    obtain ⟨b, w, rfl, rfl, hw, e⟩ := h.dn
    exact own_dn hw (by rw [k b (by simp)]; exact e)
  | .dnp ks ps, x, fp, h, k => by
    obtain ⟨b, w, ds, fq, rfl, rfl, hw, e, hl, o⟩ := h.dnp
    exact own_dnp hw (by rw [k b (by simp)]; exact e) hl (OwnL.frame ps o fun a ha => k a (List.mem_cons_of_mem _ ha))
theorem OwnL.frame : ∀ (ps : List PV) {ds : List D} {fp : List Addr}, OwnL S ps ds fp → (∀ a ∈ fp, S' a = S a) → OwnL S' ps ds fp
  | [], ds, fp, h, k => by
    obtain ⟨rfl, rfl⟩ := h.nil
    exact ownL_nil
  | p :: ps, ds, fp, h, k => by
    obtain ⟨d, r, f1, f2, rfl, rfl, h1, h2⟩ := h.cons
    exact ownL_cons (Own.frame p h1 fun a ha => k a (List.mem_append_left _ ha)) (OwnL.frame ps h2 fun a ha => k a (List.mem_append_right _ ha))
end
theorem OwnO.dom {o : Option PV} {x : Option D} {fp : List Addr} (h : OwnO S o x fp) : ∀ a ∈ fp, ∃ c, S a = some c := by
  cases o with
  | none => intro a ha; rw [show fp = [] from h] at ha; cases ha
  | some p => obtain ⟨d, _, h⟩ := h; exact h.dom p
theorem OwnO.frame {o : Option PV} {x : Option D} {fp : List Addr} (h : OwnO S o x fp) (k : ∀ a ∈ fp, S' a = S a) : OwnO S' o x fp := by
  cases o with
  | none => exact h
  | some p => obtain ⟨d, e, h⟩ := h; exact ⟨d, e, h.frame p k⟩
theorem OwnE.dom : ∀ {εp : PEnv} {ε : ED} {fp : List Addr}, OwnE S εp ε fp → ∀ a ∈ fp, ∃ c, S a = some c
  | [], ε, fp, h, a, ha => by rw [h.2] at ha; cases ha
  | o :: r, ε, fp, h, a, ha => by
    obtain ⟨x, rd, f1, f2, rfl, rfl, h1, h2⟩ := h
    rcases List.mem_append.mp ha with ha | ha
    · exact h1.dom a ha
    · exact OwnE.dom h2 a ha
theorem OwnE.frame : ∀ {εp : PEnv} {ε : ED} {fp : List Addr}, OwnE S εp ε fp → (∀ a ∈ fp, S' a = S a) → OwnE S' εp ε fp
  | [], ε, fp, h, k => h
  | o :: r, ε, fp, h, k => by
    obtain ⟨x, rd, f1, f2, rfl, rfl, h1, h2⟩ := h
    exact ⟨x, rd, f1, f2, rfl, rfl, h1.frame fun a ha => k a (List.mem_append_left _ ha), OwnE.frame h2 fun a ha => k a (List.mem_append_right _ ha)⟩
theorem OwnE.length : ∀ {εp : PEnv} {ε : ED} {fp : List Addr}, OwnE S εp ε fp → ε.length = εp.length
  | [], ε, fp, h => by rw [h.1]; rfl
  | o :: r, ε, fp, h => by
    obtain ⟨x, rd, f1, f2, rfl, rfl, h1, h2⟩ := h
    rw [List.length_cons, List.length_cons, OwnE.length h2]
theorem perm_mid {f1 f2 g1 g2 : List Addr} (h : f2.Perm (g1 ++ g2)) : (f1 ++ f2).Perm (g1 ++ (f1 ++ g2)) :=
  (List.Perm.append_left f1 h).trans (by
    rw [← List.append_assoc, ← List.append_assoc]
    exact List.Perm.append_right g2 List.perm_append_comm)
theorem OwnE.take : ∀ {εp : PEnv} {ε : ED} {fp : List Addr} {i : Nat} {p : PV}, OwnE S εp ε fp → εp[i]? = some (some p) →
    ∃ d fq fr, ε[i]? = some (some d) ∧ Own S p d fq ∧ OwnE S (εp.set i none) ε fr ∧ fp.Perm (fq ++ fr)
  | [], ε, fp, i, p, h, e => by simp at e
  | o :: r, ε, fp, 0, p, h, e => by
    obtain ⟨x, rd, f1, f2, rfl, rfl, h1, h2⟩ := h
    have e' : o = some p := by simpa using e
    subst e'
    obtain ⟨d, rfl, h1⟩ := h1
    exact ⟨d, f1, f2, rfl, h1, ⟨some d, rd, [], f2, rfl, rfl, rfl, h2⟩, List.Perm.refl _⟩
  | o :: r, ε, fp, i + 1, p, h, e => by
    obtain ⟨x, rd, f1, f2, rfl, rfl, h1, h2⟩ := h
    obtain ⟨d, fq, fr, e1, h3, h4, pm⟩ := OwnE.take (i := i) h2 (by simpa using e)
    exact ⟨d, fq, f1 ++ fr, by simpa using e1, h3, ⟨x, rd, f1, fr, rfl, rfl, h1, h4⟩, perm_mid pm⟩
theorem OwnE.give : ∀ {εp : PEnv} {ε : ED} {fr : List Addr} {i : Nat} {p : PV} {d : D} {fq : List Addr}, OwnE S εp ε fr → εp[i]? = some none → ε[i]? = some (some d) → Own S p d fq →
    ∃ fp, OwnE S (εp.set i (some p)) ε fp ∧ fp.Perm (fq ++ fr)
  | [], ε, fr, i, p, d, fq, h, e, e1, o => by simp at e
  | o :: r, ε, fr, 0, p, d, fq, h, e, e1, ho => by
    obtain ⟨x, rd, f1, f2, rfl, rfl, h1, h2⟩ := h
    have e' : o = none := by simpa using e
    subst e'
    cases (show f1 = [] from h1)
    have e2 : x = some d := by simpa using e1
    exact ⟨fq ++ f2, ⟨x, rd, fq, f2, rfl, rfl, ⟨d, e2, ho⟩, h2⟩, List.Perm.refl _⟩
  | o :: r, ε, fr, i + 1, p, d, fq, h, e, e1, ho => by
    obtain ⟨x, rd, f1, f2, rfl, rfl, h1, h2⟩ := h
    obtain ⟨fp, h3, pm⟩ := OwnE.give (i := i) h2 (by simpa using e) (by simpa using e1) ho
    exact ⟨f1 ++ fp, ⟨x, rd, f1, fp, rfl, rfl, h1, h3⟩, perm_mid pm⟩
theorem OwnE.drop : ∀ {εp : PEnv} {ε : ED} {fp : List Addr} (i : Nat), OwnE S εp ε fp → ∃ fr, OwnE S (εp.set i none) ε fr ∧ fr.Sublist fp
  | [], ε, fp, i, h => ⟨fp, h, List.Sublist.refl _⟩
  | o :: r, ε, fp, 0, h => by
    obtain ⟨x, rd, f1, f2, rfl, rfl, h1, h2⟩ := h
    exact ⟨f2, ⟨x, rd, [], f2, rfl, rfl, rfl, h2⟩, List.sublist_append_right _ _⟩
  | o :: r, ε, fp, i + 1, h => by
    obtain ⟨x, rd, f1, f2, rfl, rfl, h1, h2⟩ := h
    obtain ⟨fr, h3, sb⟩ := OwnE.drop i h2
    exact ⟨f1 ++ fr, ⟨x, rd, f1, fr, rfl, rfl, h1, h3⟩, List.Sublist.append (List.Sublist.refl _) sb⟩
theorem OwnE.real : ∀ {εp : PEnv} {ε : ED} {fp : List Addr} {i : Nat} (x : Option D), OwnE S εp ε fp → εp[i]? = some none → OwnE S εp (ε.set i x) fp
  | [], ε, fp, i, x, h, e => by simp at e
  | o :: r, ε, fp, 0, y, h, e => by
    obtain ⟨x, rd, f1, f2, rfl, rfl, h1, h2⟩ := h
    have e' : o = none := by simpa using e
    subst e'
    exact ⟨y, rd, f1, f2, rfl, rfl, h1, h2⟩
  | o :: r, ε, fp, i + 1, y, h, e => by
    obtain ⟨x, rd, f1, f2, rfl, rfl, h1, h2⟩ := h
    exact ⟨x, rd.set i y, f1, f2, rfl, rfl, h1, OwnE.real y h2 (by simpa using e)⟩

structure St (S : SD) (εp : PEnv) (ε : ED) (fp : List Addr) : Prop where
  own : OwnE S εp ε fp
  nd : fp.Nodup
structure Nx (S : SD) (fp : List Addr) (S' : SD) (fp' : List Addr) : Prop where
  grow : ∀ a ∈ fp', a ∈ fp ∨ S a = none
  ext : Ext fp S S'
theorem Nx.refl {S : SD} {fp : List Addr} : Nx S fp S fp := ⟨fun _ h => .inl h, Ext.refl⟩
theorem Nx.sub {S : SD} {fp fp' : List Addr} (h : ∀ a ∈ fp', a ∈ fp) : Nx S fp S fp' := ⟨fun a q => .inl (h a q), Ext.refl⟩
theorem Nx.trans {S S1 S2 : SD} {fp fp1 fp2 : List Addr} (a : Nx S fp S1 fp1) (b : Nx S1 fp1 S2 fp2) : Nx S fp S2 fp2 := by
  refine ⟨fun x hx => ?_, fun q c hq hc => ?_⟩
  · rcases b.grow x hx with h | h
    · exact a.grow x h
    · by_cases hf : x ∈ fp
      · exact .inl hf
      · cases e : S x with
        | none => exact .inr rfl
        | some c =>
          rw [a.ext x c hf e] at h
          cases h
  · refine b.ext q c (fun z => ?_) (a.ext q c hq hc)
    rcases a.grow q z with y | y
    · exact hq y
    · rw [hc] at y; cases y
theorem perm_nodup {a b : List Addr} (p : a.Perm b) (h : a.Nodup) : b.Nodup := p.nodup_iff.mp h
theorem nodup_app {f g : List Addr} (h : f.Nodup) (k : g.Nodup) (d : ∀ a ∈ f, a ∈ g → False) : (f ++ g).Nodup := by
  rw [List.nodup_append]
  exact ⟨h, k, fun a ha b hb e => d a ha (e ▸ hb)⟩
theorem app_nodup {f g : List Addr} (h : (f ++ g).Nodup) : f.Nodup ∧ g.Nodup ∧ ∀ a ∈ f, a ∈ g → False := by
  rw [List.nodup_append] at h
  exact ⟨h.1, h.2.1, fun a ha hb => h.2.2 a ha a hb rfl⟩
theorem Nx.rest {fq fr fq' : List Addr} (n : (fq ++ fr).Nodup) (x : Nx S fq S' fq') (dom : ∀ a ∈ fr, ∃ c, S a = some c) (nd' : fq'.Nodup) :
    (∀ a ∈ fr, S' a = S a) ∧ (fq' ++ fr).Nodup ∧ Nx S (fq ++ fr) S' (fq' ++ fr) := by
  obtain ⟨n1, n2, n3⟩ := app_nodup n
  refine ⟨fun a ha => ?_, nodup_app nd' n2 fun a ha hb => ?_, ⟨fun a ha => ?_, fun q c hq hc => ?_⟩⟩
  · obtain ⟨c, hc⟩ := dom a ha
    rw [hc]
    exact x.ext a c (fun z => n3 a z ha) hc
  · rcases x.grow a ha with h | h
    · exact n3 a h hb
    · obtain ⟨c, hc⟩ := dom a hb
      rw [hc] at h
      cases h
  · rcases List.mem_append.mp ha with h | h
    · rcases x.grow a h with y | y
      · exact .inl (List.mem_append_left _ y)
      · exact .inr y
    · exact .inl (List.mem_append_right _ h)
  · exact x.ext q c (fun z => hq (List.mem_append_left _ z)) hc
theorem Nx.perm {fp gp fp' gp' : List Addr} (x : Nx S fp S' fp') (a : ∀ q, q ∈ fp ↔ q ∈ gp) (b : ∀ q, q ∈ gp' → q ∈ fp') : Nx S gp S' gp' :=
  ⟨fun q hq => (x.grow q (b q hq)).imp (a q).mp id, fun q c hq hc => x.ext q c (fun z => hq ((a q).mp z)) hc⟩
theorem St.slot {εp : PEnv} {ε : ED} {fp : List Addr} {i : Nat} {p : PV} (h : St S εp ε fp) (e : εp[i]? = some (some p)) :
    ∃ d fq, ε[i]? = some (some d) ∧ Own S p d fq ∧ fq.Nodup ∧ ∀ S' p' fq', Own S' p' d fq' → fq'.Nodup → Nx S fq S' fq' → ∃ fp', St S' (εp.set i (some p')) ε fp' ∧ Nx S fp S' fp' := by
  obtain ⟨d, fq, fr, e1, h1, h2, pm⟩ := h.own.take e
  have n := perm_nodup pm h.nd
  refine ⟨d, fq, e1, h1, (app_nodup n).1, fun S' p' fq' o' nd' x => ?_⟩
  obtain ⟨k1, k2, k3⟩ := Nx.rest n x h2.dom nd'
  have hi : i < εp.length := (List.getElem?_eq_some_iff.mp e).1
  obtain ⟨fp', h3, pm'⟩ := (h2.frame k1).give (i := i) (by rw [List.getElem?_set_self hi]) e1 o'
  rw [List.set_set] at h3
  exact ⟨fp', ⟨h3, perm_nodup pm'.symm k2⟩, k3.perm (fun q => pm.symm.mem_iff) fun q hq => pm'.mem_iff.mp hq⟩
theorem St.assign {εp : PEnv} {ε : ED} {fp fq : List Addr} {i : Nat} {p : PV} {d : D} (h : OwnE S εp ε fp) (hi : i < εp.length) (o : Own S p d fq) (n : (fp ++ fq).Nodup) :
    ∃ fp', St S (εp.set i (some p)) (ε.set i (some d)) fp' ∧ ∀ a ∈ fp', a ∈ fp ∨ a ∈ fq := by
  obtain ⟨fr, h1, sb⟩ := h.drop i
  have h2 := h1.real (i := i) (some d) (by rw [List.getElem?_set_self hi])
  obtain ⟨fp', h3, pm⟩ := h2.give (i := i) (d := d) (by rw [List.getElem?_set_self hi]) (by rw [List.getElem?_set_self (by rw [h.length]; exact hi)]) o
  rw [List.set_set] at h3
  obtain ⟨n1, n2, n3⟩ := app_nodup n
  refine ⟨fp', ⟨h3, perm_nodup pm.symm (nodup_app n2 (sb.nodup n1) fun a ha hb => n3 a (sb.subset hb) ha)⟩, fun a ha => ?_⟩
  rcases List.mem_append.mp (pm.mem_iff.mp ha) with q | q
  · exact .inr q
  · exact .inl (sb.subset q)
end
end FL

namespace FL
open PySem PySem.Spec PyProof.Rows L2 DL
variable [Amb] [Cbs]

abbrev Exn := D
inductive Out (α : Type) where
  | ok (a : α)
  | ex (e : Exn)
abbrev M (α : Type) := PEnv → Option (Out α × PEnv)
def mPure {α : Type} (a : α) : M α := fun ε => some (.ok a, ε)
def mBind {α β : Type} (p : M α) (f : α → M β) : M β := fun ε => match p ε with
  | none => none
  | some (.ok a, ε') => f a ε'
  | some (.ex e, ε') => some (.ex e, ε')
def mLift {α : Type} (o : Option α) : M α := fun ε => match o with
  | none => none
  | some a => some (.ok a, ε)
def mMap {α β : Type} (f : α → β) (p : M α) : M β := mBind p fun a => mPure (f a)
abbrev XT := Exn → PEnv → ED → SD → List Addr → Prop
def wM {α : Type} (XD : XT) (p : M α) (ε : ED) (S : SD) (Q : α → SD → Prop) : Prop :=
  ∃ εp fp o εp', St S εp ε fp ∧ p εp = some (o, εp') ∧ ∀ S' fp', St S' εp' ε fp' → Nx S fp S' fp' → match o with
    | .ok a => Q a S'
    | .ex e => XD e εp' ε S' fp'
def wO (XD : XT) (p : M PV) (ε : ED) (S : SD) (Q : DK) : Prop :=
  ∃ εp fp o εp', St S εp ε fp ∧ p εp = some (o, εp') ∧ match o with
    | .ok v => ∀ S' fp' fq d, OwnE S' εp' ε fp' → Own S' v d fq → (fp' ++ fq).Nodup → Nx S fp S' (fp' ++ fq) → Q d S'
    | .ex e => ∀ S' fp', St S' εp' ε fp' → Nx S fp S' fp' → XD e εp' ε S' fp'
inductive PArg where
  | v (d : D)
  | s (i : Nat)
  | n (p : PV)
def ArgR (S : SD) (ε : ED) : List PArg → List D → List Addr → Prop
  | [], ds, fq => ds = [] ∧ fq = []
  | .v d :: r, ds, fq => ∃ rd, ds = d :: rd ∧ ArgR S ε r rd fq
  | .s i :: r, ds, fq => ∃ d rd, ds = d :: rd ∧ ε[i]? = some (some d) ∧ ArgR S ε r rd fq
  | .n p :: r, ds, fq => ∃ d rd f1 f2, ds = d :: rd ∧ fq = f1 ++ f2 ∧ Own S p d f1 ∧ ArgR S ε r rd f2
def wL (XD : XT) (p : M (List PArg)) (ε : ED) (S : SD) (Q : List D → SD → Prop) : Prop :=
  ∃ εp fp o εp', St S εp ε fp ∧ p εp = some (o, εp') ∧ match o with
    | .ok as => ∀ S' fp' fq ds, OwnE S' εp' ε fp' → ArgR S' ε as ds fq → (fp' ++ fq).Nodup → Nx S fp S' (fp' ++ fq) → Q ds S'
    | .ex e => ∀ S' fp', St S' εp' ε fp' → Nx S fp S' fp' → XD e εp' ε S' fp'

section
variable {XD : XT} {ε : ED} {S : SD} {α β : Type}
theorem wM_bind {p : M α} {f : α → M β} {Q : β → SD → Prop} (h : wM XD (mBind p f) ε S Q) : wM XD p ε S fun a S1 => wM XD (f a) ε S1 Q := by
  obtain ⟨εp, fp, o, εp', st, e, k⟩ := h
  unfold mBind at e
  split at e
  · cases e
  · rename_i a ε1 e1
    exact ⟨εp, fp, .ok a, ε1, st, e1, fun S1 fp1 st1 n1 => ⟨ε1, fp1, o, εp', st1, e, fun S2 fp2 st2 n2 => k S2 fp2 st2 (n1.trans n2)⟩⟩
  · rename_i x ε1 e1
    cases e
    exact ⟨εp, fp, .ex x, _, st, e1, k⟩
theorem wM_pure {a : α} {Q : α → SD → Prop} (h : wM XD (mPure a) ε S Q) : Q a S := by
  obtain ⟨εp, fp, o, εp', st, e, k⟩ := h
  cases e
  exact k S fp st Nx.refl
theorem wM_lift {o : Option α} {Q : α → SD → Prop} (h : wM XD (mLift o) ε S Q) : ∃ a, o = some a ∧ Q a S := by
  obtain ⟨εp, fp, x, εp', st, e, k⟩ := h
  unfold mLift at e
  split at e
  · cases e
  · cases e
    exact ⟨_, rfl, k S fp st Nx.refl⟩
theorem wM_imp {p : M α} {Q Q' : α → SD → Prop} (h : wM XD p ε S Q) (i : ∀ a S', Q a S' → Q' a S') : wM XD p ε S Q' := by
  obtain ⟨εp, fp, o, εp', st, e, k⟩ := h
  refine ⟨εp, fp, o, εp', st, e, fun S' fp' st' n => ?_⟩
  have := k S' fp' st' n
  cases o with
  | ok a => exact i a S' this
  | ex x => exact this
theorem wO_bind {p : M α} {f : α → M PV} {Q : DK} (h : wO XD (mBind p f) ε S Q) : wM XD p ε S fun a S1 => wO XD (f a) ε S1 Q := by
  obtain ⟨εp, fp, o, εp', st, e, k⟩ := h
  unfold mBind at e
  split at e
  · cases e
  · rename_i a ε1 e1
    refine ⟨εp, fp, .ok a, ε1, st, e1, fun S1 fp1 st1 n1 => ⟨ε1, fp1, o, εp', st1, e, ?_⟩⟩
    cases o with
    | ok v => exact fun S2 fp2 fq d own o2 nd n2 => k S2 fp2 fq d own o2 nd (n1.trans n2)
    | ex x => exact fun S2 fp2 st2 n2 => k S2 fp2 st2 (n1.trans n2)
  · rename_i x ε1 e1
    cases e
    exact ⟨εp, fp, .ex x, _, st, e1, k⟩
theorem wL_bind {p : M α} {f : α → M (List PArg)} {Q : List D → SD → Prop} (h : wL XD (mBind p f) ε S Q) : wM XD p ε S fun a S1 => wL XD (f a) ε S1 Q := by
  obtain ⟨εp, fp, o, εp', st, e, k⟩ := h
  unfold mBind at e
  split at e
  · cases e
  · rename_i a ε1 e1
    refine ⟨εp, fp, .ok a, ε1, st, e1, fun S1 fp1 st1 n1 => ⟨ε1, fp1, o, εp', st1, e, ?_⟩⟩
    cases o with
    | ok v => exact fun S2 fp2 fq d own o2 nd n2 => k S2 fp2 fq d own o2 nd (n1.trans n2)
    | ex x => exact fun S2 fp2 st2 n2 => k S2 fp2 st2 (n1.trans n2)
  · rename_i x ε1 e1
    cases e
    exact ⟨εp, fp, .ex x, _, st, e1, k⟩

def mVar (i : Nat) : M D := fun ε => match ε[i]? with
  | some (some (.val d)) => some (.ok d, ε)
  | _ => none
def mGetL (i : Nat) : M (List D) := fun ε => match ε[i]? with
  | some (some (.lst ds)) => some (.ok ds, ε)
  | _ => none
def mModL (i : Nat) (f : List D → Option (α × List D)) : M α := fun ε => match ε[i]? with
  | some (some (.lst ds)) => match f ds with
    | some (a, ds') => some (.ok a, ε.set i (some (.lst ds')))
    | none => none
  | _ => none
theorem wM_var {i : Nat} {Q : D → SD → Prop} (h : wM XD (mVar i) ε S Q) : ∃ d, ε[i]? = some (some d) ∧ Q d S := by
  obtain ⟨εp, fp, o, εp', st, e, k⟩ := h
  unfold mVar at e
  split at e
  · rename_i d hd
    cases e
    obtain ⟨d', fq, e1, ow, _⟩ := st.slot hd
    cases ow.val.1
    exact ⟨_, e1, k S fp st Nx.refl⟩
  · cases e
theorem wM_getL {i : Nat} {Q : List D → SD → Prop} (h : wM XD (mGetL i) ε S Q) : ∃ a ds, ε[i]? = some (some (.ref a)) ∧ S a = some (.lst ds) ∧ Q ds S := by
  obtain ⟨εp, fp, o, εp', st, e, k⟩ := h
  unfold mGetL at e
  split at e
  · rename_i ds hd
    cases e
    obtain ⟨d', fq, e1, ow, _⟩ := st.slot hd
    obtain ⟨a, rfl, rfl, ha⟩ := ow.lst
    exact ⟨a, ds, e1, ha, k S fp st Nx.refl⟩
  · cases e
theorem nx_put {a : Addr} {c : Cell} : Nx S [a] (put S a c) [a] := ⟨fun _ h => .inl h, fun q x hq hx => by
  rw [put_ne (by simpa using hq)]
  exact hx⟩
theorem wM_modL {i : Nat} {f : List D → Option (α × List D)} {Q : α → SD → Prop} (h : wM XD (mModL i f) ε S Q) :
    ∃ a ds b ds', ε[i]? = some (some (.ref a)) ∧ S a = some (.lst ds) ∧ f ds = some (b, ds') ∧ Q b (put S a (.lst ds')) := by
  obtain ⟨εp, fp, o, εp', st, e, k⟩ := h
  unfold mModL at e
  split at e
  · rename_i ds hd
    split at e
    · rename_i b ds' hf
      cases e
      obtain ⟨d', fq, e1, ow, _, w⟩ := st.slot hd
      obtain ⟨a, rfl, rfl, ha⟩ := ow.lst
      obtain ⟨fp', st', n⟩ := w (put S a (.lst ds')) (.lst ds') [a] (own_lst put_same) (by simp) nx_put
      exact ⟨a, ds, b, ds', e1, ha, hf, k _ fp' st' n⟩
    · cases e
  · cases e
end

section
variable {X : Cx} {XD : XT}
theorem DE_imp {e : Expr} {t t' : DTE} (h : DE X e t) (i : ∀ ε S Q, t' ε S Q → t ε S Q) : DE X e t' :=
  PE_imp h fun σ H Q ⟨ε, S, Q0, rE, rS, q, k⟩ => ⟨ε, S, Q0, rE, rS, i _ _ _ q, k⟩
theorem DT_imp {e : Expr} {t t' : DTT} (h : DT X e t) (i : ∀ ε S Q, t' ε S Q → t ε S Q) : DT X e t' :=
  PT_imp h fun σ H Q ⟨ε, S, Q0, rE, rS, q, k⟩ => ⟨ε, S, Q0, rE, rS, i _ _ _ q, k⟩
theorem DA_imp {e : List Expr} {t t' : DTA} (h : DA X e t) (i : ∀ ε S Q, t' ε S Q → t ε S Q) : DA X e t' :=
  PA_imp h fun σ H Q ⟨ε, S, Q0, rE, rS, q, k⟩ => ⟨ε, S, Q0, rE, rS, i _ _ _ q, k⟩
theorem DF_imp {e : Expr} {t t' : DTA} (h : DF X e t) (i : ∀ ε S Q, t' ε S Q → t ε S Q) : DF X e t' :=
  PE_imp h fun σ H Q ⟨ε, S, Q0, rE, rS, q, k⟩ => ⟨ε, S, Q0, rE, rS, i _ _ _ q, k⟩
theorem DS_imp {e : Stmt} {t t' : DTS} (h : DS X e t) (i : ∀ D ε S, t' D ε S → t D ε S) : DS X e t' :=
  PS_imp h fun D σ H ⟨ε, S, D0, rE, rS, q, k⟩ => ⟨ε, S, D0, rE, rS, i _ _ _ q, k⟩
theorem DSs_imp {e : List Stmt} {t t' : DTS} (h : DSs X e t) (i : ∀ D ε S, t' D ε S → t D ε S) : DSs X e t' :=
  PSs_imp h fun D σ H ⟨ε, S, D0, rE, rS, q, k⟩ => ⟨ε, S, D0, rE, rS, i _ _ _ q, k⟩
end
abbrev FE (X : Cx) (XD : XT) (e : Expr) (p : M D) : Prop := DE X e (wM XD p)
abbrev FT (X : Cx) (XD : XT) (e : Expr) (p : M Bool) : Prop := DT X e (wM XD p)
abbrev FW (X : Cx) (XD : XT) (e : Expr) (p : M Bool) : Prop := DW X e (wM XD p)
abbrev FA (X : Cx) (XD : XT) (es : List Expr) (p : M (List D)) : Prop := DA X es (wM XD p)
abbrev FF (X : Cx) (XD : XT) (e : Expr) (p : M (List D)) : Prop := DF X e (wM XD p)
abbrev FO (X : Cx) (XD : XT) (e : Expr) (p : M PV) : Prop := DE X e (wO XD p)
abbrev FLs (X : Cx) (XD : XT) (es : List Expr) (p : M (List PArg)) : Prop := DA X es (wL XD p)
def rF (f : D → D → Option D) : R2D := fun x y S Q => ∃ d, f x y = some d ∧ Q d S
abbrev FOp (X : Cx) (g : Value → Value → Sem Value) (f : D → D → Option D) : Prop := DOp X g (rF f)
def rFC (f : List D → Option D) : RAD := fun ds S Q => ∃ d, f ds = some d ∧ Q d S
abbrev FCall (X : Cx) (g : Value) (f : List D → Option D) : Prop := DCall X g (rFC f)
theorem FOp_of {X : Cx} {g : Value → Value → Sem Value} {r : R2D} {f : D → D → Option D} (h : DOp X g r) (i : ∀ x y S Q d, f x y = some d → Q d S → r x y S Q) : FOp X g f :=
  DOp_imp h fun x y S Q ⟨d, e, q⟩ => i x y S Q d e q
theorem FCall_of {X : Cx} {g : Value} {r : RAD} {f : List D → Option D} (h : DCall X g r) (i : ∀ ds S Q d, f ds = some d → Q d S → r ds S Q) : FCall X g f :=
  CallR_imp h fun xs H Q ⟨ds, S, Q0, den, rS, ⟨d, e, q⟩, k⟩ => ⟨ds, S, Q0, den, rS, i ds S Q0 d e q, k⟩

section
variable {X : Cx} {XD : XT} {a b c e l : Expr} {es : List Expr} {pa pb pc : M D} {pt pu : M Bool} {pas : M (List D)} {pf pg : M (List D)} {po : M PV} {pos p : Pos}
theorem fe_var (i : Nat) {x : Str} {pos : Pos} (hN : X.N[i]? = some x := by rfl) (hv : Vis X.env.scope x := by first | exact Or.inl rfl | exact Or.inr (Or.inl rfl) | exact Or.inr (Or.inr rfl)) (hd : (x == ("__debug__" : Str)) = false := by decide)
    (hcd : (x == ("__classdict__" : Str)) = false := by decide) : FE X XD (.Name x pos) (mVar i) := DE_imp (de_var i hN hv hd hcd) fun _ _ _ h => wM_var h
theorem fe_c {d : D} (h : DE X e (dC d)) : FE X XD e (mPure d) := DE_imp h fun _ _ _ h => wM_pure h
def mOp2 (f : D → D → Option D) (pa pb : M D) : M D := mBind pa fun x => mBind pb fun y => mLift (f x y)
theorem wM_op2 {f : D → D → Option D} {ε : ED} {S : SD} {Q : DK} (h : wM XD (mOp2 f pa pb) ε S Q) : dOp (rF f) (wM XD pa) (wM XD pb) ε S Q :=
  wM_imp (wM_bind h) fun _ _ h => wM_imp (wM_bind h) fun _ _ h => wM_lift h
theorem fe_bin {op : Operator} {f : D → D → Option D} (ho : FOp X (binaryOp op) f) (ha : FE X XD a pa) (hb : FE X XD b pb) : FE X XD (.BinOp a op b pos) (mOp2 f pa pb) :=
  DE_imp (de_op ho ha hb) fun _ _ _ => wM_op2
theorem fe_cmp {op : CmpOp} {f : D → D → Option D} (ho : FOp X (compareOp op) f) (ha : FE X XD a pa) (hb : FE X XD b pb) (hm : behindInMarks op b = false := by first | exact nomark _ | with_unfolding_all rfl) : FE X XD (.Compare a [op] [b] pos) (mOp2 f pa pb) :=
  DE_imp (de_cmp ho ha hb hm) fun _ _ _ => wM_op2
def toB : D → Option Bool
  | .bl b => some b
  | _ => none
def mB (p : M D) : M Bool := mBind p fun x => mLift (toB x)
theorem toB_eq {d : D} {b : Bool} (h : toB d = some b) : d = .bl b := by
  cases d <;> simp [toB] at h
  rw [h]
theorem wM_B {p : M D} {ε : ED} {S : SD} {Q : Bool → SD → Prop} (h : wM XD (mB p) ε S Q) : dB (wM XD p) ε S Q :=
  wM_imp (wM_bind h) fun d S1 h => by
    obtain ⟨b, e, q⟩ := wM_lift h
    exact ⟨b, toB_eq e, q⟩
theorem ft_val (h : FE X XD e pa) (he : ∀ whole, isTrue e X.env whole = (do let v ← whole; standAt e.pos; holding [v] (truthy v)) := by intro _; rfl) : FT X XD e (mB pa) :=
  DT_imp (dt_val h he) fun _ _ _ => wM_B
theorem dB_imp {t t' : DTE} (i : ∀ ε S Q, t ε S Q → t' ε S Q) {ε : ED} {S : SD} {Q : Bool → SD → Prop} (h : dB t ε S Q) : dB t' ε S Q := i _ _ _ h
theorem ft_cmp {op : CmpOp} {f : D → D → Option D} (ho : FOp X (compareOp op) f) (ha : FE X XD a pa) (hb : FE X XD b pb) (hm : behindInMarks op b = false := by first | exact nomark _ | with_unfolding_all rfl) : FT X XD (.Compare a [op] [b] pos) (mB (mOp2 f pa pb)) :=
  DT_imp (dt_cmp ho ha hb hm) fun _ _ _ h => dB_imp (fun _ _ _ => wM_op2) (wM_B h)
def mChain (f g : D → D → Option D) (pa pb pc : M D) : M D := mBind pa fun x => mBind pb fun y => mBind (mLift (f x y)) fun z => mBind (mLift (toB z)) fun k => if k = true then mBind pc fun w => mLift (g y w) else mPure (.bl false)
theorem wM_chain {f g : D → D → Option D} {ε : ED} {S : SD} {Q : DK} (h : wM XD (mChain f g pa pb pc) ε S Q) : dChain (rF f) (rF g) (wM XD pa) (wM XD pb) (wM XD pc) ε S Q :=
  wM_imp (wM_bind h) fun x S1 h => wM_imp (wM_bind h) fun y S2 h => by
    obtain ⟨z, e1, h⟩ := wM_lift (wM_bind h)
    obtain ⟨k, e2, h⟩ := wM_lift (wM_bind h)
    refine ⟨z, e1, k, toB_eq e2, ?_⟩
    cases k with
    | true =>
      rw [if_pos rfl] at h ⊢
      exact wM_imp (wM_bind h) fun w S3 h => wM_lift h
    | false => exact wM_pure h
theorem fe_chain {op op' : CmpOp} {f g : D → D → Option D} (ho : FOp X (compareOp op) f) (ho' : FOp X (compareOp op') g) (ha : FE X XD a pa) (hb : FE X XD b pb) (hc : FE X XD c pc) (hm : lastMarks [op, op'] [b, c] = false := by with_unfolding_all rfl) :
    FE X XD (.Compare a [op, op'] [b, c] pos) (mChain f g pa pb pc) := DE_imp (de_chain ho ho' ha hb hc hm) fun _ _ _ => wM_chain
theorem ft_chain {op op' : CmpOp} {f g : D → D → Option D} (ho : FOp X (compareOp op) f) (ho' : FOp X (compareOp op') g) (ha : FE X XD a pa) (hb : FE X XD b pb) (hc : FE X XD c pc) (hm : lastMarks [op, op'] [b, c] = false := by with_unfolding_all rfl) :
    FT X XD (.Compare a [op, op'] [b, c] pos) (mB (mChain f g pa pb pc)) := DT_imp (dt_chain ho ho' ha hb hc hm) fun _ _ _ h => dB_imp (fun _ _ _ => wM_chain) (wM_B h)
def isNon : D → Bool
  | .non => true
  | _ => false
theorem isNon_iff {d : D} : d = .non ↔ isNon d = true := by cases d <;> simp [isNon]
def mIsN (pa : M D) : M D := mBind pa fun x => mPure (.bl (isNon x))
def mNotN (pa : M D) : M D := mBind pa fun x => mPure (.bl (!isNon x))
theorem wM_isN {ε : ED} {S : SD} {Q : DK} (h : wM XD (mIsN pa) ε S Q) : dIsN (wM XD pa) ε S Q := wM_imp (wM_bind h) fun x S1 h => ⟨isNon x, isNon_iff, wM_pure h⟩
theorem wM_notN {ε : ED} {S : SD} {Q : DK} (h : wM XD (mNotN pa) ε S Q) : dNotN (wM XD pa) ε S Q := wM_imp (wM_bind h) fun x S1 h => ⟨!isNon x, by cases x <;> simp [isNon], wM_pure h⟩
theorem ft_isN {j pos'} (ha : FE X XD a pa) : FT X XD (.Compare a [.Is] [.Constant .none j pos'] pos) (mB (mIsN pa)) := DT_imp (dt_isN ha) fun _ _ _ h => dB_imp (fun _ _ _ => wM_isN) (wM_B h)
theorem ft_notN {j pos'} (ha : FE X XD a pa) : FT X XD (.Compare a [.IsNot] [.Constant .none j pos'] pos) (mB (mNotN pa)) := DT_imp (dt_notN ha) fun _ _ _ h => dB_imp (fun _ _ _ => wM_notN) (wM_B h)
def mAnd (t u : M Bool) : M Bool := mBind t fun k => if k = true then u else mPure false
def mOr (t u : M Bool) : M Bool := mBind t fun k => if k = true then mPure true else u
def mNot (t : M Bool) : M Bool := mBind t fun k => mPure (!k)
def mIf {α : Type} (t : M Bool) (p q : M α) : M α := mBind t fun k => if k = true then p else q
theorem DW_imp {e : Expr} {t t' : DTT} (h : DW X e t) (i : ∀ ε S Q, t' ε S Q → t ε S Q) : DW X e t' :=
  PW_imp h fun σ H Q ⟨ε, S, Q0, rE, rS, q, k⟩ => ⟨ε, S, Q0, rE, rS, i _ _ _ q, k⟩
variable {rest : List Expr}
theorem fw_and1 (h : FT X XD a pt) : FW X XD (.BoolOp .And [a] pos) pt := dw_and1 h
theorem fw_or1 (h : FT X XD a pt) : FW X XD (.BoolOp .Or [a] pos) pt := dw_or1 h
theorem fw_and (ha : FT X XD a pt) (hb : FW X XD (.BoolOp .And (b :: rest) pos) pu) : FW X XD (.BoolOp .And (a :: b :: rest) pos) (mAnd pt pu) :=
  DW_imp (dw_and ha hb) fun _ _ _ h => wM_imp (wM_bind h) fun k S1 h => by
    cases k with
    | true => exact h
    | false => exact wM_pure h
theorem fw_or (ha : FT X XD a pt) (hb : FW X XD (.BoolOp .Or (b :: rest) pos) pu) : FW X XD (.BoolOp .Or (a :: b :: rest) pos) (mOr pt pu) :=
  DW_imp (dw_or ha hb) fun _ _ _ h => wM_imp (wM_bind h) fun k S1 h => by
    cases k with
    | true => exact wM_pure h
    | false => exact h
theorem ft_w (h : FW X XD e pt) : FT X XD e pt := dt_w h
theorem ft_not (ha : FT X XD a pt) : FT X XD (.UnaryOp .Not a pos) (mNot pt) := DT_imp (dt_not ha) fun _ _ _ h => wM_imp (wM_bind h) fun k S1 h => wM_pure h
theorem fe_if (hc : FT X XD c pt) (ha : FE X XD a pa) (hb : FE X XD b pb) : FE X XD (.IfExp c a b pos) (mIf pt pa pb) :=
  DE_imp (de_if hc ha hb) fun _ _ _ h => wM_imp (wM_bind h) fun k S1 h => by
    cases k with
    | true => exact h
    | false => exact h
theorem ff_if (hc : FT X XD c pt) (ha : FF X XD a pf) (hb : FF X XD b pg) : FF X XD (.IfExp c a b pos) (mIf pt pf pg) :=
  DF_imp (df_if hc ha hb) fun _ _ _ h => wM_imp (wM_bind h) fun k S1 h => by
    cases k with
    | true => exact h
    | false => exact h
def mAndV (pa pb : M D) : M D := mBind (mB pa) fun k => if k = true then pb else mPure (.bl false)
def mOrV (pa pb : M D) : M D := mBind (mB pa) fun k => if k = true then mPure (.bl true) else pb
def mNotV (pa : M D) : M D := mBind (mB pa) fun k => mPure (.bl (!k))
theorem fe_one {op} (h : FE X XD a pa) : FE X XD (.BoolOp op [a] pos) pa := de_one h
theorem fe_and (ha : FE X XD a pa) (hb : FE X XD (.BoolOp .And (b :: rest) pos) pb) : FE X XD (.BoolOp .And (a :: b :: rest) pos) (mAndV pa pb) :=
  DE_imp (de_and ha hb) fun _ _ _ h => wM_imp (wM_B (wM_bind h)) fun x S1 ⟨k, e, h⟩ => ⟨k, e, by
    cases k with
    | true => exact h
    | false => exact wM_pure h⟩
def mNil : M (List D) := mPure []
def mCons (pa : M D) (pas : M (List D)) : M (List D) := mBind pa fun x => mBind pas fun xs => mPure (x :: xs)
theorem fa_nil : FA X XD [] mNil := DA_imp da_nil fun _ _ _ h => wM_pure h
theorem fa_cons (ha : FE X XD e pa) (hr : FA X XD es pas) (hs : starEach (e :: es) X.env = (false, eval e X.env) :: starEach es X.env := by rfl) : FA X XD (e :: es) (mCons pa pas) :=
  DA_imp (da_cons ha hr hs) fun _ _ _ h => wM_imp (wM_bind h) fun _ _ h => wM_imp (wM_bind h) fun _ _ h => wM_pure h
def short (n : Nat) (ds : List D) : Option (List D) := if ds.length ≤ n then some ds else none
theorem short_eq {n : Nat} {ds xs : List D} (h : short n ds = some xs) : xs = ds ∧ ds.length ≤ n := by
  unfold short at h
  split at h
  · cases h; exact ⟨rfl, by assumption⟩
  · cases h
def mTup (pas : M (List D)) : M D := mBind pas fun ds => mBind (mLift (short 1000 ds)) fun ds => mPure (.tup ds)
def mLst (pas : M (List D)) : M (List D) := mBind pas fun ds => mLift (short 1000 ds)
theorem fe_tup {x1} (h : FA X XD es pas) : FE X XD (.Tuple es x1 pos) (mTup pas) :=
  DE_imp (de_tup h) fun _ _ _ h => wM_imp (wM_bind h) fun ds S1 h => by
    obtain ⟨xs, e, h'⟩ := wM_lift (wM_bind h)
    obtain ⟨rfl, hl⟩ := short_eq e
    exact ⟨hl, wM_pure h'⟩
theorem ff_lst (h : FA X XD es pas) : FF X XD (.List es pos) (mLst pas) :=
  DF_imp (df_lst h) fun _ _ _ h => wM_imp (wM_bind h) fun ds S1 h => by
    obtain ⟨xs, e, h'⟩ := wM_lift h
    obtain ⟨rfl, hl⟩ := short_eq e
    exact ⟨hl, h'⟩
end
end FL

namespace FL
open PySem PySem.Spec PyProof.Rows L2 DL
variable [Amb] [Cbs]

def fAdd : D → D → Option D
  | .int i, .int j => some (.int (i + j))
  | .str a, .str b => if a.length + b.length ≤ 1000000 then some (.str (a ++ b)) else none
  | .tup a, .tup b => if a.length + b.length ≤ 1000000 then some (.tup (a ++ b)) else none
  | _, _ => none
def fSub : D → D → Option D
  | .int i, .int j => some (.int (i - j))
  | _, _ => none
def fMul : D → D → Option D
  | .int i, .int j => if i.natAbs.log2 + j.natAbs.log2 < 1000000 then some (.int (i * j)) else none
  | .str a, .int i => if -1000 ≤ i ∧ i ≤ 1000 ∧ a.length ≤ 1000 then some (.str (strMul a i)) else none
  | .tup ds, .int i => if ds ≠ [] ∧ 2 ≤ i ∧ i ≤ 1000 ∧ ds.length ≤ 1000 then some (.tup (List.replicate i.toNat ds).flatten) else none
  | _, _ => none
def fDiv : D → D → Option D
  | .int i, .int j => if 0 < j ∧ j.natAbs.log2 < 9000 then some (.int (i / j)) else none
  | _, _ => none
def fMod : D → D → Option D
  | .int i, .int j => if 0 < j then some (.int (i % j)) else none
  | _, _ => none
def fPow : D → D → Option D
  | .int i, .int j => if 0 ≤ j ∧ j ≤ 1000000 ∧ i.natAbs < 2 ^ 64 then some (.int (i ^ j.toNat)) else none
  | _, _ => none
def fCmp (f : Int → Int → Bool) : D → D → Option D
  | .int i, .int j => some (.bl (f i j))
  | _, _ => none
def fLt : D → D → Option D := fCmp fun i j => decide (i < j)
def fLe : D → D → Option D := fCmp fun i j => decide (i ≤ j)
def fGt : D → D → Option D := fCmp fun i j => decide (j < i)
def fGe : D → D → Option D := fCmp fun i j => decide (j ≤ i)
def fEqP (neg : Bool) (x y : D) : Option D := if x.plain = true ∧ y.plain = true ∧ min x.py.depth y.py.depth ≤ 60 then some (.bl (if neg then !PyData.eqv x.py y.py else PyData.eqv x.py y.py)) else none
def fEq (neg : Bool) : D → D → Option D
  | .str a, .str b => some (.bl (if neg then !decide (a = b) else decide (a = b)))
  | .int a, .int b => some (.bl (if neg then !decide (a = b) else decide (a = b)))
  | x, y => fEqP neg x y
def fIn (neg : Bool) : D → D → Option D
  | x, .tup ds => if flatD x = true ∧ ds.all flatD = true then some (.bl (if neg then !inD x ds else inD x ds)) else none
  | x, .ilst ds => if flatD x = true ∧ ds.all flatD = true then some (.bl (if neg then !inD x ds else inD x ds)) else none
  | _, _ => none
def fIsB (neg : Bool) : D → D → Option D
  | .bl a, .bl b => some (.bl (if neg then !decide (a = b) else decide (a = b)))
  | _, _ => none
def fIx : D → D → Option D
  | .fdic ks ds, .str z => valD (ks.zip ds) (.inr z)
  | .tup ds, .int i => atI ds i
  | .ilst ds, .int i => atI ds i
  | .str z, .int i => if z.length ≤ 1000000 then (atI z.cps.toList i).map fun c => .str ⟨#[c]⟩ else none
  | _, _ => none
section
variable {X : Cx}
theorem fo_add : FOp X (binaryOp .Add) fAdd := FOp_of dm_add fun x y S Q d h q => by
  unfold fAdd at h
  unfold mAdd
  split at h
  · cases h; exact q
  · split at h
    · cases h; exact ⟨by assumption, q⟩
    · cases h
  · split at h
    · cases h; exact ⟨by assumption, q⟩
    · cases h
  · cases h
theorem fo_sub : FOp X (binaryOp .Sub) fSub := FOp_of dm_sub fun x y S Q d h q => by
  unfold fSub at h
  unfold mSub
  split at h
  · cases h; exact q
  · cases h
theorem fo_mul : FOp X (binaryOp .Mult) fMul := FOp_of dm_mul fun x y S Q d h q => by
  unfold fMul at h
  unfold mMul
  split at h
  · split at h
    · rename_i hc
      cases h; exact ⟨hc, q⟩
    · cases h
  · split at h
    · rename_i hc
      cases h; exact ⟨_, _, rfl, rfl, hc.1, hc.2.1, hc.2.2, q⟩
    · cases h
  · split at h
    · rename_i hc
      cases h; exact ⟨hc.1, hc.2.1, hc.2.2.1, hc.2.2.2, q⟩
    · cases h
  · cases h
theorem fo_div : FOp X (binaryOp .FloorDiv) fDiv := FOp_of dm_div fun x y S Q d h q => by
  unfold fDiv at h
  unfold mDiv
  split at h
  · split at h
    · rename_i hc
      cases h; exact ⟨hc, q⟩
    · cases h
  · cases h
theorem fo_mod : FOp X (binaryOp .Mod) fMod := FOp_of dm_mod fun x y S Q d h q => by
  unfold fMod at h
  unfold mMod
  split at h
  · split at h
    · rename_i hc
      cases h; exact ⟨hc, q⟩
    · cases h
  · cases h
theorem fo_pow : FOp X (binaryOp .Pow) fPow := FOp_of dm_pow fun x y S Q d h q => by
  unfold fPow at h
  unfold mPow
  split at h
  · split at h
    · rename_i hc
      cases h; exact ⟨hc, q⟩
    · cases h
  · cases h
theorem fo_cmp {f : Int → Int → Bool} {g : Value → Value → Sem Value} (h0 : DOp X g (mCmp f)) : FOp X g (fCmp f) := FOp_of h0 fun x y S Q d h q => by
  unfold fCmp at h
  unfold mCmp
  split at h
  · cases h; exact q
  · cases h
theorem fo_lt : FOp X (compareOp .Lt) fLt := fo_cmp dm_lt
theorem fo_le : FOp X (compareOp .LtE) fLe := fo_cmp dm_le
theorem fo_gt : FOp X (compareOp .Gt) fGt := fo_cmp dm_gt
theorem fo_ge : FOp X (compareOp .GtE) fGe := fo_cmp dm_ge
theorem fEqP_m {neg : Bool} {x y : D} {S : SD} {Q : DK} {d : D} (h : fEqP neg x y = some d) (q : Q d S) : mEqP neg x y S Q := by
  unfold fEqP at h
  split at h
  · rename_i hc
    cases h
    exact ⟨hc.1, hc.2.1, hc.2.2, q⟩
  · cases h
theorem fEq_m {neg : Bool} {x y : D} {S : SD} {Q : DK} {d : D} (h : fEq neg x y = some d) (q : Q d S) : mEq neg x y S Q := by
  cases x <;> cases y <;> simp only [fEq, mEq] at h ⊢ <;> first | exact fEqP_m h q | (cases h; exact q)
theorem fo_eq (hu : X.A.units + 64 < cLine) : FOp X (compareOp .Eq) (fEq false) := FOp_of (dm_eq hu) fun x y S Q d h q => fEq_m h q
theorem fo_ne (hu : X.A.units + 64 < cLine) : FOp X (compareOp .NotEq) (fEq true) := FOp_of (dm_ne hu) fun x y S Q d h q => fEq_m h q
theorem fIn_m {neg : Bool} {x y : D} {S : SD} {Q : DK} {d : D} (h : fIn neg x y = some d) (q : Q d S) : mIn neg x y S Q := by
  unfold fIn at h
  unfold mIn
  split at h
  · split at h
    · rename_i hc
      cases h; exact ⟨hc.1, hc.2, q⟩
    · cases h
  · split at h
    · rename_i hc
      cases h; exact ⟨hc.1, hc.2, q⟩
    · cases h
  · cases h
theorem fo_notIn (hu : X.A.units + 1 < cLine) : FOp X (compareOp .NotIn) (fIn true) := FOp_of (dm_notIn hu) fun x y S Q d h q => fIn_m h q
theorem fIx_r {x y d : D} {S : SD} {Q : DK} (h : fIx x y = some d) (q : Q d S) : rIxE x y S Q := by
  unfold fIx at h
  unfold rIxE
  split at h
  · exact ⟨d, h, q⟩
  · exact ⟨d, h, q⟩
  · exact ⟨d, h, q⟩
  · split at h
    · rename_i hc
      obtain ⟨c, e, rfl⟩ := Option.map_eq_some_iff.mp h
      exact ⟨hc, c, e, q⟩
    · cases h
  · cases h
end

section
variable {X : Cx} {XD : XT} {a b c e l : Expr} {es : List Expr} {pa pb pc : M D} {pt pu : M Bool} {pas : M (List D)} {pf pg : M (List D)} {pos p p2 : Pos} {lo hi : Option Expr}
def mInL (neg : Bool) (pa : M D) (i : Nat) : M D := mBind pa fun x => mBind (mGetL i) fun ds => mLift (fIn neg x (.tup ds))
def mNilL (neg : Bool) (i : Nat) : M D := mBind (mGetL i) fun ds => mPure (.bl (if neg then !ds.isEmpty else ds.isEmpty))
theorem wM_nilL {neg : Bool} {i : Nat} {ε : ED} {S : SD} {Q : DK} (h : wM XD (mNilL neg i) ε S Q) : dNilL neg (dVar i) ε S Q := by
  obtain ⟨q, ds, e1, e2, h'⟩ := wM_getL (wM_bind h)
  exact ⟨.ref q, e1, q, ds, rfl, e2, wM_pure h'⟩
theorem ft_nilE (hu : X.A.units + 1 < cLine) {i : Nat} {p1 : Pos} (ha : DE X a (dVar i)) (hm : behindInMarks .Eq (.List [] p1) = false := by first | exact nomark _ | with_unfolding_all rfl) : FT X XD (.Compare a [.Eq] [.List [] p1] pos) (mB (mNilL false i)) := DT_imp (dt_nilE hu ha hm) fun _ _ _ h => dB_imp (fun _ _ _ => wM_nilL) (wM_B h)
theorem ft_nilN (hu : X.A.units + 1 < cLine) {i : Nat} {p1 : Pos} (ha : DE X a (dVar i)) (hm : behindInMarks .NotEq (.List [] p1) = false := by first | exact nomark _ | with_unfolding_all rfl) : FT X XD (.Compare a [.NotEq] [.List [] p1] pos) (mB (mNilL true i)) := DT_imp (dt_nilN hu ha hm) fun _ _ _ h => dB_imp (fun _ _ _ => wM_nilL) (wM_B h)
def mIx (pa pb : M D) : M D := mOp2 fIx pa pb
theorem fe_ix (hu : X.A.units + 1 < cLine) (ha : FE X XD a pa) (hb : FE X XD b pb) (hs : PlainIx b := by intro _ _; rfl) : FE X XD (.Subscript a b pos) (mIx pa pb) :=
  DE_imp (de_ixE hu ha hb hs) fun _ _ _ h => wM_imp (wM_bind h) fun _ _ h => wM_imp (wM_bind h) fun _ _ h => by
    obtain ⟨d, e, q⟩ := wM_lift h
    exact fIx_r e q
def mIxL (i : Nat) (pb : M D) : M D := mBind (mGetL i) fun _ => mBind pb fun y => mBind (mGetL i) fun ds => mLift (fIx (.tup ds) y)
theorem slot_eq {ε : ED} {i : Nat} {x y : D} (h : ε[i]? = some (some x)) (g : ε[i]? = some (some y)) : x = y := by
  rw [h] at g
  cases g
  rfl
theorem fIx_tup {ds : List D} {y d : D} (h : fIx (.tup ds) y = some d) : ∃ j, y = .int j ∧ atI ds j = some d := by
  cases y with
  | int j => exact ⟨j, rfl, h⟩
  | _ => cases h
theorem fe_ixL (hu : X.A.units + 1 < cLine) {i : Nat} (ha : DE X a (dVar i)) (hb : FE X XD b pb) (hs : PlainIx b := by intro _ _; rfl) : FE X XD (.Subscript a b pos) (mIxL i pb) :=
  DE_imp (de_ixE hu ha hb hs) fun ε S Q h => by
    obtain ⟨q, _, e1, _, h⟩ := wM_getL (wM_bind h)
    refine ⟨.ref q, e1, wM_imp (wM_bind h) fun y S1 h => ?_⟩
    obtain ⟨q', ds, e2, hq, h⟩ := wM_getL (wM_bind h)
    cases slot_eq e1 e2
    obtain ⟨d, e3, h'⟩ := wM_lift h
    obtain ⟨j, rfl, e4⟩ := fIx_tup e3
    exact ⟨ds, hq, d, e4, h'⟩
def mIxF (pf : M (List D)) (pb : M D) : M D := mBind pf fun ds => mBind pb fun y => mLift (fIx (.tup ds) y)
theorem fe_ixF (ha : FF X XD a pf) (hb : FE X XD b pb) (hs : PlainIx b := by intro _ _; rfl) : FE X XD (.Subscript a b pos) (mIxF pf pb) :=
  DE_imp (de_ixF ha hb hs) fun ε S Q h => wM_imp (wM_bind h) fun ds S1 h => wM_imp (wM_bind h) fun y S2 h => by
    obtain ⟨d, e3, h'⟩ := wM_lift h
    obtain ⟨j, rfl, e4⟩ := fIx_tup e3
    exact ⟨j, rfl, d, e4, h'⟩
abbrev FPO (X : Cx) (XD : XT) (e : Option Expr) (p : M (Option Int)) : Prop := DPO X e (wM XD p)
theorem DPO_imp {e : Option Expr} {t t' : DTO} (h : DPO X e t) (i : ∀ ε S Q, t' ε S Q → t ε S Q) : DPO X e t' :=
  ⟨fun pins s σ H Q I ⟨ε, S, Q0, rE, rS, q, k⟩ => h.run pins s σ H Q I ⟨ε, S, Q0, rE, rS, i _ _ _ q, k⟩⟩
def mNoPart : M (Option Int) := mPure none
def toI : D → Option Int
  | .int i => some i
  | _ => none
theorem toI_eq {d : D} {i : Int} (h : toI d = some i) : d = .int i := by
  cases d <;> simp [toI] at h
  rw [h]
def mPart (pa : M D) : M (Option Int) := mBind pa fun x => mBind (mLift (toI x)) fun i => mPure (some i)
theorem fpo_none : FPO X XD none mNoPart := DPO_imp dpo_none fun _ _ _ h => wM_pure h
theorem fpo_some (h : FE X XD e pa) : FPO X XD (some e) (mPart pa) := DPO_imp (dpo_some h) fun _ _ _ h => wM_imp (wM_bind h) fun x S1 h => by
  obtain ⟨i, e1, h⟩ := wM_lift (wM_bind h)
  exact ⟨i, toI_eq e1, wM_pure h⟩
def toT : D → Option (List D)
  | .tup ds => some ds
  | _ => none
theorem toT_eq {d : D} {i : List D} (h : toT d = some i) : d = .tup i := by
  cases d <;> simp [toT] at h
  rw [h]
variable {pl ph : M (Option Int)}
def mSlT (pa : M D) (pl ph : M (Option Int)) : M D := mBind pa fun x => mBind pl fun l => mBind ph fun u => mBind (mLift (toT x)) fun ds => mPure (.tup (cutG ds l u))
theorem fe_slT (he : FE X XD e pa) (hl : FPO X XD lo pl) (hh : FPO X XD hi ph) : FE X XD (.Subscript e (.Slice lo hi none p2) pos) (mSlT pa pl ph) :=
  DE_imp (de_slT he hl hh) fun _ _ _ h => wM_imp (wM_bind h) fun x _ h => wM_imp (wM_bind h) fun _ _ h => wM_imp (wM_bind h) fun _ _ h => by
    obtain ⟨ds, e1, h⟩ := wM_lift (wM_bind h)
    exact ⟨ds, toT_eq e1, wM_pure h⟩
def mSlL (i : Nat) (pl ph : M (Option Int)) : M (List D) := mBind (mGetL i) fun _ => mBind pl fun l => mBind ph fun u => mBind (mGetL i) fun ds => mPure (cutG ds l u)
def mRevL (i : Nat) : M (List D) := mBind (mGetL i) fun ds => mPure ds.reverse
theorem ff_revL {i k : Nat} {q1 q2 q3 : Pos} (he : DE X e (dVar i)) : FF X XD (.Subscript e (.Slice none none (some (.UnaryOp .USub (.Constant (.int 1) k q1) q2)) q3) pos) (mRevL i) :=
  DF_imp (df_revL he) fun ε S Q h => by
    obtain ⟨q, ds, e1, e2, h⟩ := wM_getL (wM_bind h)
    exact ⟨.ref q, e1, q, ds, rfl, e2, wM_pure h⟩
def mRevT (pa : M D) : M D := mBind pa fun x => mBind (mLift (toT x)) fun ds => mPure (.tup ds.reverse)
def cat (xs ys : List D) : Option (List D) := if xs.length + ys.length ≤ 1000000 then some (xs ++ ys) else none
theorem cat_eq {xs ys zs : List D} (h : cat xs ys = some zs) : xs.length + ys.length ≤ 1000000 ∧ zs = xs ++ ys := by
  unfold cat at h
  split at h
  · cases h; exact ⟨by assumption, rfl⟩
  · cases h
def mCatFF (pf pg : M (List D)) : M (List D) := mBind pf fun xs => mBind pg fun ys => mLift (cat xs ys)
theorem ff_catFF (ha : FF X XD a pf) (hb : FF X XD b pg) : FF X XD (.BinOp a .Add b pos) (mCatFF pf pg) :=
  DF_imp (df_catFF ha hb) fun ε S Q h => wM_imp (wM_bind h) fun xs S1 h => wM_imp (wM_bind h) fun ys S2 h => by
    obtain ⟨zs, e, h⟩ := wM_lift h
    obtain ⟨c, rfl⟩ := cat_eq e
    exact ⟨c, h⟩
def mCatVF (i : Nat) (pg : M (List D)) : M (List D) := mBind (mGetL i) fun _ => mBind pg fun ys => mBind (mGetL i) fun xs => mLift (cat xs ys)
theorem ff_catVF {i : Nat} (ha : DE X a (dVar i)) (hb : FF X XD b pg) : FF X XD (.BinOp a .Add b pos) (mCatVF i pg) :=
  DF_imp (df_catVF ha hb) fun ε S Q h => by
    obtain ⟨q, _, e1, _, h⟩ := wM_getL (wM_bind h)
    refine ⟨.ref q, e1, wM_imp (wM_bind h) fun ys S2 h => ?_⟩
    obtain ⟨q', xs, e2, hq, h⟩ := wM_getL (wM_bind h)
    cases slot_eq e1 e2
    obtain ⟨zs, e, h⟩ := wM_lift h
    obtain ⟨c, rfl⟩ := cat_eq e
    exact ⟨q, xs, rfl, hq, c, h⟩
def mCatFV (pf : M (List D)) (i : Nat) : M (List D) := mBind pf fun xs => mBind (mGetL i) fun ys => mLift (cat xs ys)
def mCatVV (i j : Nat) : M (List D) := mBind (mGetL i) fun xs => mBind (mGetL j) fun ys => mLift (cat xs ys)
def rep (xs : List D) (y : D) : Option (List D) := match y with
  | .int i => if -1000 ≤ i ∧ i ≤ 1000 ∧ xs.length ≤ 1000 then some (List.replicate i.toNat xs).flatten else none
  | _ => none
theorem rep_eq {xs zs : List D} {y : D} (h : rep xs y = some zs) : ∃ i : Int, y = .int i ∧ -1000 ≤ i ∧ i ≤ 1000 ∧ xs.length ≤ 1000 ∧ zs = (List.replicate i.toNat xs).flatten := by
  unfold rep at h
  split at h
  · split at h
    · rename_i hc
      cases h
      exact ⟨_, rfl, hc.1, hc.2.1, hc.2.2, rfl⟩
    · cases h
  · cases h
def mRepF (pf : M (List D)) (pb : M D) : M (List D) := mBind pf fun xs => mBind pb fun y => mLift (rep xs y)
theorem ff_repF (ha : FF X XD a pf) (hb : FE X XD b pb) : FF X XD (.BinOp a .Mult b pos) (mRepF pf pb) :=
  DF_imp (df_repF ha hb) fun ε S Q h => wM_imp (wM_bind h) fun xs S1 h => wM_imp (wM_bind h) fun y S2 h => by
    obtain ⟨zs, e, h⟩ := wM_lift h
    obtain ⟨i, e1, e2, e3, e4, rfl⟩ := rep_eq e
    exact ⟨i, e1, e2, e3, e4, h⟩
def mRepV (i : Nat) (pb : M D) : M (List D) := mBind (mGetL i) fun _ => mBind pb fun y => mBind (mGetL i) fun xs => mLift (rep xs y)
def mTupF (pf : M (List D)) : M D := mBind pf fun ds => mPure (.tup ds)
theorem fe_tupF (hg : Gl X "tuple") (hm : X.mg "tuple" = none) (ha : FF X XD a pf) (he : starEach [a] X.env = (false, eval a X.env) :: starEach [] X.env := by rfl) (hpl : (backTo pos (starEach [] X.env)).any (·.1) = false := by rfl) : FE X XD (.Call (.Name "tuple" p) [a] [] pos) (mTupF pf) :=
  DE_imp (de_tupF hg hm ha he hpl) fun ε S Q h => wM_imp (wM_bind h) fun ds S1 h => wM_pure h
def items : D → Option (List D)
  | .tup ds => some ds
  | .ilst ds => some ds
  | _ => none
theorem items_eq {d : D} {ds : List D} (h : items d = some ds) : d = .tup ds ∨ d = .ilst ds := by
  cases d <;> simp [items] at h
  · exact .inl (by rw [h])
  · exact .inr (by rw [h])
def mTupV (pa : M D) : M D := mBind pa fun x => mBind (mLift (items x)) fun ds => mPure (.tup ds)
def mTupL (i : Nat) : M D := mBind (mGetL i) fun ds => mPure (.tup ds)
theorem fe_tupL (hg : Gl X "tuple") (hm : X.mg "tuple" = none) {i : Nat} (ha : DE X a (dVar i)) (he : starEach [a] X.env = (false, eval a X.env) :: starEach [] X.env := by rfl) (hpl : (backTo pos (starEach [] X.env)).any (·.1) = false := by rfl) : FE X XD (.Call (.Name "tuple" p) [a] [] pos) (mTupL i) :=
  DE_imp (de_tupV hg hm ha he hpl) fun ε S Q h => by
    obtain ⟨q, ds, e1, e2, h⟩ := wM_getL (wM_bind h)
    exact ⟨.ref q, e1, .inr (.inr ⟨q, ds, rfl, e2, wM_pure h⟩)⟩
def mListV (pa : M D) : M (List D) := mBind pa fun x => mLift (items x)
theorem ff_listV (hg : Gl X "list") (hm : X.mg "list" = none) (ha : FE X XD a pa) (he : starEach [a] X.env = (false, eval a X.env) :: starEach [] X.env := by rfl) (hpl : (backTo pos (starEach [] X.env)).any (·.1) = false := by rfl) : FF X XD (.Call (.Name "list" p) [a] [] pos) (mListV pa) :=
  DF_imp (df_listV hg hm ha he hpl) fun ε S Q h => wM_imp (wM_bind h) fun x S1 h => by
    obtain ⟨ds, e1, h'⟩ := wM_lift h
    rcases items_eq e1 with rfl | rfl
    · exact ⟨ds, .inl rfl, h'⟩
    · exact ⟨ds, .inr (.inl rfl), h'⟩
def bools : List D → Option (List Bool)
  | [] => some []
  | .bl b :: r => (bools r).map (b :: ·)
  | _ :: _ => none
def intsL : List D → Option (List Int)
  | [] => some []
  | .int b :: r => (intsL r).map (b :: ·)
  | _ :: _ => none
theorem bools_eq : ∀ {ds : List D} {bs : List Bool}, bools ds = some bs → ds = bs.map D.bl
  | [], bs, h => by
    cases h
    rfl
  | d :: ds, bs, h => by
    cases d <;> first | (cases h; done) | skip
    obtain ⟨r, h1, rfl⟩ := Option.map_eq_some_iff.mp h
    rw [bools_eq h1]
    rfl
theorem bools_map : ∀ bs : List Bool, bools (bs.map D.bl) = some bs
  | [] => rfl
  | b :: bs => by
    show (bools (bs.map D.bl)).map (b :: ·) = _
    rw [bools_map bs]
    rfl
def mAllF (pf : M (List D)) : M D := mBind pf fun ds => mBind (mLift (bools ds)) fun bs => mPure (.bl (bs.all id))
def mAnyF (pf : M (List D)) : M D := mBind pf fun ds => mBind (mLift (bools ds)) fun bs => mPure (.bl (bs.any id))
def mSumF (pf : M (List D)) : M D := mBind pf fun ds => mBind (mLift (intsL ds)) fun ns => mPure (.int ns.sum)
theorem fe_allF (hc : X.calm = true) (hg : Gl X "all") (hm : X.mg "all" = none) (ha : FF X XD a pf) (he : starEach [a] X.env = (false, eval a X.env) :: starEach [] X.env := by rfl) (hpl : (backTo pos (starEach [] X.env)).any (·.1) = false := by rfl) : FE X XD (.Call (.Name "all" p) [a] [] pos) (mAllF pf) :=
  DE_imp (de_allF hc hg hm ha he hpl) fun ε S Q h => wM_imp (wM_bind h) fun ds S1 h => by
    obtain ⟨bs, e1, h⟩ := wM_lift (wM_bind h)
    exact ⟨bs, bools_eq e1, wM_pure h⟩
def mCB (f : List D → Option D) (pas : M (List D)) : M D := mBind pas fun ds => mLift (f ds)
theorem wM_cb {f : List D → Option D} {ε : ED} {S : SD} {Q : DK} (h : wM XD (mCB f pas) ε S Q) : dCB (rFC f) (wM XD pas) ε S Q := wM_imp (wM_bind h) fun _ _ h => wM_lift h
theorem fe_callB {x : Str} {id : String} {f : List D → Option D} (hc : FCall X (.builtin id) f) (hg : Gl X x) (hm : X.mg x = none) (hv : bootBuiltins x = some (.builtin id)) (ha : FA X XD (e :: es) pas) (hn : x ≠ "__name__" := by decide) (hdb : (x == ("__debug__" : Str)) = false := by decide)
    (he : starEach (e :: es) X.env = (false, eval e X.env) :: starEach es X.env := by rfl) (hpl : (backTo pos (starEach es X.env)).any (·.1) = false := by rfl) : FE X XD (.Call (.Name x p) (e :: es) [] pos) (mCB f pas) :=
  DE_imp (de_callB hc hg hm hv ha hn hdb he hpl) fun _ _ _ => wM_cb
theorem fe_callTy {x : Str} {T : String} {f : List D → Option D} (hc : FCall X (.type T) f) (hg : Gl X x) (hm : X.mg x = none) (hv : bootBuiltins x = some (.type T)) (ha : FA X XD (e :: es) pas) (hn : x ≠ "__name__" := by decide) (hdb : (x == ("__debug__" : Str)) = false := by decide)
    (he : starEach (e :: es) X.env = (false, eval e X.env) :: starEach es X.env := by rfl) (hpl : (backTo pos (starEach es X.env)).any (·.1) = false := by rfl) : FE X XD (.Call (.Name x p) (e :: es) [] pos) (mCB f pas) :=
  DE_imp (de_callTy hc hg hm hv ha hn hdb he hpl) fun _ _ _ => wM_cb
def fLen : List D → Option D
  | [.tup ds] => some (.int ds.length)
  | [.ilst ds] => some (.int ds.length)
  | [.fdic ks _] => some (.int ks.length)
  | [.str z] => if z.length ≤ 1000000 then some (.int z.length) else none
  | _ => none
theorem fc_len : FCall X (.builtin "len") fLen := FCall_of dc_len fun ds S Q d h q => by
  unfold fLen at h
  split at h
  · cases h; exact ⟨_, rfl, .inl ⟨_, .inl rfl, q⟩⟩
  · cases h; exact ⟨_, rfl, .inl ⟨_, .inr (.inl rfl), q⟩⟩
  · cases h; exact ⟨_, rfl, .inr (.inr (.inr ⟨_, _, rfl, q⟩))⟩
  · split at h
    · cases h; exact ⟨_, rfl, .inr (.inl ⟨_, rfl, by assumption, q⟩)⟩
    · cases h
  · cases h
def mLenL (i : Nat) : M D := mBind (mGetL i) fun ds => mPure (.int ds.length)
theorem fe_lenL (hg : Gl X "len") (hm : X.mg "len" = none) {i : Nat} (ha : DE X a (dVar i)) (he : starEach [a] X.env = (false, eval a X.env) :: starEach [] X.env := by rfl) (hpl : (backTo pos (starEach [] X.env)).any (·.1) = false := by rfl) : FE X XD (.Call (.Name "len" p) [a] [] pos) (mLenL i) :=
  DE_imp (de_callB dc_len hg hm PySem.boot_len (da_cons ha da_nil he) (he := he) (hpl := hpl)) fun ε S Q h => by
    obtain ⟨q, ds, e1, e2, h⟩ := wM_getL (wM_bind h)
    exact ⟨.ref q, e1, .ref q, rfl, .inl ⟨ds, .inr (.inr ⟨q, rfl, e2⟩), wM_pure h⟩⟩
def fInt : List D → Option D
  | [.int i] => some (.int i)
  | [.bl b] => some (.int (if b then 1 else 0))
  | _ => none
theorem fc_int : FCall X (.type "int") fInt := FCall_of dc_int fun ds S Q d h q => by
  unfold fInt at h
  split at h
  · cases h; exact .inl ⟨_, rfl, q⟩
  · cases h; exact .inr ⟨_, rfl, q⟩
  · cases h
def fMin : List D → Option D
  | [.int i, .int j] => some (.int (if j < i then j else i))
  | _ => none
def fMax : List D → Option D
  | [.int i, .int j] => some (.int (if j > i then j else i))
  | _ => none
theorem fc_min (hc : X.calm = true) : FCall X (.builtin "min") fMin := FCall_of (dc_min2 hc) fun ds S Q d h q => by
  unfold fMin at h
  split at h
  · cases h; exact ⟨_, _, rfl, q⟩
  · cases h
theorem fc_max (hc : X.calm = true) : FCall X (.builtin "max") fMax := FCall_of (dc_max2 hc) fun ds S Q d h q => by
  unfold fMax at h
  split at h
  · cases h; exact ⟨_, _, rfl, q⟩
  · cases h
def tyP : D → Option String
  | .non => some "NoneType"
  | .bl _ => some "bool"
  | .int _ => some "int"
  | .str _ => some "str"
  | .tup _ => some "tuple"
  | .ilst _ => some "list"
  | .fdic _ _ => some "dict"
  | _ => none
def fIsi : List D → Option D
  | [x, .ty T] => if T = "tuple" ∨ T = "str" ∨ T = "int" ∨ T = "bool" then (tyP x).map fun t => .bl (subTy t T) else none
  | _ => none
theorem fc_isi : FCall X (.builtin "isinstance") fIsi := FCall_of dc_isi fun ds S Q d h q => by
  unfold fIsi at h
  split at h
  · rename_i x T
    split at h
    · rename_i hc
      obtain ⟨t, e, rfl⟩ := Option.map_eq_some_iff.mp h
      refine ⟨x, T, t, rfl, ?_, hc, q⟩
      cases x <;> first | exact e | (cases e; done)
    · cases h
  · cases h
def fRepr : List D → Option D
  | [.tup ds] => if plainL ds = true ∧ (PyData.tuple (pys ds)).showable = true ∧ (PyData.tuple (pys ds)).hasDict = false ∧ (PyData.tuple (pys ds)).depth ≤ 62 ∧ (PyData.tuple (pys ds)).shown.length ≤ sizeLine then some (.str (PyData.tuple (pys ds)).shown) else none
  | _ => none
theorem fc_repr (hu : X.A.units + 64 < cLine) (hg : X.A.guards = some []) : FCall X (.builtin "repr") fRepr := FCall_of (dc_repr hu hg) fun ds S Q d h q => by
  unfold fRepr at h
  split at h
  · rename_i ds
    split at h
    · rename_i hc
      cases h
      exact ⟨_, _, rfl, .inl ⟨hc.1, rfl⟩, ⟨_, .inl rfl⟩, hc.2, q⟩
    · cases h
  · cases h
def appL (x : D) (ds : List D) : Option (D × List D) := if ds.length ≤ 1000000 then some (.non, ds ++ [x]) else none
def mAppL (i : Nat) (pa : M D) : M D := mBind (mGetL i) fun _ => mBind pa fun x => mModL i (appL x)
theorem fe_append {apos cpos : Pos} {o : Expr} {i : Nat} (ho : DE X o (dVar i)) (ha : FE X XD e pa)
    (hbase : attributeBase o "append" X.env (eval o X.env) = eval o X.env := by rfl)
    (hfew : ((backTo cpos (starEach [e] X.env)).all (fun x => !x.1) && (backToKw cpos (keywordEach [] X.env)).all (fun x => x.1.isSome)
      && decide (([e] : List Expr).length + ([] : List Keyword).length + (if ([] : List Keyword).isEmpty then 0 else 1) < 30)) = true := by rfl)
    (hline : (apos.endLine == cpos.line) = true := by rfl) (hs : starEach [e] X.env = (false, eval e X.env) :: starEach [] X.env := by rfl) (hplain : (backTo cpos (starEach [] X.env)).any (·.1) = false := by rfl) :
    FE X XD (.Call (.Attribute o "append" apos) [e] [] cpos) (mAppL i pa) :=
  DE_imp (de_lm PySem.F.slot_list_append PySem.F.type_list_append dm_append ho (da_cons ha da_nil hs) hbase hfew hline hs hplain) fun ε S Q h => by
    obtain ⟨q, ds0, e1, e2, h⟩ := wM_getL (wM_bind h)
    refine ⟨.ref q, e1, ⟨q, ds0, rfl, e2⟩, wM_imp (wM_bind h) fun x S1 h => ?_⟩
    obtain ⟨q', ds, b, ds', e3, e4, e5, h⟩ := wM_modL h
    cases slot_eq e1 e3
    unfold appL at e5
    split at e5
    · cases e5
      exact ⟨q, ds, x, rfl, rfl, e4, by assumption, h⟩
    · cases e5
def popL (ds : List D) : Option (D × List D) := match ds.getLast? with
  | some d => some (d, ds.dropLast)
  | none => none
theorem popL_eq {ds ds' : List D} {d : D} (h : popL ds = some (d, ds')) : ds = ds' ++ [d] := by
  unfold popL at h
  split at h
  · rename_i x hx
    cases h
    obtain ⟨ys, rfl⟩ := List.getLast?_eq_some_iff.mp hx
    simp
  · cases h
theorem popL_snoc {ds : List D} {d : D} : popL (ds ++ [d]) = some (d, ds) := by simp [popL]
def mPopL (i : Nat) : M D := mModL i popL
theorem fe_pop {apos cpos : Pos} {o : Expr} {i : Nat} (ho : DE X o (dVar i)) (hbase : attributeBase o "pop" X.env (eval o X.env) = eval o X.env := by rfl) (hline : (apos.endLine == cpos.line) = true := by rfl) :
    FE X XD (.Call (.Attribute o "pop" apos) [] [] cpos) (mPopL i) :=
  DE_imp (de_lm0 PySem.F.slot_list_pop PySem.F.type_list_pop dm_pop ho hbase hline) fun ε S Q h => by
    obtain ⟨q, ds, b, ds', e3, e4, e5, h⟩ := wM_modL h
    cases popL_eq e5
    exact ⟨.ref q, e3, ⟨q, _, rfl, e4⟩, q, ds', b, rfl, rfl, e4, h⟩
def popAtL (y : D) (ds : List D) : Option (D × List D) := match y with
  | .int i => if 0 ≤ i ∧ ds.length ≤ 1000000 then (ds[i.toNat]?).map fun d => (d, ds.eraseIdx i.toNat) else none
  | _ => none
def mPopAtL (i : Nat) (pa : M D) : M D := mBind (mGetL i) fun _ => mBind pa fun y => mModL i (popAtL y)
def extL (ys ds : List D) : Option (D × List D) := if ds.length + ys.length ≤ 1000000 then some (.non, ds ++ ys) else none
def mExtF (i : Nat) (pf : M (List D)) : M D := mBind (mGetL i) fun _ => mBind pf fun ys => mModL i (extL ys)
def mExtL (i j : Nat) : M D := mBind (mGetL i) fun _ => mBind (mGetL j) fun ys => mModL i (extL ys)
def fCount (x y : D) : Option D := match x with
  | .tup ds => if plainL ds = true ∧ y.plain = true ∧ y.py.depth ≤ 60 then some (.int ((pys ds).countP fun z => PyData.eqv z y.py : Nat)) else none
  | _ => none
def mCountT (pa pb : M D) : M D := mBind pa fun x => mBind (mLift (toT x)) fun _ => mBind pb fun y => mLift (fCount x y)
def fNeg : D → Option D
  | .int i => some (.int (-i))
  | _ => none
def mNeg (pa : M D) : M D := mBind pa fun x => mLift (fNeg x)
end
end FL

namespace FL
open PySem PySem.Spec PyProof.Rows L2 DL
variable [Amb] [Cbs]

section
variable {XD : XT} {ε : ED} {S : SD} {α β : Type}
theorem wO_pure {v : PV} {Q : DK} (h : wO XD (mPure v) ε S Q) : ∃ εp fp, St S εp ε fp ∧ ∀ S' fp' fq d, OwnE S' εp ε fp' → Own S' v d fq → (fp' ++ fq).Nodup → Nx S fp S' (fp' ++ fq) → Q d S' := by
  obtain ⟨εp, fp, o, εp', st, e, k⟩ := h
  cases e
  exact ⟨εp, fp, st, k⟩
theorem nx_new {fp : List Addr} {q : Addr} {c : Cell} (h : S q = none) : Nx S fp (put S q c) (fp ++ [q]) := ⟨fun a ha => by
  rcases List.mem_append.mp ha with ha | ha
  · exact .inl ha
  · rw [List.mem_singleton] at ha
    exact .inr (ha ▸ h), fun a x hq hx => by
  rw [put_ne (by rintro rfl; rw [h] at hx; cases hx)]
  exact hx⟩
theorem fresh_frame {fp : List Addr} {q : Addr} {c : Cell} (h : S q = none) (dom : ∀ a ∈ fp, ∃ c, S a = some c) : (∀ a ∈ fp, put S q c a = S a) ∧ q ∉ fp := by
  have hq : q ∉ fp := fun z => by
    obtain ⟨x, hx⟩ := dom q z
    rw [h] at hx
    cases hx
  exact ⟨fun a ha => put_ne (by rintro rfl; exact hq ha), hq⟩
theorem wO_lst {p : M (List D)} {Q : DK} (h : wO XD (mMap .lst p) ε S Q) : dNew (wM XD p) ε S Q := wM_imp (wO_bind h) fun ds S1 h => by
  obtain ⟨εp, fp, st, k⟩ := wO_pure h
  intro q hq
  obtain ⟨f1, f2⟩ := fresh_frame (c := .lst ds) hq st.own.dom
  exact k _ fp [q] (.ref q) (st.own.frame f1) (own_lst put_same) (nodup_app st.nd (by simp) fun a ha hb => by
    rw [List.mem_singleton] at hb
    exact f2 (hb ▸ ha)) (nx_new hq)
def mArgV (pa : M D) (pr : M (List PArg)) : M (List PArg) := mBind pa fun d => mMap (PArg.v d :: ·) pr
def mArgS (i : Nat) (pr : M (List PArg)) : M (List PArg) := fun ε => match ε[i]? with
  | some (some _) => mMap (PArg.s i :: ·) pr ε
  | _ => none
def mArgN (pa : M PV) (pr : M (List PArg)) : M (List PArg) := fun ε => match pa ε with
  | none => none
  | some (.ok v, ε') => mMap (PArg.n v :: ·) pr ε'
  | some (.ex e, ε') => some (.ex e, ε')
theorem wL_nil {Q : List D → SD → Prop} (h : wL XD (mPure []) ε S Q) : Q [] S := by
  obtain ⟨εp, fp, o, εp', st, e, k⟩ := h
  cases e
  exact k S fp [] [] st.own ⟨rfl, rfl⟩ (by rw [List.append_nil]; exact st.nd) (by rw [List.append_nil]; exact Nx.refl)
theorem map_inv {p : M α} {f : α → β} {εp εp' : PEnv} {o : Out β} (h : mMap f p εp = some (o, εp')) : (∃ a, o = .ok (f a) ∧ p εp = some (.ok a, εp')) ∨ ∃ e, o = .ex e ∧ p εp = some (.ex e, εp') := by
  unfold mMap mBind at h
  split at h
  · cases h
  · rename_i a ε1 e
    unfold mPure at h
    cases h
    exact .inl ⟨_, rfl, e⟩
  · cases h
    exact .inr ⟨_, rfl, by assumption⟩
theorem wL_map {p : M (List PArg)} {a : PArg} {x : D} {Q : List D → SD → Prop} (hr : ∀ S' as ds fq, ArgR S' ε as ds fq → ArgR S' ε (a :: as) (x :: ds) fq) (h : wL XD (mMap (a :: ·) p) ε S Q) : wL XD p ε S fun ds S1 => Q (x :: ds) S1 := by
  obtain ⟨εp, fp, o, εp', st, e, k⟩ := h
  rcases map_inv e with ⟨as, rfl, e1⟩ | ⟨y, rfl, e1⟩
  · exact ⟨εp, fp, .ok as, εp', st, e1, fun S' fp' fq ds own ar nd n => k S' fp' fq (x :: ds) own (hr S' as ds fq ar) nd n⟩
  · exact ⟨εp, fp, .ex y, εp', st, e1, k⟩
theorem wL_argV {pa : M D} {pr : M (List PArg)} {Q : List D → SD → Prop} (h : wL XD (mArgV pa pr) ε S Q) : dCons (wM XD pa) (wL XD pr) ε S Q :=
  wM_imp (wL_bind h) fun d S1 h => wL_map (a := .v d) (fun S' as ds fq ar => ⟨ds, rfl, ar⟩) h
theorem wL_argS {i : Nat} {pr : M (List PArg)} {Q : List D → SD → Prop} (h : wL XD (mArgS i pr) ε S Q) : dCons (dVar i) (wL XD pr) ε S Q := by
  obtain ⟨εp, fp, o, εp', st, e, k⟩ := h
  unfold mArgS at e
  split at e
  · rename_i p hp
    obtain ⟨d, fq, e1, _⟩ := st.slot hp
    exact ⟨d, e1, wL_map (a := .s i) (fun S' as ds fq ar => ⟨d, ds, rfl, e1, ar⟩) ⟨εp, fp, o, εp', st, e, k⟩⟩
  · cases e
theorem wL_argN {pa : M PV} {pr : M (List PArg)} {Q : List D → SD → Prop} (h : wL XD (mArgN pa pr) ε S Q) : dCons (wO XD pa) (wL XD pr) ε S Q := by
  obtain ⟨εp, fp, o, εp', st, e, k⟩ := h
  unfold mArgN at e
  split at e
  · cases e
  · rename_i v ε1 e1
    refine ⟨εp, fp, .ok v, ε1, st, e1, fun S1 fp1 fq1 d own1 o1 nd1 n1 => ?_⟩
    have dom1 := o1.dom
    rcases map_inv e with ⟨as, rfl, e2⟩ | ⟨y, rfl, e2⟩
    · refine ⟨ε1, fp1, .ok as, εp', ⟨own1, (app_nodup nd1).1⟩, e2, fun S2 fp2 fq2 ds own2 ar nd2 n2 => ?_⟩
      obtain ⟨k1, k2, k3⟩ := Nx.rest nd1 n2 dom1 nd2
      have pm : (fp2 ++ fq2 ++ fq1).Perm (fp2 ++ (fq1 ++ fq2)) := by
        rw [List.append_assoc]
        exact List.Perm.append_left fp2 List.perm_append_comm
      exact k S2 fp2 (fq1 ++ fq2) (d :: ds) own2 ⟨d, ds, fq1, fq2, rfl, rfl, o1.frame v k1, ar⟩ (perm_nodup pm k2) ((n1.trans k3).perm (fun _ => Iff.rfl) fun q hq => pm.symm.mem_iff.mp hq)
    · refine ⟨ε1, fp1, .ex y, εp', ⟨own1, (app_nodup nd1).1⟩, e2, fun S2 fp2 st2 n2 => ?_⟩
      obtain ⟨k1, k2, k3⟩ := Nx.rest nd1 n2 dom1 st2.nd
      exact k S2 fp2 st2 ((n1.trans k3).perm (fun _ => Iff.rfl) fun q hq => List.mem_append_left _ hq)
  · rename_i x ε1 e1
    cases e
    exact ⟨εp, fp, .ex x, _, st, e1, k⟩

def takeA : List PArg → PEnv → Option (List PV × PEnv)
  | [], ε => some ([], ε)
  | .v d :: r, ε => match takeA r ε with
    | some (ps, ε') => some (.val d :: ps, ε')
    | none => none
  | .s i :: r, ε => match ε[i]? with
    | some (some p) => match takeA r (ε.set i none) with
      | some (ps, ε') => some (p :: ps, ε')
      | none => none
    | _ => none
  | .n p :: r, ε => match takeA r ε with
    | some (ps, ε') => some (p :: ps, ε')
    | none => none
def giveA : List PArg → List PV → PEnv → Option PEnv
  | [], [], ε => some ε
  | .v _ :: r, _ :: ps, ε => giveA r ps ε
  | .s i :: r, p :: ps, ε => if i < ε.length then giveA r ps (ε.set i (some p)) else none
  | .n _ :: r, _ :: ps, ε => giveA r ps ε
  | _, _, _ => none
abbrev FM := List PV → Option (Out PV × List PV)
def mCall (m : FM) (pl : M (List PArg)) : M PV := fun ε => match pl ε with
  | none => none
  | some (.ex e, ε1) => some (.ex e, ε1)
  | some (.ok as, ε1) => match takeA as ε1 with
    | none => none
    | some (ps, ε2) => match m ps with
      | none => none
      | some (o, ps') => match giveA as ps' ε2 with
        | none => none
        | some ε3 => some (o, ε3)
theorem take_ok : ∀ {as : List PArg} {ε1 ε2 : PEnv} {ps : List PV} {ds : List D} {fp fq : List Addr}, OwnE S ε1 ε fp → ArgR S ε as ds fq → takeA as ε1 = some (ps, ε2) →
    ∃ f fr, OwnL S ps ds f ∧ OwnE S ε2 ε fr ∧ (fp ++ fq).Perm (f ++ fr)
  | [], ε1, ε2, ps, ds, fp, fq, own, ar, e => by
    obtain ⟨rfl, rfl⟩ := ar
    cases e
    exact ⟨[], fp, ownL_nil, own, by simp⟩
  | .v d :: r, ε1, ε2, ps, ds, fp, fq, own, ar, e => by
    obtain ⟨rd, rfl, ar⟩ := ar
    unfold takeA at e
    split at e
    · rename_i ps' ε' e1
      cases e
      obtain ⟨f, fr, h1, h2, h3⟩ := take_ok own ar e1
      exact ⟨[] ++ f, fr, ownL_cons own_val h1, h2, h3⟩
    · cases e
  | .s i :: r, ε1, ε2, ps, ds, fp, fq, own, ar, e => by
    obtain ⟨d, rd, rfl, hd, ar⟩ := ar
    unfold takeA at e
    split at e
    · rename_i p hp
      split at e
      · rename_i ps' ε' e1
        cases e
        obtain ⟨d', f1, fr1, e2, o1, own1, pm1⟩ := own.take hp
        rw [hd] at e2
        cases e2
        obtain ⟨f, fr, h1, h2, h3⟩ := take_ok own1 ar e1
        refine ⟨f1 ++ f, fr, ownL_cons o1 h1, h2, ?_⟩
        refine (List.Perm.append_right fq pm1).trans ?_
        rw [List.append_assoc, List.append_assoc]
        exact List.Perm.append_left f1 h3
      · cases e
    · cases e
  | .n p :: r, ε1, ε2, ps, ds, fp, fq, own, ar, e => by
    obtain ⟨d, rd, f1, f2, rfl, rfl, o1, ar⟩ := ar
    unfold takeA at e
    split at e
    · rename_i ps' ε' e1
      cases e
      obtain ⟨f, fr, h1, h2, h3⟩ := take_ok own ar e1
      refine ⟨f1 ++ f, fr, ownL_cons o1 h1, h2, ?_⟩
      refine (perm_mid (g1 := f1) (g2 := f2) (List.Perm.refl _)).trans ?_
      rw [List.append_assoc]
      exact List.Perm.append_left f1 h3
    · cases e
theorem give_ok {S' : SD} : ∀ {as : List PArg} {ε2 ε3 : PEnv} {ps : List PV} {ds : List D} {f fr fq : List Addr}, OwnE S' ε2 ε fr → OwnL S' ps ds f → ArgR S ε as ds fq → (f ++ fr).Nodup → giveA as ps ε2 = some ε3 →
    ∃ fp, OwnE S' ε3 ε fp ∧ fp.Nodup ∧ ∀ a ∈ fp, a ∈ f ++ fr
  | [], ε2, ε3, ps, ds, f, fr, fq, own, ol, ar, nd, e => by
    cases ps with
    | nil => cases e; exact ⟨fr, own, (app_nodup nd).2.1, fun a ha => List.mem_append_right _ ha⟩
    | cons p ps => cases e
  | .v d :: r, ε2, ε3, ps, ds, f, fr, fq, own, ol, ar, nd, e => by
    cases ps with
    | nil => cases e
    | cons p ps =>
      obtain ⟨rd, rfl, ar⟩ := ar
      obtain ⟨d', r', f1, f2, e1, rfl, h1, h2⟩ := ol.cons
      cases e1
      rw [List.append_assoc] at nd
      obtain ⟨fp, a1, a2, a3⟩ := give_ok own h2 ar (app_nodup nd).2.1 e
      exact ⟨fp, a1, a2, fun a ha => by rw [List.append_assoc]; exact List.mem_append_right _ (a3 a ha)⟩
  | .n q :: r, ε2, ε3, ps, ds, f, fr, fq, own, ol, ar, nd, e => by
    cases ps with
    | nil => cases e
    | cons p ps =>
      obtain ⟨d0, rd, g1, g2, rfl, rfl, _, ar⟩ := ar
      obtain ⟨d', r', f1, f2, e1, rfl, h1, h2⟩ := ol.cons
      cases e1
      rw [List.append_assoc] at nd
      obtain ⟨fp, a1, a2, a3⟩ := give_ok own h2 ar (app_nodup nd).2.1 e
      exact ⟨fp, a1, a2, fun a ha => by rw [List.append_assoc]; exact List.mem_append_right _ (a3 a ha)⟩
  | .s i :: r, ε2, ε3, ps, ds, f, fr, fq, own, ol, ar, nd, e => by
    cases ps with
    | nil => cases e
    | cons p ps =>
      obtain ⟨d, rd, rfl, hd, ar⟩ := ar
      obtain ⟨d', r', f1, f2, e1, rfl, h1, h2⟩ := ol.cons
      cases e1
      unfold giveA at e
      split at e
      · rename_i hi
        obtain ⟨fr1, own1, sb⟩ := own.drop i
        obtain ⟨fr2, own2, pm⟩ := own1.give (i := i) (by rw [List.getElem?_set_self hi]) hd h1
        rw [List.set_set] at own2
        have nd2 : (f2 ++ fr2).Nodup := by
          have x : (f2 ++ (f1 ++ fr1)).Nodup := by
            have y : (f1 ++ f2 ++ fr1).Nodup := by
              refine List.Nodup.sublist ?_ nd
              exact List.Sublist.append (List.Sublist.refl _) sb
            refine perm_nodup ?_ y
            rw [← List.append_assoc]
            exact List.Perm.append_right fr1 List.perm_append_comm
          exact perm_nodup (List.Perm.append_left f2 pm.symm) x
        obtain ⟨fp, a1, a2, a3⟩ := give_ok own2 h2 ar nd2 e
        refine ⟨fp, a1, a2, fun a ha => ?_⟩
        rcases List.mem_append.mp (a3 a ha) with q | q
        · exact List.mem_append_left _ (List.mem_append_right _ q)
        · rcases List.mem_append.mp (pm.mem_iff.mp q) with q | q
          · exact List.mem_append_left _ (List.mem_append_left _ q)
          · exact List.mem_append_right _ (sb.subset q)
      · cases e
def spF (m : FM) : DSp := fun ds S Q => ∃ ps fp v ps', OwnL S ps ds fp ∧ fp.Nodup ∧ m ps = some (.ok v, ps') ∧
  ∀ S' fp' fq d, OwnL S' ps' ds fp' → Own S' v d fq → (fp' ++ fq).Nodup → Nx S fp S' (fp' ++ fq) → Q d S'
def spP (m : List D → Option D) : DSp := fun ds S Q => ∃ d, m ds = some d ∧ Q d S
def NoX : XT := fun _ _ _ _ _ => False
theorem wO_call {m : FM} {pl : M (List PArg)} {Q : DK} (h : wO NoX (mCall m pl) ε S Q) (hm : ∀ ps o ps', m ps = some (o, ps') → ∃ v, o = .ok v) : dCall (spF m) (wL NoX pl) ε S Q := by
  obtain ⟨εp, fp, o, εp', st, e, k⟩ := h
  unfold mCall at e
  split at e
  · cases e
  · rename_i x ε1 e1
    cases e
    exact ⟨εp, fp, .ex x, _, st, e1, k⟩
  · rename_i as ε1 e1
    split at e
    · cases e
    · rename_i ps ε2 e2
      split at e
      · cases e
      · rename_i o' ps' e3
        split at e
        · cases e
        · rename_i ε3 e4
          cases e
          obtain ⟨v, rfl⟩ := hm _ _ _ e3
          refine ⟨εp, fp, .ok as, ε1, st, e1, fun S1 fp1 fq1 ds own1 ar nd1 n1 => ?_⟩
          obtain ⟨f, fr, ol, own2, pm⟩ := take_ok own1 ar e2
          have nd2 := perm_nodup pm nd1
          refine ⟨ps, f, v, ps', ol, (app_nodup nd2).1, e3, fun S2 f' fq d ol' ov nd3 n3 => ?_⟩
          obtain ⟨k1, k2, k3⟩ := Nx.rest nd2 n3 own2.dom nd3
          have k2' : (fq ++ (f' ++ fr)).Nodup := by
            refine perm_nodup ?_ k2
            rw [← List.append_assoc]
            exact List.Perm.append_right fr List.perm_append_comm
          obtain ⟨nq, n12, dis⟩ := app_nodup k2'
          obtain ⟨fp3, own3, nd4, sub⟩ := give_ok (own2.frame k1) ol' ar n12 e4
          refine k S2 fp3 fq d own3 ov (nodup_app nd4 nq fun a ha hb => dis a hb (sub a ha)) ?_
          refine n1.trans (k3.perm (fun q => pm.symm.mem_iff) fun q hq => ?_)
          rcases List.mem_append.mp hq with hq | hq
          · rcases List.mem_append.mp (sub q hq) with z | z
            · exact List.mem_append_left _ (List.mem_append_left _ z)
            · exact List.mem_append_right _ z
          · exact List.mem_append_left _ (List.mem_append_right _ hq)
def mV (p : M PV) : M D := fun ε => match p ε with
  | none => none
  | some (.ok (.val d), ε') => some (.ok d, ε')
  | some (.ok _, _) => none
  | some (.ex e, ε') => some (.ex e, ε')
theorem wM_V {p : M PV} {Q : DK} (h : wM XD (mV p) ε S Q) : wO XD p ε S Q := by
  obtain ⟨εp, fp, o, εp', st, e, k⟩ := h
  unfold mV at e
  split at e
  · cases e
  · rename_i d ε1 e1
    cases e
    refine ⟨εp, fp, .ok (.val d), _, st, e1, fun S' fp' fq d' own o nd n => ?_⟩
    obtain ⟨rfl, rfl⟩ := o.val
    rw [List.append_nil] at nd n
    exact k S' fp' ⟨own, nd⟩ n
  · cases e
  · rename_i x ε1 e1
    cases e
    exact ⟨εp, fp, .ex x, _, st, e1, k⟩
end
section
variable {X : Cx} {XD : XT} {e : Expr} {es : List Expr} {pa : M D} {pas : M (List D)} {pf : M (List D)} {po : M PV} {pl : M (List PArg)} {pos p : Pos}
theorem fo_new (h : FF X XD e pf) : FO X XD e (mMap .lst pf) := DE_imp (de_new h) fun _ _ _ => wO_lst
theorem fe_V (h : FO X XD e po) : FE X XD e (mV po) := DE_imp h fun _ _ _ => wM_V
theorem fl_nil : FLs X XD [] (mPure []) := DA_imp da_nil fun _ _ _ => wL_nil
theorem fl_v (ha : FE X XD e pa) (hr : FLs X XD es pl) (hs : starEach (e :: es) X.env = (false, eval e X.env) :: starEach es X.env := by rfl) : FLs X XD (e :: es) (mArgV pa pl) := DA_imp (da_cons ha hr hs) fun _ _ _ => wL_argV
theorem fl_s {i : Nat} (ha : DE X e (dVar i)) (hr : FLs X XD es pl) (hs : starEach (e :: es) X.env = (false, eval e X.env) :: starEach es X.env := by rfl) : FLs X XD (e :: es) (mArgS i pl) := DA_imp (da_cons ha hr hs) fun _ _ _ => wL_argS
theorem fl_n (ha : FO X XD e po) (hr : FLs X XD es pl) (hs : starEach (e :: es) X.env = (false, eval e X.env) :: starEach es X.env := by rfl) : FLs X XD (e :: es) (mArgN po pl) := DA_imp (da_cons ha hr hs) fun _ _ _ => wL_argN
variable {k : Nat} {ps : List Str} {x : Str} {m : FM} {mp : List D → Option D}
structure FC (P : Program) (w : World) (K : PySem.W.Frag) (mg : Str → Option Value) (base : Heap) (k : Nat) (x : Str) (ps : List Str) (m : FM) : Prop where
  dc : DC P w K mg base k x ps (spF m)
  ok : ∀ ps o ps', m ps = some (o, ps') → ∃ v, o = .ok v
theorem fo_call (C : FC X.prog X.w X.K X.mg X.base k x ps m) (hr : RoomG k X.A) (hg : Gl X x) (ha : FLs X NoX (e :: es) pl)
    (hdb : (x == ("__debug__" : Str)) = false := by decide) (he : starEach (e :: es) X.env = (false, eval e X.env) :: starEach es X.env := by rfl) (hpl : (backTo pos (starEach es X.env)).any (·.1) = false := by rfl) :
    FO X NoX (.Call (.Name x p) (e :: es) [] pos) (mCall m pl) := by
  obtain ⟨f, fd, F, hm, hk, hb⟩ := C.dc.ex
  exact DE_imp (de_call F hr hg hm hk hb ha hdb he hpl) fun _ _ _ h => wO_call h C.ok
theorem fe_call (C : FC X.prog X.w X.K X.mg X.base k x ps m) (hr : RoomG k X.A) (hg : Gl X x) (ha : FLs X NoX (e :: es) pl)
    (hdb : (x == ("__debug__" : Str)) = false := by decide) (he : starEach (e :: es) X.env = (false, eval e X.env) :: starEach es X.env := by rfl) (hpl : (backTo pos (starEach es X.env)).any (·.1) = false := by rfl) :
    FE X NoX (.Call (.Name x p) (e :: es) [] pos) (mV (mCall m pl)) := fe_V (fo_call C hr hg ha hdb he hpl)
def mCallP (mp : List D → Option D) (pas : M (List D)) : M D := mBind pas fun ds => mLift (mp ds)
theorem fe_callP (C : DC X.prog X.w X.K X.mg X.base k x ps (spP mp)) (hr : RoomG k X.A) (hg : Gl X x) (ha : FA X XD (e :: es) pas)
    (hdb : (x == ("__debug__" : Str)) = false := by decide) (he : starEach (e :: es) X.env = (false, eval e X.env) :: starEach es X.env := by rfl) (hpl : (backTo pos (starEach es X.env)).any (·.1) = false := by rfl) :
    FE X XD (.Call (.Name x p) (e :: es) [] pos) (mCallP mp pas) := by
  obtain ⟨f, fd, F, hm, hk, hb⟩ := C.ex
  exact DE_imp (de_call F hr hg hm hk hb ha hdb he hpl) fun _ _ _ h => wM_imp (wM_bind h) fun _ _ h => wM_lift h
end
end FL

namespace FL
open PySem PySem.Spec PyProof.Rows L2 DL
variable [Amb] [Cbs]

inductive Res where
  | nx
  | bk
  | ct
  | rt (v : PV)
def Agree (ms : List Nat) (ε ε' : ED) : Prop := ∀ i, i ∉ ms → ε'[i]? = ε[i]?
theorem Agree.refl {ms : List Nat} {ε : ED} : Agree ms ε ε := fun _ _ => rfl
theorem Agree.trans {ms : List Nat} {ε ε1 ε2 : ED} (a : Agree ms ε ε1) (b : Agree ms ε1 ε2) : Agree ms ε ε2 := fun i h => (b i h).trans (a i h)
theorem Agree.mono {ms ms' : List Nat} {ε ε1 : ED} (a : Agree ms ε ε1) (h : ∀ i ∈ ms, i ∈ ms') : Agree ms' ε ε1 := fun i hi => a i fun z => hi (h i z)
theorem Agree.left {ms ms' : List Nat} {ε ε1 : ED} (a : Agree ms ε ε1) : Agree (ms ++ ms') ε ε1 := a.mono fun _ h => List.mem_append_left _ h
theorem Agree.right {ms ms' : List Nat} {ε ε1 : ED} (a : Agree ms' ε ε1) : Agree (ms ++ ms') ε ε1 := a.mono fun _ h => List.mem_append_right _ h
theorem agree_set {i : Nat} {ε : ED} {x : Option D} : Agree [i] ε (ε.set i x) := fun j hj => by rw [List.getElem?_set_ne (by simpa [eq_comm] using hj)]
def Fin (XD : XT) (D : DEnds) (S : SD) (fp : List Addr) (εp' : PEnv) (ε' : ED) (S' : SD) (fp' : List Addr) : Out Res → Prop
  | .ok .nx => fp'.Nodup → Nx S fp S' fp' → D.nx ε' S'
  | .ok .bk => fp'.Nodup → Nx S fp S' fp' → D.bk ε' S'
  | .ok .ct => fp'.Nodup → Nx S fp S' fp' → D.ct ε' S'
  | .ok (.rt v) => ∀ fq d, Own S' v d fq → (fp' ++ fq).Nodup → Nx S fp S' (fp' ++ fq) → D.rt d S'
  | .ex e => fp'.Nodup → Nx S fp S' fp' → XD e εp' ε' S' fp'
def wS (XD : XT) (ms : List Nat) (p : M Res) : DTS := fun D ε S => ∃ εp fp o εp', St S εp ε fp ∧ p εp = some (o, εp') ∧
  ∀ S' fp' ε', OwnE S' εp' ε' fp' → Agree ms ε ε' → Fin XD D S fp εp' ε' S' fp' o
abbrev FS (X : Cx) (XD : XT) (st : Stmt) (ms : List Nat) (p : M Res) : Prop := DS X st (wS XD ms p)
abbrev FSs (X : Cx) (XD : XT) (st : List Stmt) (ms : List Nat) (p : M Res) : Prop := DSs X st (wS XD ms p)
theorem Fin.from {XD : XT} {D : DEnds} {S S1 : SD} {fp fp1 : List Addr} {εp' : PEnv} {ε' : ED} {S' : SD} {fp' : List Addr} {o : Out Res} (n : Nx S fp S1 fp1) (h : Fin XD D S fp εp' ε' S' fp' o) : Fin XD D S1 fp1 εp' ε' S' fp' o := by
  cases o with
  | ex e => exact fun nd x => h nd (n.trans x)
  | ok r => cases r with
    | nx => exact fun nd x => h nd (n.trans x)
    | bk => exact fun nd x => h nd (n.trans x)
    | ct => exact fun nd x => h nd (n.trans x)
    | rt v => exact fun fq d ov nd x => h fq d ov nd (n.trans x)

section
variable {XD : XT} {α β : Type} {Dn : DEnds} {ε : ED} {S : SD}
theorem wS_bind {p : M α} {f : α → M Res} {ms : List Nat} (h : wS XD ms (mBind p f) Dn ε S) : wM XD p ε S fun a S1 => wS XD ms (f a) Dn ε S1 := by
  obtain ⟨εp, fp, o, εp', st, e, k⟩ := h
  unfold mBind at e
  split at e
  · cases e
  · rename_i a ε1 e1
    exact ⟨εp, fp, .ok a, ε1, st, e1, fun S1 fp1 st1 n1 => ⟨ε1, fp1, o, εp', st1, e, fun S2 fp2 ε2 own ag => (k S2 fp2 ε2 own ag).from n1⟩⟩
  · rename_i x ε1 e1
    cases e
    exact ⟨εp, fp, .ex x, _, st, e1, fun S1 fp1 st1 n1 => k S1 fp1 ε st1.own Agree.refl st1.nd n1⟩
theorem wS_pure {r : Res} {ms : List Nat} (h : wS XD ms (mPure r) Dn ε S) : ∃ εp fp, St S εp ε fp ∧ Fin XD Dn S fp εp ε S fp (.ok r) := by
  obtain ⟨εp, fp, o, εp', st, e, k⟩ := h
  cases e
  exact ⟨εp, fp, st, k S fp ε st.own Agree.refl⟩
def mSeq (p q : M Res) : M Res := mBind p fun r => match r with
  | .nx => q
  | r => mPure r
theorem wS_seq {p q : M Res} {ms ms' : List Nat} (h : wS XD (ms ++ ms') (mSeq p q) Dn ε S) : dSeq (wS XD ms p) (wS XD ms' q) Dn ε S := by
  obtain ⟨εp, fp, o, εp', st, e, k⟩ := h
  unfold mSeq mBind at e
  split at e
  · cases e
  · rename_i r ε1 e1
    cases r with
    | nx =>
      refine ⟨εp, fp, .ok .nx, ε1, st, e1, fun S1 fp1 ε' own1 ag1 nd1 n1 => ?_⟩
      exact ⟨ε1, fp1, o, εp', ⟨own1, nd1⟩, e, fun S2 fp2 ε2 own2 ag2 => (k S2 fp2 ε2 own2 (ag1.left.trans ag2.right)).from n1⟩
    | bk => cases e; exact ⟨εp, fp, .ok .bk, _, st, e1, fun S1 fp1 ε' own1 ag1 => k S1 fp1 ε' own1 ag1.left⟩
    | ct => cases e; exact ⟨εp, fp, .ok .ct, _, st, e1, fun S1 fp1 ε' own1 ag1 => k S1 fp1 ε' own1 ag1.left⟩
    | rt v => cases e; exact ⟨εp, fp, .ok (.rt v), _, st, e1, fun S1 fp1 ε' own1 ag1 => k S1 fp1 ε' own1 ag1.left⟩
  · rename_i x ε1 e1
    cases e
    exact ⟨εp, fp, .ex x, _, st, e1, fun S1 fp1 ε' own1 ag1 => k S1 fp1 ε' own1 ag1.left⟩
theorem wS_mono {p : M Res} {ms ms' : List Nat} (hm : ∀ i ∈ ms, i ∈ ms') (h : wS XD ms' p Dn ε S) : wS XD ms p Dn ε S := by
  obtain ⟨εp, fp, o, εp', st, e, k⟩ := h
  exact ⟨εp, fp, o, εp', st, e, fun S1 fp1 ε' own1 ag1 => k S1 fp1 ε' own1 (ag1.mono hm)⟩
def mPut (i : Nat) (v : PV) : M Res := fun ε => if i < ε.length then some (.ok .nx, ε.set i (some v)) else none
def mSet (i : Nat) (p : M D) : M Res := mBind p fun d => mPut i (.val d)
theorem wS_set {i : Nat} {p : M D} (h : wS XD [i] (mSet i p) Dn ε S) : dSet i (wM XD p) Dn ε S := wM_imp (wS_bind h) fun d S1 h => by
  obtain ⟨εp, fp, o, εp', st, e, k⟩ := h
  unfold mPut at e
  split at e
  · rename_i hi
    cases e
    obtain ⟨fp', st', sub⟩ := St.assign (d := d) st.own hi own_val (by rw [List.append_nil]; exact st.nd)
    exact k S1 fp' _ st'.own agree_set st'.nd (Nx.sub fun a ha => (sub a ha).elim id fun z => nomatch z)
  · cases e
def mSetO (i : Nat) (p : M PV) : M Res := fun ε => match p ε with
  | none => none
  | some (.ok v, ε') => mPut i v ε'
  | some (.ex e, ε') => some (.ex e, ε')
theorem wS_setO {i : Nat} {p : M PV} (h : wS XD [i] (mSetO i p) Dn ε S) : dSet i (wO XD p) Dn ε S := by
  obtain ⟨εp, fp, o, εp', st, e, k⟩ := h
  unfold mSetO at e
  split at e
  · cases e
  · rename_i v ε1 e1
    refine ⟨εp, fp, .ok v, ε1, st, e1, fun S1 fp1 fq d own1 ov nd n => ?_⟩
    unfold mPut at e
    split at e
    · rename_i hi
      cases e
      obtain ⟨fp', st', sub⟩ := St.assign (d := d) own1 hi ov nd
      exact k S1 fp' _ st'.own agree_set st'.nd (n.trans (Nx.sub fun a ha => List.mem_append.mpr (sub a ha)))
    · cases e
  · rename_i x ε1 e1
    cases e
    exact ⟨εp, fp, .ex x, _, st, e1, fun S1 fp1 st1 n1 => k S1 fp1 ε st1.own Agree.refl st1.nd n1⟩
def mRet (p : M D) : M Res := mMap (fun d => .rt (.val d)) p
theorem wS_ret {p : M D} {ms : List Nat} (h : wS XD ms (mRet p) Dn ε S) : dRet (wM XD p) Dn ε S := wM_imp (wS_bind h) fun d S1 h => by
  obtain ⟨εp, fp, st, k⟩ := wS_pure h
  exact k [] d own_val (by rw [List.append_nil]; exact st.nd) (by rw [List.append_nil]; exact Nx.refl)
def mRetO (p : M PV) : M Res := fun ε => match p ε with
  | none => none
  | some (.ok v, ε') => some (.ok (.rt v), ε')
  | some (.ex e, ε') => some (.ex e, ε')
theorem wS_retO {p : M PV} {ms : List Nat} (h : wS XD ms (mRetO p) Dn ε S) : dRet (wO XD p) Dn ε S := by
  obtain ⟨εp, fp, o, εp', st, e, k⟩ := h
  unfold mRetO at e
  split at e
  · cases e
  · rename_i v ε1 e1
    cases e
    exact ⟨εp, fp, .ok v, _, st, e1, fun S1 fp1 fq d own1 ov nd n => k S1 fp1 ε own1 Agree.refl fq d ov nd n⟩
  · rename_i x ε1 e1
    cases e
    exact ⟨εp, fp, .ex x, _, st, e1, fun S1 fp1 st1 n1 => k S1 fp1 ε st1.own Agree.refl st1.nd n1⟩
def mRetV (i : Nat) : M Res := fun ε => match ε[i]? with
  | some (some p) => some (.ok (.rt p), ε.set i none)
  | _ => none
theorem wS_retV {i : Nat} {ms : List Nat} (h : wS XD ms (mRetV i) Dn ε S) : dRet (dVar i) Dn ε S := by
  obtain ⟨εp, fp, o, εp', st, e, k⟩ := h
  unfold mRetV at e
  split at e
  · rename_i p hp
    cases e
    obtain ⟨d, fq, fr, e1, ov, own, pm⟩ := st.own.take hp
    have pm' : fp.Perm (fr ++ fq) := pm.trans List.perm_append_comm
    exact ⟨d, e1, k S fr ε own Agree.refl fq d ov (perm_nodup pm' st.nd) (Nx.sub fun a ha => pm'.symm.mem_iff.mp ha)⟩
  · cases e
def mDrop (p : M D) : M Res := mMap (fun _ => .nx) p
theorem wS_drop {p : M D} {ms : List Nat} (h : wS XD ms (mDrop p) Dn ε S) : dDrop (wM XD p) Dn ε S := wM_imp (wS_bind h) fun d S1 h => by
  obtain ⟨εp, fp, st, k⟩ := wS_pure h
  exact k st.nd Nx.refl
theorem wS_if {t : M Bool} {p q : M Res} {ms ms' : List Nat} (h : wS XD (ms ++ ms') (mIf t p q) Dn ε S) : dIfS (wM XD t) (wS XD ms p) (wS XD ms' q) Dn ε S := wM_imp (wS_bind h) fun k S1 h => by
  cases k with
  | true => exact wS_mono (fun _ h => List.mem_append_left _ h) h
  | false => exact wS_mono (fun _ h => List.mem_append_right _ h) h

abbrev GM := D → PEnv → Option PEnv
def wG (g : GM) (vs : List Nat) : DTG := fun d ε S Q => ∃ εp fp εp', St S εp ε fp ∧ g d εp = some εp' ∧
  ∀ ε' fp', St S εp' ε' fp' → (∀ a ∈ fp', a ∈ fp) → Agree vs ε ε' → ε'.length = ε.length → Q ε' S
abbrev GsM := List D → PEnv → Option PEnv
def wGs (g : GsM) (vs : List Nat) : DTGs := fun ds ε S Q => ∃ εp fp εp', St S εp ε fp ∧ g ds εp = some εp' ∧
  ∀ ε' fp', St S εp' ε' fp' → (∀ a ∈ fp', a ∈ fp) → Agree vs ε ε' → ε'.length = ε.length → Q ε' S
def gN (i : Nat) : GM := fun d ε => if i < ε.length then some (ε.set i (some (.val d))) else none
def gNil : GsM := fun ds ε => match ds with
  | [] => some ε
  | _ => none
def gCons (g : GM) (h : GsM) : GsM := fun ds ε => match ds with
  | d :: r => match g d ε with
    | some ε' => h r ε'
    | none => none
  | [] => none
def gTup (n : Nat) (h : GsM) : GM := fun d ε => match d with
  | .tup ds => if ds.length = n then h ds ε else none
  | _ => none
theorem wG_N {i : Nat} {d : D} {Q : ED → SD → Prop} (h : wG (gN i) [i] d ε S Q) : dgN i d ε S Q := by
  obtain ⟨εp, fp, εp', st, e, k⟩ := h
  unfold gN at e
  split at e
  · rename_i hi
    cases e
    obtain ⟨fp', st', sub⟩ := St.assign (d := d) st.own hi own_val (by rw [List.append_nil]; exact st.nd)
    exact k _ fp' st' (fun a ha => (sub a ha).elim id fun z => nomatch z) agree_set (by rw [List.length_set])
  · cases e
theorem wG_Nil {ds : List D} {Q : ED → SD → Prop} (h : wGs gNil [] ds ε S Q) : dgNil ds ε S Q := by
  obtain ⟨εp, fp, εp', st, e, k⟩ := h
  unfold gNil at e
  split at e
  · cases e
    exact ⟨rfl, k ε fp st (fun _ h => h) Agree.refl rfl⟩
  · cases e
theorem wG_Cons {g : GM} {u : GsM} {vs ws : List Nat} {ds : List D} {Q : ED → SD → Prop} (h : wGs (gCons g u) (vs ++ ws) ds ε S Q) : dgCons (wG g vs) (wGs u ws) ds ε S Q := by
  obtain ⟨εp, fp, εp', st, e, k⟩ := h
  unfold gCons at e
  split at e
  · rename_i d r
    split at e
    · rename_i ε1 e1
      refine ⟨d, r, rfl, εp, fp, ε1, st, e1, fun ε2 fp2 st2 sub2 ag2 l2 => ⟨ε1, fp2, εp', st2, e, fun ε3 fp3 st3 sub3 ag3 l3 => ?_⟩⟩
      exact k ε3 fp3 st3 (fun a ha => sub2 a (sub3 a ha)) (ag2.left.trans ag3.right) (l3.trans l2)
    · cases e
  · cases e
theorem wG_Tup {n : Nat} {u : GsM} {vs : List Nat} {d : D} {Q : ED → SD → Prop} (h : wG (gTup n u) vs d ε S Q) : dgTup n (wGs u vs) d ε S Q := by
  obtain ⟨εp, fp, εp', st, e, k⟩ := h
  unfold gTup at e
  split at e
  · rename_i ds
    split at e
    · exact ⟨ds, rfl, by assumption, εp, fp, εp', st, e, k⟩
    · cases e
  · cases e
def mAsg (p : M D) (g : GM) : M Res := mBind p fun d => fun ε => match g d ε with
  | some ε' => some (.ok .nx, ε')
  | none => none
def mLoop (c : PEnv → Bool) (g : GM) (b : M Res) : List DL.D → M Res
  | [] => fun ε => if c ε = true then some (.ok .nx, ε) else none
  | x :: xs => fun ε => if c ε = true then match g x ε with
    | none => none
    | some ε1 => match b ε1 with
      | none => none
      | some (.ok .nx, ε2) => mLoop c g b xs ε2
      | some (.ok .ct, ε2) => mLoop c g b xs ε2
      | some (.ok .bk, ε2) => some (.ok .nx, ε2)
      | some (.ok (.rt v), ε2) => some (.ok (.rt v), ε2)
      | some (.ex e, ε2) => some (.ex e, ε2)
    else none
def wI (XD : XT) (ms : List Nat) (p : M (List DL.D)) (c : List DL.D → PEnv → Bool) : DTI := fun ε S R => ∃ εp fp o εp', St S εp ε fp ∧ p εp = some (o, εp') ∧
  ∀ S' fp', St S' εp' ε fp' → Nx S fp S' fp' → match o with
    | .ok ds => ∀ chk : SD → Prop, (∀ S2 εp2 ε2 fp2, St S2 εp2 ε2 fp2 → Nx S' fp' S2 fp2 → Agree ms ε ε2 → c ds εp2 = true → chk S2) → R ds chk S'
    | .ex e => XD e εp' ε S' fp'
theorem loop_ok {c : PEnv → Bool} {g : GM} {b : M Res} {vs ms : List Nat} {chk : SD → Prop} {S1 : SD} {fp1 : List Addr} {ε1 : ED}
    (hc : ∀ S2 εp2 ε2 fp2, St S2 εp2 ε2 fp2 → Nx S1 fp1 S2 fp2 → Agree (vs ++ ms) ε1 ε2 → c εp2 = true → chk S2) :
    ∀ (ds : List DL.D) (εp : PEnv) (fp : List Addr) (ε : ED) (S : SD) (o : Out Res) (εp' : PEnv), St S εp ε fp → Nx S1 fp1 S fp → Agree (vs ++ ms) ε1 ε → mLoop c g b ds εp = some (o, εp') →
      (∀ S' fp' ε', OwnE S' εp' ε' fp' → Agree (vs ++ ms) ε ε' → Fin XD Dn S fp εp' ε' S' fp' o) → forL chk (fun x D ε S => wG g vs x ε S (wS XD ms b D)) ds Dn ε S
  | [], εp, fp, ε, S, o, εp', st, n, ag, e, k => by
    unfold mLoop at e
    split at e
    · rename_i h
      cases e
      exact ⟨hc S εp ε fp st n ag h, k S fp ε st.own Agree.refl st.nd Nx.refl⟩
    · cases e
  | x :: xs, εp, fp, ε, S, o, εp', st, n, ag, e, k => by
    unfold mLoop at e
    split at e
    · rename_i h
      refine ⟨hc S εp ε fp st n ag h, ?_⟩
      split at e
      · cases e
      · rename_i ε2 e2
        refine ⟨εp, fp, ε2, st, e2, fun ε' fp' st' sub ag' _ => ?_⟩
        have n' : Nx S fp S fp' := Nx.sub sub
        split at e
        · cases e
        · rename_i ε3 e3
          refine ⟨ε2, fp', _, ε3, st', e3, fun S4 fp4 ε4 own4 ag4 nd4 n4 => ?_⟩
          exact loop_ok hc xs ε3 fp4 ε4 S4 o εp' ⟨own4, nd4⟩ (n.trans (n'.trans n4)) (ag.trans (ag'.left.trans ag4.right)) e fun S5 fp5 ε5 own5 ag5 => (k S5 fp5 ε5 own5 ((ag'.left.trans ag4.right).trans ag5)).from (n'.trans n4)
        · rename_i ε3 e3
          refine ⟨ε2, fp', _, ε3, st', e3, fun S4 fp4 ε4 own4 ag4 nd4 n4 => ?_⟩
          exact loop_ok hc xs ε3 fp4 ε4 S4 o εp' ⟨own4, nd4⟩ (n.trans (n'.trans n4)) (ag.trans (ag'.left.trans ag4.right)) e fun S5 fp5 ε5 own5 ag5 => (k S5 fp5 ε5 own5 ((ag'.left.trans ag4.right).trans ag5)).from (n'.trans n4)
        · rename_i ε3 e3
          cases e
          exact ⟨ε2, fp', _, _, st', e3, fun S4 fp4 ε4 own4 ag4 nd4 n4 => k S4 fp4 ε4 own4 (ag'.left.trans ag4.right) nd4 (n'.trans n4)⟩
        · rename_i v ε3 e3
          cases e
          exact ⟨ε2, fp', _, _, st', e3, fun S4 fp4 ε4 own4 ag4 fq d ov nd4 n4 => k S4 fp4 ε4 own4 (ag'.left.trans ag4.right) fq d ov nd4 (n'.trans n4)⟩
        · rename_i y ε3 e3
          cases e
          exact ⟨ε2, fp', _, _, st', e3, fun S4 fp4 ε4 own4 ag4 nd4 n4 => k S4 fp4 ε4 own4 (ag'.left.trans ag4.right) nd4 (n'.trans n4)⟩
    · cases e
def mFor (p : M (List DL.D)) (c : List DL.D → PEnv → Bool) (g : GM) (b : M Res) : M Res := mBind p fun ds => mLoop (c ds) g b ds
theorem wS_for {p : M (List DL.D)} {c : List DL.D → PEnv → Bool} {g : GM} {b : M Res} {vs ms : List Nat} (h : wS XD (vs ++ ms) (mFor p c g b) Dn ε S) : dFor (wI XD (vs ++ ms) p c) (wG g vs) (wS XD ms b) Dn ε S := by
  obtain ⟨εp, fp, o, εp', st, e, k⟩ := h
  unfold mFor mBind at e
  split at e
  · cases e
  · rename_i ds ε1 e1
    refine ⟨εp, fp, .ok ds, ε1, st, e1, fun S1 fp1 st1 n1 chk hchk => ?_⟩
    exact loop_ok hchk ds ε1 fp1 ε S1 o εp' st1 Nx.refl Agree.refl e fun S' fp' ε' own ag => (k S' fp' ε' own ag).from n1
  · rename_i x ε1 e1
    cases e
    exact ⟨εp, fp, .ex x, _, st, e1, fun S1 fp1 st1 n1 => k S1 fp1 ε st1.own Agree.refl st1.nd n1⟩
def mWhile (t : M Bool) (b : M Res) : Nat → M Res
  | 0 => fun _ => none
  | n + 1 => mBind t fun k => if k = true then (fun ε => match b ε with
    | none => none
    | some (.ok .nx, ε2) => mWhile t b n ε2
    | some (.ok .ct, ε2) => mWhile t b n ε2
    | some (.ok .bk, ε2) => some (.ok .nx, ε2)
    | some (.ok (.rt v), ε2) => some (.ok (.rt v), ε2)
    | some (.ex e, ε2) => some (.ex e, ε2)) else mPure .nx
theorem wS_while {t : M Bool} {b : M Res} {ms : List Nat} : ∀ (n : Nat) (ε : ED) (S : SD), wS XD ms (mWhile t b n) Dn ε S → whileN (wM XD t) (wS XD ms b) n Dn ε S
  | 0, ε, S, ⟨εp, fp, o, εp', st, e, k⟩ => nomatch e
  | n + 1, ε, S, h => wM_imp (wS_bind h) fun c S1 h => by
    cases c with
    | false =>
      obtain ⟨εp, fp, st, k⟩ := wS_pure h
      exact k st.nd Nx.refl
    | true =>
      obtain ⟨εp, fp, o, εp', st, e, k⟩ := h
      rw [if_pos rfl] at e
      split at e
      · cases e
      · rename_i ε3 e3
        exact ⟨εp, fp, _, ε3, st, e3, fun S4 fp4 ε4 own4 ag4 nd4 n4 => wS_while n ε4 S4 ⟨ε3, fp4, o, εp', ⟨own4, nd4⟩, e, fun S5 fp5 ε5 own5 ag5 => (k S5 fp5 ε5 own5 (ag4.trans ag5)).from n4⟩⟩
      · rename_i ε3 e3
        exact ⟨εp, fp, _, ε3, st, e3, fun S4 fp4 ε4 own4 ag4 nd4 n4 => wS_while n ε4 S4 ⟨ε3, fp4, o, εp', ⟨own4, nd4⟩, e, fun S5 fp5 ε5 own5 ag5 => (k S5 fp5 ε5 own5 (ag4.trans ag5)).from n4⟩⟩
      · rename_i ε3 e3
        cases e
        exact ⟨εp, fp, _, _, st, e3, k⟩
      · rename_i v ε3 e3
        cases e
        exact ⟨εp, fp, _, _, st, e3, k⟩
      · rename_i y ε3 e3
        cases e
        exact ⟨εp, fp, _, _, st, e3, k⟩
end
end FL

namespace FL
open PySem PySem.Spec PyProof.Rows L2 DL
variable [Amb] [Cbs]

mutual
def sameD : D → D → Bool
  | .non, .non => true
  | .bl a, .bl b => a == b
  | .int a, .int b => a == b
  | .str a, .str b => decide (a = b)
  | .ty a, .ty b => a == b
  | .ref a, .ref b => a == b
  | .tup a, .tup b => sameL a b
  | .ilst a, .ilst b => sameL a b
  | .fdic a b, .fdic c d => decide (a = c) && sameL b d
  | _, _ => false
def sameL : List D → List D → Bool
  | [], [] => true
  | a :: as, b :: bs => sameD a b && sameL as bs
  | _, _ => false
end
mutual
theorem same_eq : ∀ {a b : D}, sameD a b = true → a = b
  | .non, b, h => by cases b <;> simp_all [sameD]
  | .bl x, b, h => by cases b <;> simp_all [sameD]
  | .int x, b, h => by cases b <;> simp_all [sameD]
  | .str x, b, h => by cases b <;> simp_all [sameD]
  | .ty x, b, h => by cases b <;> simp_all [sameD]
  | .ref x, b, h => by cases b <;> simp_all [sameD]
  | .tup x, .tup y, h => by rw [sameL_eq (show sameL x y = true by simpa [sameD] using h)]
  | .ilst x, .ilst y, h => by rw [sameL_eq (show sameL x y = true by simpa [sameD] using h)]
  | .fdic a b, .fdic c d, h => by
    have h' : a = c ∧ sameL b d = true := by simpa [sameD] using h
    rw [h'.1, sameL_eq h'.2]
  | .fdic _ _, .non, h => by simp [sameD] at h
  | .fdic _ _, .bl _, h => by simp [sameD] at h
  | .fdic _ _, .int _, h => by simp [sameD] at h
  | .fdic _ _, .str _, h => by simp [sameD] at h
  | .fdic _ _, .ty _, h => by simp [sameD] at h
  | .fdic _ _, .ref _, h => by simp [sameD] at h
  | .fdic _ _, .tup _, h => by simp [sameD] at h
  | .fdic _ _, .ilst _, h => by simp [sameD] at h
  | .tup x, .fdic _ _, h => by simp [sameD] at h
  | .ilst x, .fdic _ _, h => by simp [sameD] at h
  | .tup x, .non, h => by simp [sameD] at h
  | .tup x, .bl _, h => by simp [sameD] at h
  | .tup x, .int _, h => by simp [sameD] at h
  | .tup x, .str _, h => by simp [sameD] at h
  | .tup x, .ty _, h => by simp [sameD] at h
  | .tup x, .ref _, h => by simp [sameD] at h
  | .tup x, .ilst _, h => by simp [sameD] at h
  | .ilst x, .non, h => by simp [sameD] at h
  | .ilst x, .bl _, h => by simp [sameD] at h
  | .ilst x, .int _, h => by simp [sameD] at h
  | .ilst x, .str _, h => by simp [sameD] at h
  | .ilst x, .ty _, h => by simp [sameD] at h
  | .ilst x, .ref _, h => by simp [sameD] at h
  | .ilst x, .tup _, h => by simp [sameD] at h
theorem sameL_eq : ∀ {a b : List D}, sameL a b = true → a = b
  | [], [], h => rfl
  | [], _ :: _, h => by simp [sameL] at h
  | _ :: _, [], h => by simp [sameL] at h
  | x :: xs, y :: ys, h => by
    simp only [sameL, Bool.and_eq_true] at h
    rw [same_eq h.1, sameL_eq h.2]
end
mutual
theorem same_refl : ∀ a : D, sameD a a = true
  | .non => rfl
  | .bl x => by simp [sameD]
  | .int x => by simp [sameD]
  | .str x => by simp [sameD]
  | .ty x => by simp [sameD]
  | .ref x => by simp [sameD]
  | .tup x => by simp only [sameD]; exact sameL_refl x
  | .ilst x => by simp only [sameD]; exact sameL_refl x
  | .fdic a b => by simp [sameD, sameL_refl b]
theorem sameL_refl : ∀ a : List D, sameL a a = true
  | [] => rfl
  | x :: xs => by simp only [sameL, same_refl x, sameL_refl xs, Bool.and_self]
end

def cYes : List D → PEnv → Bool := fun _ _ => true
def cSlot (i : Nat) : List D → PEnv → Bool := fun ds ε => match ε[i]? with
  | some (some (.lst es)) => sameL ds es
  | _ => false
section
variable {XD : XT} {α : Type} {ε : ED} {S : SD} {ms : List Nat} {c : List D → PEnv → Bool} {R : List D → (SD → Prop) → SD → Prop}
theorem wI_bind {p : M α} {f : α → M (List D)} (h : wI XD ms (mBind p f) c ε S R) : wM XD p ε S fun a S1 => wI XD ms (f a) c ε S1 R := by
  obtain ⟨εp, fp, o, εp', st, e, k⟩ := h
  unfold mBind at e
  split at e
  · cases e
  · rename_i a ε1 e1
    refine ⟨εp, fp, .ok a, ε1, st, e1, fun S1 fp1 st1 n1 => ⟨ε1, fp1, o, εp', st1, e, fun S2 fp2 st2 n2 => ?_⟩⟩
    exact k S2 fp2 st2 (n1.trans n2)
  · rename_i x ε1 e1
    cases e
    exact ⟨εp, fp, .ex x, _, st, e1, k⟩
theorem wI_lift {o : Option (List D)} (h : wI XD ms (mLift o) c ε S R) : ∃ ds, o = some ds ∧ R ds Yes S := by
  obtain ⟨εp, fp, x, εp', st, e, k⟩ := h
  unfold mLift at e
  split at e
  · cases e
  · cases e
    exact ⟨_, rfl, k S fp st Nx.refl Yes fun _ _ _ _ _ _ _ _ => trivial⟩
theorem wI_list {p : M (List D)} (h : wI XD ms p c ε S R) : wM XD p ε S fun ds S1 => R ds Yes S1 := by
  obtain ⟨εp, fp, x, εp', st, e, k⟩ := h
  refine ⟨εp, fp, x, εp', st, e, fun S1 fp1 st1 n1 => ?_⟩
  have := k S1 fp1 st1 n1
  cases x with
  | ok ds => exact this Yes fun _ _ _ _ _ _ _ _ => trivial
  | ex y => exact this
theorem wI_slot {i : Nat} (hi : i ∉ ms) (h : wI XD ms (mGetL i) (cSlot i) ε S R) : ∃ a ds, ε[i]? = some (some (.ref a)) ∧ S a = some (.lst ds) ∧ R ds (fun S2 => S2 a = some (.lst ds)) S := by
  obtain ⟨εp, fp, o, εp', st, e, k⟩ := h
  unfold mGetL at e
  split at e
  · rename_i ds hd
    cases e
    obtain ⟨d', fq, e1, ow, _⟩ := st.slot hd
    obtain ⟨a, rfl, rfl, ha⟩ := ow.lst
    refine ⟨a, ds, e1, ha, k S fp st Nx.refl _ fun S2 εp2 ε2 fp2 st2 _ ag hc => ?_⟩
    unfold cSlot at hc
    split at hc
    · rename_i es he
      cases sameL_eq hc
      obtain ⟨d2, fq2, e2, ow2, _⟩ := st2.slot he
      obtain ⟨b, rfl, rfl, hb⟩ := ow2.lst
      have e3 := ag i hi
      rw [e2, e1] at e3
      cases e3
      exact hb
    · cases hc
  · cases e
end
section
variable {X : Cx} {XD : XT} {a b e l tg : Expr} {es : List Expr} {pa : M D} {pas : M (List D)} {pf : M (List D)} {po : M PV} {pos p : Pos} {ms : List Nat}
abbrev FI (X : Cx) (XD : XT) (tg iter : Expr) (ms : List Nat) (p : M (List D)) (c : List D → PEnv → Bool) : Prop := DI X tg iter (wI XD ms p c)
theorem DI_imp {t t' : DTI} (h : DI X tg l t) (i : ∀ ε S R, t' ε S R → t ε S R) : DI X tg l t' :=
  PI_imp h fun σ H R ⟨ε, S, R0, rE, rS, q, k⟩ => ⟨ε, S, R0, rE, rS, i _ _ _ q, k⟩
def mItT (pa : M D) : M (List D) := mBind pa fun x => mLift (toT x)
theorem fi_tup (hl : FE X XD l pa) : FI X XD tg l ms (mItT pa) cYes := DI_imp (di_tup hl) fun ε S R h => wM_imp (wI_bind h) fun x S1 h => by
  obtain ⟨ds, e, h⟩ := wI_lift h
  exact ⟨ds, toT_eq e, h⟩
theorem fi_new (hl : FF X XD l pf) : FI X XD tg l ms pf cYes := DI_imp (di_new hl) fun ε S R h => wI_list h
theorem fi_slot {i : Nat} (hl : DE X l (dVar i)) (hi : i ∉ ms := by decide) : FI X XD tg l ms (mGetL i) (cSlot i) := DI_imp (di_list hl) fun ε S R h => by
  obtain ⟨a, ds, e1, e2, h⟩ := wI_slot hi h
  exact ⟨.ref a, e1, ds, .inr ⟨a, rfl, e2, h⟩⟩
def mItO (po : M PV) : M (List D) := fun ε => match po ε with
  | none => none
  | some (.ok (.lst ds), ε') => some (.ok ds, ε')
  | some (.ok _, _) => none
  | some (.ex e, ε') => some (.ex e, ε')
theorem fi_own (hl : FO X XD l po) : FI X XD tg l ms (mItO po) cYes := DI_imp (di_list hl) fun ε S R h => by
  obtain ⟨εp, fp, o, εp', st, e, k⟩ := h
  unfold mItO at e
  split at e
  · cases e
  · rename_i ds ε1 e1
    cases e
    refine ⟨εp, fp, .ok (.lst ds), _, st, e1, fun S1 fp1 fq d own ov nd n => ?_⟩
    obtain ⟨q, rfl, rfl, hq⟩ := ov.lst
    have n' : Nx S fp S1 fp1 := n.perm (fun _ => Iff.rfl) fun x hx => List.mem_append_left _ hx
    refine ⟨ds, .inr ⟨q, rfl, hq, k S1 fp1 ⟨own, (app_nodup nd).1⟩ n' _ fun S2 εp2 ε2 fp2 _ n2 _ _ => ?_⟩⟩
    exact n2.ext q _ (fun z => (app_nodup nd).2.2 q z (by simp)) hq
  · cases e
  · rename_i x ε1 e1
    cases e
    exact ⟨εp, fp, .ex x, _, st, e1, k⟩
def rng : List D → Option (List D)
  | [.int j] => if -(2 ^ 62) ≤ j ∧ j < 2 ^ 62 then some (intsFrom 0 j.toNat) else none
  | [.int i, .int j] => if -(2 ^ 62) ≤ i ∧ i < 2 ^ 62 ∧ -(2 ^ 62) ≤ j ∧ j < 2 ^ 62 then some (intsFrom i (j - i).toNat) else none
  | _ => none
def mRng (pas : M (List D)) : M (List D) := mBind pas fun ds => mLift (rng ds)
def rng1 : List D → Option (List D)
  | [.int j] => if -(2 ^ 62) ≤ j ∧ j < 2 ^ 62 then some (intsFrom 0 j.toNat) else none
  | _ => none
def rng2 : List D → Option (List D)
  | [.int i, .int j] => if -(2 ^ 62) ≤ i ∧ i < 2 ^ 62 ∧ -(2 ^ 62) ≤ j ∧ j < 2 ^ 62 then some (intsFrom i (j - i).toNat) else none
  | _ => none
def mRng1 (pas : M (List D)) : M (List D) := mBind pas fun ds => mLift (rng1 ds)
def mRng2 (pas : M (List D)) : M (List D) := mBind pas fun ds => mLift (rng2 ds)
theorem fi_range1 (hg : Gl X "range") (hm : X.mg "range" = none) (ha : FA X XD [a] pas) (hs : starEach [a] X.env = [(false, eval a X.env)] := by rfl) : FI X XD tg (.Call (.Name "range" p) [a] [] pos) ms (mRng1 pas) cYes :=
  DI_imp (di_range1 hg hm ha hs) fun ε S R h => wM_imp (wI_bind h) fun ds S1 h => by
    obtain ⟨xs, e, h⟩ := wI_lift h
    unfold rng1 at e
    split at e
    · split at e
      · rename_i hc
        cases e
        exact ⟨_, rfl, hc.1, hc.2, h⟩
      · cases e
    · cases e
def enumT : List D → Option (List D)
  | [.tup ds] => some (pairsFrom 0 ds)
  | _ => none
def mEnT (pas : M (List D)) : M (List D) := mBind pas fun ds => mLift (enumT ds)
theorem fi_enT {tpos : Pos} {elts : List Expr} {kk : Nat} (hg : Gl X "enumerate") (hm : X.mg "enumerate" = none) (ha : FA X XD [e] pas) (hs : starEach [e] X.env = [(false, eval e X.env)] := by rfl) :
    FI X XD (.Tuple elts kk tpos) (.Call (.Name "enumerate" p) [e] [] pos) ms (mEnT pas) cYes :=
  DI_imp (di_enT hg hm ha hs) fun ε S R h => wM_imp (wI_bind h) fun ds S1 h => by
    obtain ⟨xs, e, h⟩ := wI_lift h
    unfold enumT at e
    split at e
    · cases e
      exact ⟨_, rfl, h⟩
    · cases e
def mEnL (i : Nat) : M (List D) := mBind (mGetL i) fun ds => mPure (pairsFrom 0 ds)
end

def wipeP (ε : PEnv) : List Nat → PEnv
  | [] => ε
  | v :: vs => (wipeP ε vs).set v none
def keepV (ε0 : PEnv) (v : Nat) : Option PV := match ε0[v]? with
  | some (some (.val d)) => some (.val d)
  | _ => none
def restore (ε0 ε1 : PEnv) : List Nat → PEnv
  | [] => ε1
  | v :: vs => (restore ε0 ε1 vs).set v (keepV ε0 v)
def mLcL (c : PEnv → Bool) (g : GM) (tt : M Bool) (te : M D) (vs : List Nat) : List D → List D → M (List D)
  | [], acc => fun ε => if c ε = true then some (.ok acc, ε) else none
  | x :: xs, acc => fun ε => if c ε = true then match g x (wipeP ε vs) with
    | none => none
    | some ε1 => match tt ε1 with
      | some (.ok true, ε2) => match te ε2 with
        | some (.ok y, ε3) => mLcL c g tt te vs xs (acc ++ [y]) (restore ε ε3 vs)
        | _ => none
      | some (.ok false, ε2) => mLcL c g tt te vs xs acc (restore ε ε2 vs)
      | _ => none
    else none
def mLc (p : M (List D)) (c : List D → PEnv → Bool) (g : GM) (tt : M Bool) (te : M D) (vs : List Nat) : M (List D) :=
  mBind p fun ds => if ds.length ≤ 1000000 then mLcL (c ds) g tt te vs ds [] else fun _ => none
section
variable {S : SD} {ε : ED}
theorem wipe_ok {εp : PEnv} {fp : List Addr} (h : OwnE S εp ε fp) (n : fp.Nodup) : ∀ vs, ∃ fp', OwnE S (wipeP εp vs) (wipeD ε vs) fp' ∧ fp'.Nodup ∧ ∀ a ∈ fp', a ∈ fp
  | [] => ⟨fp, h, n, fun _ h => h⟩
  | v :: vs => by
    obtain ⟨f1, h1, n1, s1⟩ := wipe_ok h n vs
    obtain ⟨f2, h2, sb⟩ := h1.drop v
    refine ⟨f2, ?_, sb.nodup n1, fun a ha => s1 a (sb.subset ha)⟩
    by_cases hv : v < (wipeP εp vs).length
    · exact h2.real none (by rw [List.getElem?_set_self hv])
    · have e1 : (wipeD ε vs).length = (wipeP εp vs).length := h1.length
      show OwnE S ((wipeP εp vs).set v none) ((wipeD ε vs).set v none) f2
      rw [List.set_eq_of_length_le (l := wipeD ε vs) (by omega)]
      exact h2
theorem wipeD_len : ∀ vs, (wipeD ε vs).length = ε.length
  | [] => rfl
  | v :: vs => by
    show ((wipeD ε vs).set v none).length = _
    rw [List.length_set, wipeD_len vs]
theorem wipeD_agree : ∀ vs, Agree vs ε (wipeD ε vs)
  | [] => Agree.refl
  | v :: vs => fun i hi => by
    show ((wipeD ε vs).set v none)[i]? = _
    rw [List.getElem?_set_ne (by rintro rfl; exact hi List.mem_cons_self), wipeD_agree vs i fun z => hi (List.mem_cons_of_mem _ z)]
theorem restore_ok {ε0 : PEnv} (hk : ∀ (v : Nat) (d : D), keepV ε0 v = some (.val d) → ε[v]? = some (some d)) : ∀ (vs : List Nat) {εp : PEnv} {ε' : ED} {fp : List Addr}, OwnE S εp ε' fp → fp.Nodup → ε'.length = ε.length →
    ∃ ε'' fp', OwnE S (restore ε0 εp vs) ε'' fp' ∧ fp'.Nodup ∧ (∀ a ∈ fp', a ∈ fp) ∧ ε''.length = ε.length ∧ ∀ i, ε''[i]? = if i ∈ vs then ε[i]? else ε'[i]?
  | [], εp, ε', fp, h, n, hl => ⟨ε', fp, h, n, fun _ h => h, hl, fun i => by simp⟩
  | v :: vs, εp, ε', fp, h, n, hl => by
    obtain ⟨e2, f1, h1, n1, s1, l1, g1⟩ := restore_ok hk vs h n hl
    obtain ⟨f2, h2, sb⟩ := h1.drop v
    have hlen := h1.length
    by_cases hv : v < ε.length
    · obtain ⟨x, hx⟩ : ∃ x, ε[v]? = some x := ⟨_, List.getElem?_eq_getElem hv⟩
      have hvp : v < (restore ε0 εp vs).length := by omega
      have h3 := h2.real x (by rw [List.getElem?_set_self hvp])
      have key : ∀ i, (e2.set v x)[i]? = if i ∈ v :: vs then ε[i]? else ε'[i]? := fun i => by
        by_cases e : v = i
        · subst e
          rw [List.getElem?_set_self (by omega), if_pos List.mem_cons_self, hx]
        · rw [List.getElem?_set_ne e, g1 i]
          have : (i ∈ v :: vs) ↔ i ∈ vs := by
            rw [List.mem_cons]
            exact ⟨fun z => z.resolve_left fun q => e q.symm, .inr⟩
          simp only [this]
      cases hkv : keepV ε0 v with
      | none =>
        refine ⟨e2.set v x, f2, ?_, sb.nodup n1, fun a ha => s1 a (sb.subset ha), by rw [List.length_set, l1], key⟩
        show OwnE S ((restore ε0 εp vs).set v (keepV ε0 v)) _ f2
        rw [hkv]
        exact h3
      | some q =>
        obtain ⟨d, rfl⟩ : ∃ d, q = .val d := by
          unfold keepV at hkv
          split at hkv
          · cases hkv; exact ⟨_, rfl⟩
          · cases hkv
        have hx2 := hk v d hkv
        rw [hx] at hx2
        cases hx2
        obtain ⟨f3, h4, pm⟩ := h3.give (i := v) (by rw [List.getElem?_set_self hvp]) (by rw [List.getElem?_set_self (by omega)]) (own_val (d := d))
        rw [List.set_set] at h4
        refine ⟨e2.set v (some d), f3, ?_, perm_nodup pm.symm (sb.nodup n1), fun a ha => s1 a (sb.subset (pm.mem_iff.mp ha)), by rw [List.length_set, l1], key⟩
        show OwnE S ((restore ε0 εp vs).set v (keepV ε0 v)) _ f3
        rw [hkv]
        exact h4
    · refine ⟨e2, f1, ?_, n1, s1, l1, fun i => ?_⟩
      · show OwnE S ((restore ε0 εp vs).set v (keepV ε0 v)) e2 f1
        rw [List.set_eq_of_length_le (by omega)]
        exact h1
      · rw [g1 i]
        by_cases e : v = i
        · subst e
          rw [if_pos List.mem_cons_self]
          split
          · rfl
          · rw [List.getElem?_eq_none (by omega), List.getElem?_eq_none (by omega)]
        · have : (i ∈ v :: vs) ↔ i ∈ vs := by
            rw [List.mem_cons]
            exact ⟨fun z => z.resolve_left fun q => e q.symm, .inr⟩
          simp only [this]
theorem restore_st {ε0 εp : PEnv} {S0 : SD} {fp0 fp : List Addr} {vs : List Nat} {ε' : ED} (st0 : St S0 ε0 ε fp0) (st : St S εp ε' fp) (hl : ε'.length = ε.length) (ag : Agree vs ε ε') :
    ∃ fp', St S (restore ε0 εp vs) ε fp' ∧ ∀ a ∈ fp', a ∈ fp := by
  have hk : ∀ (v : Nat) (d : D), keepV ε0 v = some (.val d) → ε[v]? = some (some d) := fun v d h => by
    unfold keepV at h
    split at h
    · rename_i d' hd
      cases h
      obtain ⟨x, fq, e1, ov, _⟩ := st0.slot hd
      cases ov.val.1
      exact e1
    · cases h
  obtain ⟨e2, fp', h1, n1, s1, l1, g1⟩ := restore_ok hk vs st.own st.nd hl
  have : e2 = ε := List.ext_getElem? fun i => by
    rw [g1 i]
    split
    · rfl
    · exact ag i (by assumption)
  subst this
  exact ⟨fp', ⟨h1, n1⟩, s1⟩
end
section
variable {XD : XT}
theorem lc_ok {c : PEnv → Bool} {g : GM} {tt : M Bool} {te : M D} {vs ws : List Nat} (hw : ∀ i ∈ ws, i ∈ vs) {chk : SD → Prop} {S1 : SD} {fp1 : List Addr} {ε : ED} {Q : List D → SD → Prop}
    (hc : ∀ S2 εp2 ε2 fp2, St S2 εp2 ε2 fp2 → Nx S1 fp1 S2 fp2 → Agree [] ε ε2 → c εp2 = true → chk S2) :
    ∀ (ds acc : List D) (εp : PEnv) (fp : List Addr) (S : SD) (o : Out (List D)) (εp' : PEnv), St S εp ε fp → Nx S1 fp1 S fp → mLcL c g tt te vs ds acc εp = some (o, εp') →
      (∀ S' fp', St S' εp' ε fp' → Nx S fp S' fp' → match o with | .ok a => Q a S' | .ex e => XD e εp' ε S' fp') → lcL chk (wG g ws) (wM NoX tt) (wM NoX te) vs ds acc ε S Q
  | [], acc, εp, fp, S, o, εp', st, n, e, k => by
    unfold mLcL at e
    split at e
    · rename_i h
      cases e
      exact ⟨hc S εp ε fp st n Agree.refl h, k S fp st Nx.refl⟩
    · cases e
  | x :: xs, acc, εp, fp, S, o, εp', st, n, e, k => by
    unfold mLcL at e
    split at e
    · rename_i h
      refine ⟨hc S εp ε fp st n Agree.refl h, ?_⟩
      obtain ⟨fpw, hwp, nw, sw⟩ := wipe_ok st.own st.nd vs
      split at e
      · cases e
      · rename_i ε1 e1
        refine ⟨wipeP εp vs, fpw, ε1, ⟨hwp, nw⟩, e1, fun ε' fp' st' sub ag hl => ?_⟩
        have n' : Nx S fp S fp' := Nx.sub fun a ha => sw a (sub a ha)
        have hl' : ε'.length = ε.length := by rw [hl, wipeD_len]
        have ag' : Agree vs ε ε' := fun i hi => (ag i fun z => hi (hw i z)).trans (wipeD_agree vs i hi)
        split at e
        · rename_i ε2 e2
          refine ⟨ε1, fp', .ok true, ε2, st', e2, fun S3 fp3 st3 n3 => ?_⟩
          dsimp only
          rw [if_pos rfl]
          split at e
          · rename_i y ε3 e3
            refine ⟨ε2, fp3, .ok y, ε3, st3, e3, fun S4 fp4 st4 n4 => ?_⟩
            obtain ⟨fp5, st5, s5⟩ := restore_st st st4 hl' ag'
            have n5 : Nx S fp S4 fp5 := (n'.trans (n3.trans n4)).trans (Nx.sub s5)
            exact lc_ok hw hc xs (acc ++ [y]) _ fp5 S4 o εp' st5 (n.trans n5) e fun S6 fp6 st6 n6 => k S6 fp6 st6 (n5.trans n6)
          · cases e
        · rename_i ε2 e2
          refine ⟨ε1, fp', .ok false, ε2, st', e2, fun S3 fp3 st3 n3 => ?_⟩
          dsimp only
          rw [if_neg Bool.false_ne_true]
          obtain ⟨fp5, st5, s5⟩ := restore_st st st3 hl' ag'
          have n5 : Nx S fp S3 fp5 := (n'.trans n3).trans (Nx.sub s5)
          exact lc_ok hw hc xs acc _ fp5 S3 o εp' st5 (n.trans n5) e fun S6 fp6 st6 n6 => k S6 fp6 st6 (n5.trans n6)
        · cases e
    · cases e
theorem wM_lc {p : M (List D)} {c : List D → PEnv → Bool} {g : GM} {tt : M Bool} {te : M D} {vs ws : List Nat} (hw : ∀ i ∈ ws, i ∈ vs) {ε : ED} {S : SD} {Q : List D → SD → Prop} (h : wM XD (mLc p c g tt te vs) ε S Q) :
    dLc (wI XD [] p c) (wG g ws) (wM NoX tt) (wM NoX te) vs ε S Q := by
  obtain ⟨εp, fp, o, εp', st, e, k⟩ := h
  unfold mLc mBind at e
  split at e
  · cases e
  · rename_i ds ε1 e1
    refine ⟨εp, fp, .ok ds, ε1, st, e1, fun S1 fp1 st1 n1 chk hchk => ?_⟩
    dsimp only at e
    split at e
    · rename_i hl
      exact ⟨hl, lc_ok (XD := XD) hw hchk ds [] ε1 fp1 S1 o εp' st1 Nx.refl e fun S' fp' st' n' => by
        have := k S' fp' st' (n1.trans n')
        cases o <;> exact this⟩
    · cases e
  · rename_i x ε1 e1
    cases e
    exact ⟨εp, fp, .ex x, _, st, e1, k⟩
end
section
variable {X : Cx} {XD : XT}
abbrev FTs (X : Cx) (ifs : List Expr) (p : M Bool) : Prop := DTs X ifs (wM NoX p)
theorem fts_nil : FTs X [] (mPure true) := ⟨fun pins s σ H Q I ⟨ε, S, Q0, rE, rS, q, k⟩ => dts_nil.run pins s σ H Q I ⟨ε, S, Q0, rE, rS, wM_pure q, k⟩⟩
theorem fts_one {c : Expr} {p : M Bool} (h : FT X NoX c p) : FTs X [c] p := dts_one h
abbrev FG (X : Cx) (tg : Expr) (vs : List Nat) (g : GM) : Prop := DG X tg vs (wG g vs)
abbrev FGs (X : Cx) (tg : List Expr) (vs : List Nat) (g : GsM) : Prop := DGs X tg vs (wGs g vs)
theorem DG_imp {tg : Expr} {vs : List Nat} {t t' : DTG} (h : DG X tg vs t) (i : ∀ d ε S Q, t' d ε S Q → t d ε S Q) : DG X tg vs t' :=
  PG_imp h fun v σ H Q ⟨d, ε, S, Q0, den, rE, rS, q, k⟩ => ⟨d, ε, S, Q0, den, rE, rS, i _ _ _ _ q, k⟩
theorem DGs_imp {tg : List Expr} {vs : List Nat} {t t' : DTGs} (h : DGs X tg vs t) (i : ∀ d ε S Q, t' d ε S Q → t d ε S Q) : DGs X tg vs t' :=
  PGs_imp h fun v σ H Q ⟨d, ε, S, Q0, den, rE, rS, q, k⟩ => ⟨d, ε, S, Q0, den, rE, rS, i _ _ _ _ q, k⟩
theorem fg_name {i : Nat} {x : Str} {pos : Pos} (hN : X.N.Nodup) (hi : X.N[i]? = some x) (hx : Loc X.env.scope x) (hf : X.fn x = true ∨ X.env.scope.names.lookup x = some .local := by first | exact .inl rfl | exact .inr rfl | assumption) : FG X (.Name x pos) [i] (gN i) :=
  DG_imp (dg_name hN hi hx hf) fun _ _ _ _ => wG_N
theorem fgs_nil : FGs X [] [] gNil := DGs_imp dgs_nil fun _ _ _ _ => wG_Nil
theorem fgs_cons {e : Expr} {es : List Expr} {g : GM} {u : GsM} {vs ws : List Nat} (h1 : FG X e vs g) (h2 : FGs X es ws u) (hs : (assignEach (e :: es) X.env).map (·.2) = assign e X.env :: (assignEach es X.env).map (·.2) := by rfl) : FGs X (e :: es) (vs ++ ws) (gCons g u) :=
  DGs_imp (dgs_cons h1 h2 hs) fun _ _ _ _ => wG_Cons
theorem fg_tup {es : List Expr} {k : Nat} {pos : Pos} {u : GsM} {n : Nat} {vs : List Nat} (hc : X.calm = true) (h : FGs X es vs u) (hn : (assignEach es X.env).length = n := by rfl) (hst : (assignEach es X.env).findIdx? (·.1) = none := by rfl) : FG X (.Tuple es k pos) vs (gTup n u) :=
  DG_imp (dg_tup hc h hn hst) fun _ _ _ _ => wG_Tup
variable {elt tg iter : Expr} {ifs : List Expr} {scope : Scope} {own : List (Str × Nat)} {pos : Pos} {p : M (List D)} {c : List D → PEnv → Bool} {g : GM} {tt : M Bool} {te : M D} {ws : List Nat}
theorem ff_lc (hc : X.calm = true) (hN : X.N.Nodup) (hi : FI X XD tg iter [] p c) (ok : BlkOk X.N X.env.scope scope own)
    (hg : ∀ (s : Shared) (H : Hp) (C : Addr) (cl : List (Str × Addr)) (fp : List Addr), FG (X.blk s H scope (compEnvC scope cl C X.env) fp) tg ws g) (ht : ∀ (s : Shared) (H : Hp) (C : Addr) (cl : List (Str × Addr)) (fp : List Addr), FTs (X.blk s H scope (compEnvC scope cl C X.env) fp) ifs tt)
    (he : ∀ (s : Shared) (H : Hp) (C : Addr) (cl : List (Str × Addr)) (fp : List Addr), FE (X.blk s H scope (compEnvC scope cl C X.env) fp) NoX elt te) (hw : ∀ i ∈ ws, i ∈ own.map (·.2) := by decide) (hs : ∀ x, foldedSetIterable iter X.env x = pure x := by intro _; rfl) :
    FF X XD (.ListComp elt [⟨tg, iter, ifs, 0⟩] scope pos) (mLc p c g tt te (own.map (·.2))) :=
  DF_imp (df_lc hc hN hi ok hg ht he hw hs) fun _ _ _ => wM_lc hw
end
end FL

namespace FL
open PySem PySem.Spec PyProof.Rows L2 DL
variable [Amb] [Cbs]

section
variable {X : Cx} {XD : XT} {a b c e : Expr} {es : List Expr} {st : Stmt} {rest : List Stmt} {pa pb : M D} {pt : M Bool} {pf : M (List D)} {po : M PV} {pl : M (List PArg)} {q r : M Res} {ms ms' : List Nat} {pos : Pos}
theorem fs_expr (he : FE X XD e pa) (hs : swapsWith e none pos.line X.env = pure false := by rfl) : FS X XD (.Expr e pos) [] (mDrop pa) := DS_imp (ds_expr he hs) fun _ _ _ => wS_drop
theorem fs_ret (he : FE X XD e pa) : FS X XD (.Return (some e) pos) [] (mRet pa) := DS_imp (ds_ret he) fun _ _ _ => wS_ret
theorem fs_retO (he : FO X XD e po) : FS X XD (.Return (some e) pos) [] (mRetO po) := DS_imp (ds_ret he) fun _ _ _ => wS_retO
theorem fs_retV {i : Nat} (he : DE X e (dVar i)) : FS X XD (.Return (some e) pos) [] (mRetV i) := DS_imp (ds_ret he) fun _ _ _ => wS_retV
theorem fss_nil : FSs X XD [] [] (mPure .nx) := DSs_imp dss_nil fun D ε S h => by
  obtain ⟨εp, fp, st, k⟩ := wS_pure h
  exact k st.nd Nx.refl
theorem fss_cons (h1 : FS X XD st ms q) (h2 : FSs X XD rest ms' r) : FSs X XD (st :: rest) (ms ++ ms') (mSeq q r) := DSs_imp (dss_cons h1 h2) fun _ _ _ => wS_seq
theorem fss_one (h1 : FS X XD st ms q) : FSs X XD [st] ms q := dss_one h1
theorem fs_if {a b : List Stmt} (hc : FT X XD c pt) (ha : FSs X XD a ms q) (hb : FSs X XD b ms' r) : FS X XD (.If c a b pos) (ms ++ ms') (mIf pt q r) := DS_imp (ds_if hc ha hb) fun _ _ _ => wS_if
theorem fs_set {i : Nat} {x : Str} {pos' : Pos} (hN : X.N.Nodup) (hi : X.N[i]? = some x) (hx : Loc X.env.scope x) (he : FE X XD e pa) (hs : swapsWith e (some (.Name x pos')) pos.line X.env = pure false := by rfl) (hf : X.fn x = true ∨ X.env.scope.names.lookup x = some .local := by first | exact .inl rfl | exact .inr rfl | assumption) :
    FS X XD (.Assign [.Name x pos'] e pos) [i] (mSet i pa) := DS_imp (ds_set hN hi hx he hs hf) fun _ _ _ => wS_set
theorem fs_setO {i : Nat} {x : Str} {pos' : Pos} (hN : X.N.Nodup) (hi : X.N[i]? = some x) (hx : Loc X.env.scope x) (he : FO X XD e po) (hs : swapsWith e (some (.Name x pos')) pos.line X.env = pure false := by rfl) (hf : X.fn x = true ∨ X.env.scope.names.lookup x = some .local := by first | exact .inl rfl | exact .inr rfl | assumption) :
    FS X XD (.Assign [.Name x pos'] e pos) [i] (mSetO i po) := DS_imp (ds_set hN hi hx he hs hf) fun _ _ _ => wS_setO
theorem fs_setLc {i : Nat} {y : Str} {py : Pos} {elt tg iter : Expr} {ifs : List Expr} {scope : Scope} {own : List (Str × Nat)} {pos spos : Pos} {p : M (List D)} {c : List D → PEnv → Bool} {g : GM} {tt : M Bool} {te : M D} {ws : List Nat} (hc : X.calm = true) (hN : X.N.Nodup) (hy : X.N[i]? = some y) (hyl : X.env.scope.names.lookup y = some .local)
    (hsw : swapsWith (.ListComp elt [⟨tg, iter, ifs, 0⟩] scope pos) (some (.Name y py)) spos.line X.env = pure true) (hi : FI X XD tg iter [] p c) (ok : BlkOk X.N X.env.scope scope own)
    (hg : ∀ (s : Shared) (H : Hp) (C : Addr) (cl : List (Str × Addr)) (fp : List Addr), FG (X.blk s H scope (compEnvC scope cl C X.env) fp) tg ws g) (ht : ∀ (s : Shared) (H : Hp) (C : Addr) (cl : List (Str × Addr)) (fp : List Addr), FTs (X.blk s H scope (compEnvC scope cl C X.env) fp) ifs tt)
    (he : ∀ (s : Shared) (H : Hp) (C : Addr) (cl : List (Str × Addr)) (fp : List Addr), FE (X.blk s H scope (compEnvC scope cl C X.env) fp) NoX elt te) (hw : ∀ i ∈ ws, i ∈ own.map (·.2) := by decide) (hs : ∀ x, foldedSetIterable iter X.env x = pure x := by intro _; rfl) :
    FS X XD (.Assign [.Name y py] (.ListComp elt [⟨tg, iter, ifs, 0⟩] scope pos) spos) [i] (mSetO i (mMap .lst (mLc p c g tt te (own.map (·.2))))) :=
  DS_imp (ds_setLc hc hN hy hyl hsw hi ok hg ht he hw hs) fun D ε S h => (by
    have h1 := wO_lst (wS_setO h)
    exact wM_lc hw h1)
theorem fs_for {tg iter : Expr} {body : List Stmt} {p : M (List D)} {c : List D → PEnv → Bool} {g : GM} {vs : List Nat} (hp : PassesOwn (model X.prog X.w) X.A X.env X.xe) (hc : X.calm = true) (hi : FI X XD tg iter (vs ++ ms) p c) (hg : FG X tg vs g) (hb : FSs X XD body ms q)
    (hs : ∀ x, foldedSetIterable iter X.env x = pure x := by intro _; rfl) : FS X XD (.For tg iter body [] pos) (vs ++ ms) (mFor p c g q) := DS_imp (ds_for hp hc hi hg hb hs) fun _ _ _ => wS_for
theorem fs_while {body : List Stmt} (n : Nat) (hp : PassesOwn (model X.prog X.w) X.A X.env X.xe) (hc : FT X XD c pt) (hb : FSs X XD body ms q) : FS X XD (.While c body [] pos) ms (mWhile pt q n) :=
  DS_imp (ds_while hp hc hb) fun D ε S h => ⟨n, wS_while n ε S h⟩
def putA : List (Nat × PArg) → PEnv → Option PEnv
  | [], ε => some ε
  | (i, .v d) :: r, ε => if i < ε.length then putA r (ε.set i (some (.val d))) else none
  | (i, .n p) :: r, ε => if i < ε.length then putA r (ε.set i (some p)) else none
  | (_, .s _) :: _, _ => none
def mPar (is : List Nat) (pl : M (List PArg)) : M Res := fun ε => match pl ε with
  | none => none
  | some (.ex e, ε') => some (.ex e, ε')
  | some (.ok as, ε') => if as.length = is.length then match putA (is.zip as) ε' with
    | some ε2 => some (.ok .nx, ε2)
    | none => none
    else none
theorem putA_ok {S : SD} {ε0 : ED} : ∀ {is : List Nat} {as : List PArg} {εp εp' : PEnv} {ε : ED} {ds : List D} {fp fq : List Addr}, OwnE S εp ε fp → ArgR S ε0 as ds fq → (fp ++ fq).Nodup → as.length = is.length → putA (is.zip as) εp = some εp' →
    ds.length = is.length ∧ ∃ fp', OwnE S εp' ((is.zip ds).foldl (fun e p => e.set p.1 (some p.2)) ε) fp' ∧ fp'.Nodup ∧ ∀ a ∈ fp', a ∈ fp ++ fq
  | [], [], εp, εp', ε, ds, fp, fq, own, ar, nd, hl, e => by
    obtain ⟨rfl, rfl⟩ := ar
    cases e
    exact ⟨rfl, fp, own, (app_nodup nd).1, fun a ha => List.mem_append_left _ ha⟩
  | i :: is, [], _, _, _, _, _, _, _, _, _, hl, _ => nomatch hl
  | [], a :: as, _, _, _, _, _, _, _, _, _, hl, _ => nomatch hl
  | i :: is, .v d :: as, εp, εp', ε, ds, fp, fq, own, ar, nd, hl, e => by
    obtain ⟨rd, rfl, ar⟩ := ar
    have e' : (if i < εp.length then putA (is.zip as) (εp.set i (some (.val d))) else none) = some εp' := e
    split at e'
    · rename_i hi
      obtain ⟨f1, st1, s1⟩ := St.assign (d := d) own hi own_val (by rw [List.append_nil]; exact (app_nodup nd).1)
      have s1' : ∀ a ∈ f1, a ∈ fp := fun a ha => (s1 a ha).elim id fun z => nomatch z
      obtain ⟨nq, n2, n3⟩ := app_nodup nd
      obtain ⟨l2, f2, o2, n4, s2⟩ := putA_ok st1.own ar (nodup_app st1.nd n2 fun a ha hb => n3 a (s1' a ha) hb) (by simpa using hl) e'
      exact ⟨by simp [l2], f2, o2, n4, fun a ha => (List.mem_append.mp (s2 a ha)).elim (fun z => List.mem_append_left _ (s1' a z)) (List.mem_append_right _)⟩
    · cases e'
  | i :: is, .n p :: as, εp, εp', ε, ds, fp, fq, own, ar, nd, hl, e => by
    obtain ⟨d, rd, g1, g2, rfl, rfl, ov, ar⟩ := ar
    have e' : (if i < εp.length then putA (is.zip as) (εp.set i (some p)) else none) = some εp' := e
    split at e'
    · rename_i hi
      rw [← List.append_assoc] at nd
      obtain ⟨n1, n2, n3⟩ := app_nodup nd
      obtain ⟨f1, st1, s1⟩ := St.assign (d := d) own hi ov n1
      have s1' : ∀ a ∈ f1, a ∈ fp ++ g1 := fun a ha => List.mem_append.mpr (s1 a ha)
      obtain ⟨l2, f2, o2, n4, s2⟩ := putA_ok st1.own ar (nodup_app st1.nd n2 fun a ha hb => n3 a (s1' a ha) hb) (by simpa using hl) e'
      refine ⟨by simp [l2], f2, o2, n4, fun a ha => ?_⟩
      rw [← List.append_assoc]
      exact (List.mem_append.mp (s2 a ha)).elim (fun z => List.mem_append_left _ (s1' a z)) (List.mem_append_right _)
    · cases e'
  | i :: is, .s j :: as, εp, εp', ε, ds, fp, fq, own, ar, nd, hl, e => by
    have e' : (none : Option PEnv) = some εp' := e
    cases e'
theorem fold_agree : ∀ (ps : List (Nat × D)) (ε : ED), Agree (ps.map (·.1)) ε (ps.foldl (fun e p => e.set p.1 (some p.2)) ε)
  | [], ε => Agree.refl
  | (i, d) :: ps, ε => fun j hj => by
    rw [List.foldl_cons, fold_agree ps _ j fun z => hj (List.mem_cons_of_mem _ z), List.getElem?_set_ne]
    rintro rfl
    exact hj List.mem_cons_self
theorem wS_par {is : List Nat} {pl : M (List PArg)} {D : DEnds} {ε : ED} {S : SD} (h : wS XD is (mPar is pl) D ε S) : wL XD pl ε S fun ds S1 => ds.length = is.length ∧ D.nx ((is.zip ds).foldl (fun e p => e.set p.1 (some p.2)) ε) S1 := by
  obtain ⟨εp, fp, o, εp', st, e, k⟩ := h
  unfold mPar at e
  split at e
  · cases e
  · rename_i x ε1 e1
    cases e
    exact ⟨εp, fp, .ex x, _, st, e1, fun S1 fp1 st1 n1 => k S1 fp1 ε st1.own Agree.refl st1.nd n1⟩
  · rename_i as ε1 e1
    split at e
    · rename_i hl
      split at e
      · rename_i ε2 e2
        cases e
        refine ⟨εp, fp, .ok as, ε1, st, e1, fun S1 fp1 fq ds own ar nd n => ?_⟩
        obtain ⟨l2, f2, o2, n2, s2⟩ := putA_ok own ar nd hl e2
        refine ⟨l2, k S1 f2 _ o2 ?_ n2 (n.trans (Nx.sub s2))⟩
        have := fold_agree (is.zip ds) ε
        rw [List.map_fst_zip (by omega)] at this
        exact this
      · cases e
    · cases e
theorem fs_par2 {i j : Nat} {x y : Str} {px py pt : Pos} {kt k2 pt2} (hc : X.calm = true) (hN : X.N.Nodup) (ha : FLs X XD [a, b] pl) (hi : X.N[i]? = some x := by rfl) (hj : X.N[j]? = some y := by rfl) (hij : i ≠ j := by decide)
    (hx : X.env.scope.names.lookup x = some .local := by rfl) (hy : X.env.scope.names.lookup y = some .local := by rfl)
    (hw : swappedStores [.Tuple [.Name x px, .Name y py] kt pt] (.Tuple [a, b] k2 pt2) X.env = pure (some [x, y]) := by rfl)
    (hs : swapsWithSole [.Tuple [.Name x px, .Name y py] kt pt] (.Tuple [a, b] k2 pt2) pos.line X.env = pure false := by rfl) :
    FS X XD (.Assign [.Tuple [.Name x px, .Name y py] kt pt] (.Tuple [a, b] k2 pt2) pos) [i, j] (mPar [i, j] pl) :=
  DS_imp (ds_par2 hc hN ha hi hj hij hx hy hw hs) fun D ε S h => by
    obtain ⟨εp, fp, o, εp', st, e, k⟩ := wS_par h
    refine ⟨εp, fp, o, εp', st, e, ?_⟩
    cases o with
    | ex x => exact k
    | ok as =>
      intro S1 fp1 fq ds own ar nd n
      obtain ⟨hl, q⟩ := k S1 fp1 fq ds own ar nd n
      match ds, hl, q with
      | [v, w], _, q => exact ⟨v, w, rfl, q⟩
def setL (y v : D) (ds : List D) : Option (Unit × List D) := match y with
  | .int i => (ixN ds.length i).map fun j => ((), ds.set j v)
  | _ => none
def mSetIx (i : Nat) (pe pi : M D) : M Res := mBind pe fun v => mBind (mGetL i) fun _ => mBind pi fun y => mBind (mModL i (setL y v)) fun _ => mPure .nx
theorem fs_setIx (hu : X.A.units + 1 < cLine) {o i' : Expr} {i : Nat} {pos' : Pos} (he : FE X XD e pa) (ho : DE X o (dVar i)) (hi : FE X XD i' pb)
    (ha : ∀ v, assign (.Subscript o i' pos') X.env v = (do
      let ov ← holding [v] (eval o X.env)
      let iv ← holding [v, ov] (eval i' X.env)
      standAt pos'
      holding [v, ov, iv] (setItem ov iv v)
      release [v, ov, iv] []) := by intro _; rfl)
    (hs : swapsWithSole [.Subscript o i' pos'] e pos.line X.env = pure false := by rfl) (hw : swappedStores [.Subscript o i' pos'] e X.env = pure none := by rfl)
    (h1 : (assignEach [.Subscript o i' pos'] X.env).map (·.2) = [assign (.Subscript o i' pos') X.env] := by rfl) : FS X XD (.Assign [.Subscript o i' pos'] e pos) [] (mSetIx i pa pb) :=
  DS_imp (ds_asg he (dg_sub ho hi (dset hu) ha) hs hw h1) fun D ε S h => wM_imp (wS_bind h) fun v S1 h => by
    have h2 := wS_bind h
    obtain ⟨q, ds0, e1, _, h3⟩ := wM_getL h2
    refine ⟨.ref q, e1, wM_imp (wS_bind h3) fun y S2 h4 => ?_⟩
    obtain ⟨q', ds, u, ds', e3, e4, e5, h6⟩ := wM_modL (wS_bind h4)
    cases slot_eq e1 e3
    unfold setL at e5
    split at e5
    · obtain ⟨j, hj, e6⟩ := Option.map_eq_some_iff.mp e5
      cases e6
      refine ⟨ds, j, e4, hj, ?_⟩
      obtain ⟨εp, fp, st, k⟩ := wS_pure h6
      exact k st.nd Nx.refl
    · cases e5
end

def startP (n : Nat) (ps : List PV) : PEnv := ps.map some ++ List.replicate (n - ps.length) none
def outsF (io : List Nat) : Nat → List PV → PEnv → Option (List PV)
  | _, [], _ => some []
  | i, p :: ps, ε => if io.contains i = true then match ε[i]? with
      | some (some q) => match outsF io (i + 1) ps (ε.set i none) with
        | some r => some (q :: r)
        | none => none
      | _ => none
    else match p with
      | .val d => match outsF io (i + 1) ps ε with
        | some r => some (.val d :: r)
        | none => none
      | _ => none
def runF (io : List Nat) (n : Nat) (body : M Res) : FM := fun ps => match body (startP n ps) with
  | some (.ok (.rt v), ε) => match outsF io 0 ps ε with
    | some ps' => some (.ok v, ps')
    | none => none
  | some (.ok .nx, ε) => match outsF io 0 ps ε with
    | some ps' => some (.ok (.val .non), ps')
    | none => none
  | _ => none
theorem runF_ok {io : List Nat} {n : Nat} {body : M Res} : ∀ ps o ps', runF io n body ps = some (o, ps') → ∃ v, o = .ok v := fun ps o ps' h => by
  unfold runF at h
  split at h
  · split at h
    · cases h; exact ⟨_, rfl⟩
    · cases h
  · split at h
    · cases h; exact ⟨_, rfl⟩
    · cases h
  · cases h
theorem own_start {S : SD} : ∀ {ps : List PV} {ds : List D} {fp : List Addr} (n : Nat), OwnL S ps ds fp → OwnE S (ps.map some ++ List.replicate n none) (ds.map some ++ List.replicate n none) fp
  | [], ds, fp, n, h => by
    obtain ⟨rfl, rfl⟩ := h.nil
    induction n with
    | zero => exact ⟨rfl, rfl⟩
    | succ n ih => exact ⟨none, _, [], [], rfl, rfl, rfl, ih⟩
  | p :: ps, ds, fp, n, h => by
    obtain ⟨d, r, f1, f2, rfl, rfl, h1, h2⟩ := h.cons
    exact ⟨some d, _, f1, f2, rfl, rfl, ⟨d, rfl, h1⟩, own_start n h2⟩
theorem OwnL.length {S : SD} : ∀ {ps : List PV} {ds : List D} {fp : List Addr}, OwnL S ps ds fp → ds.length = ps.length
  | [], ds, fp, h => by
    rw [h.nil.1]
    rfl
  | p :: ps, ds, fp, h => by
    obtain ⟨d, r, f1, f2, rfl, rfl, h1, h2⟩ := h.cons
    rw [List.length_cons, List.length_cons, OwnL.length h2]
theorem outs_ok {S0 S' : SD} {io : List Nat} {εr : ED} : ∀ {ps ps' : List PV} {ds : List D} {f0 fp : List Addr} {i : Nat} {ε : PEnv}, OwnL S0 ps ds f0 → OwnE S' ε εr fp → outsF io i ps ε = some ps' →
    (∀ j d, io.contains (i + j) = true → ds[j]? = some d → εr[i + j]? = some (some d)) → ∃ f fr, OwnL S' ps' ds f ∧ fp.Perm (f ++ fr)
  | [], ps', ds, f0, fp, i, ε, ol, own, e, hr => by
    obtain ⟨rfl, rfl⟩ := ol.nil
    cases e
    exact ⟨[], fp, ownL_nil, List.Perm.refl _⟩
  | p :: ps, ps', ds, f0, fp, i, ε, ol, own, e, hr => by
    obtain ⟨d, r, f1, f2, rfl, rfl, h1, h2⟩ := ol.cons
    have hr' : ∀ j d, io.contains (i + 1 + j) = true → r[j]? = some d → εr[i + 1 + j]? = some (some d) := fun j d hc hj => by
      rw [show i + 1 + j = i + (j + 1) by omega] at hc ⊢
      exact hr (j + 1) d hc (by simpa using hj)
    unfold outsF at e
    split at e
    · rename_i hc
      split at e
      · rename_i q hq
        split at e
        · rename_i rs e1
          cases e
          obtain ⟨d', fq, fr, e2, ov, own2, pm⟩ := own.take hq
          have e3 := hr 0 d (by simpa using hc) rfl
          rw [Nat.add_zero, e2] at e3
          cases e3
          obtain ⟨f, fr2, ol2, pm2⟩ := outs_ok h2 own2 e1 hr'
          refine ⟨fq ++ f, fr2, ownL_cons ov ol2, pm.trans ?_⟩
          rw [List.append_assoc]
          exact List.Perm.append_left fq pm2
        · cases e
      · cases e
    · split at e
      · rename_i d0
        split at e
        · rename_i rs e1
          cases e
          obtain ⟨rfl, rfl⟩ := h1.val
          obtain ⟨f, fr2, ol2, pm2⟩ := outs_ok h2 own e1 hr'
          exact ⟨[] ++ f, fr2, ownL_cons own_val ol2, pm2⟩
        · cases e
      · cases e
section
variable {P : Program} {w : World} {K : PySem.W.Frag} {mg : Str → Option Value} {base : Heap}
theorem startD_get {N : List Str} {ds : List D} {j : Nat} {d : D} (h : ds[j]? = some d) : (startD N ds)[j]? = some (some d) := by
  unfold startD
  have hj : j < ds.length := (List.getElem?_eq_some_iff.mp h).1
  rw [List.getElem?_append_left (by simpa using hj), List.getElem?_map, h]
  rfl
def fnF (np : Nat) (io : List Nat) (n : Nat) (body : M Res) : FM := fun vs => if vs.length = np then runF io n body vs else none
theorem dcF {x qual : Str} {st : Stmt} {f : Addr} {fd : FuncData} {N ps : List Str} {k : Nat} {io ms : List Nat} {body : M Res} (F : Fun K x qual st f fd) (g : mg x = some (.ref f)) (bd : Binds K fd ps []) (S : FnScope N ps (defScope st)) (hio : ∀ i ∈ io, i ∉ ms)
    (hbody : ∀ (cdv : Value) (A : Around) (outer : List Env) (s : Shared) (H : Hp) (E : XK), RoomG k (A.deeper (envOfC qual (defScope st) s.heap.objs.size f cdv)) → FSs (cxOf CX0 P w K mg base N qual (defScope st) f cdv A outer s H E).nox NoX (defBody st) ms body) :
    FC P w K mg base (k + 1) x ps (fnF ps.length io N.length body) := by
  refine ⟨⟨f, fd, fnD F S (fun ds S Q h => ?_) (wS NoX ms body) hbody (fun ds S1 Q h => ?_), g, F.kp, bd⟩, fun vs o vs' h => ?_⟩
  · obtain ⟨vs, fp, v, vs', ol, nd, e, k⟩ := h
    rw [ol.length]
    unfold fnF at e
    split at e
    · assumption
    · cases e
  · obtain ⟨vs, fp, v, vs', ol, nd, e, k⟩ := h
    unfold fnF at e
    split at e
    · have len := ol.length
      have st0 : St S1 (startP N.length vs) (startD N ds) fp := ⟨by
        unfold startP startD
        rw [len]
        exact own_start _ ol, nd⟩
      have fin : ∀ {ε' : PEnv} {S' : SD} {fp' fq : List Addr} {ε'' : ED} {d : D} {v : PV}, OwnE S' ε' ε'' fp' → Agree ms (startD N ds) ε'' → outsF io 0 vs ε' = some vs' → (∀ S' fp' fq d, OwnL S' vs' ds fp' → Own S' v d fq → (fp' ++ fq).Nodup → Nx S1 fp S' (fp' ++ fq) → Q d S') →
          Own S' v d fq → (fp' ++ fq).Nodup → Nx S1 fp S' (fp' ++ fq) → Q d S' := fun {ε' S' fp' fq ε'' d v} own ag e2 k ov nd2 n2 => by
        obtain ⟨f1, fr, ol2, pm⟩ := outs_ok ol own e2 fun j d hc hj => by
          rw [Nat.zero_add] at hc ⊢
          have hin : j ∈ io := by simpa using hc
          rw [ag j (hio j hin)]
          exact startD_get hj
        have sub : ∀ a ∈ f1, a ∈ fp' := fun a ha => pm.symm.mem_iff.mp (List.mem_append_left _ ha)
        obtain ⟨m1, m2, m3⟩ := app_nodup nd2
        refine k S' f1 fq d ol2 ov (nodup_app (app_nodup (perm_nodup pm m1)).1 m2 fun a ha hb => m3 a (sub a ha) hb) (n2.trans (Nx.sub fun a ha => ?_))
        exact (List.mem_append.mp ha).elim (fun z => List.mem_append_left _ (sub a z)) (List.mem_append_right _)
      unfold runF at e
      split at e
      · rename_i v1 ε1 e1
        split at e
        · rename_i ps2 e2
          cases e
          exact ⟨_, fp, _, ε1, st0, e1, fun S' fp' ε'' own ag fq d ov nd2 n2 => .of (fin own ag e2 k ov nd2 n2)⟩
        · cases e
      · rename_i ε1 e1
        split at e
        · rename_i ps2 e2
          cases e
          exact ⟨_, fp, _, ε1, st0, e1, fun S' fp' ε'' own ag nd2 n2 => .of (fin own ag e2 k own_val (by rw [List.append_nil]; exact nd2) (by rw [List.append_nil]; exact n2))⟩
        · cases e
      · cases e
    · cases e
  · unfold fnF at h
    split at h
    · exact runF_ok _ _ _ h
    · cases h
def runP (n : Nat) (body : M Res) : List D → Option D := fun ds => match body (startP n (ds.map .val)) with
  | some (.ok (.rt (.val d)), _) => some d
  | some (.ok .nx, _) => some .non
  | _ => none
theorem own_vals {S : SD} : ∀ ds : List D, OwnL S (ds.map .val) ds []
  | [] => ownL_nil
  | d :: ds => ownL_cons (f1 := []) (f2 := []) own_val (own_vals ds)
def fnP (np n : Nat) (body : M Res) : List D → Option D := fun ds => if ds.length = np then runP n body ds else none
theorem fdP {x qual : Str} {st : Stmt} {f : Addr} {fd : FuncData} {N ps : List Str} {k : Nat} {ms : List Nat} {body : M Res} (F : Fun K x qual st f fd) (S : FnScope N ps (defScope st))
    (hbody : ∀ (cdv : Value) (A : Around) (outer : List Env) (s : Shared) (H : Hp) (E : XK), RoomG k (A.deeper (envOfC qual (defScope st) s.heap.objs.size f cdv)) → FSs (cxOf CX0 P w K mg base N qual (defScope st) f cdv A outer s H E).nox NoX (defBody st) ms body) :
    FnD P w K mg base (k + 1) f fd ps (spP (fnP ps.length N.length body)) := by
  refine fnD F S (fun ds S Q ⟨d, e, _⟩ => ?_) (wS NoX ms body) hbody (fun ds S1 Q ⟨d, e, q⟩ => ?_)
  · unfold fnP at e
    split at e
    · assumption
    · cases e
  · unfold fnP at e
    split at e
    · have st0 : St S1 (startP N.length (ds.map .val)) (startD N ds) [] := ⟨by
        unfold startP startD
        rw [List.length_map]
        exact own_start _ (own_vals ds), List.nodup_nil⟩
      have sub : ∀ {S' : SD} {fp' : List Addr}, Nx S1 [] S' fp' → Sub S1 S' := fun n a c h => ⟨c, n.ext a c (by simp) h, Cell.le_refl c⟩
      unfold runP at e
      split at e
      · rename_i d1 ε1 e1
        cases e
        exact ⟨_, [], _, ε1, st0, e1, fun S' fp' ε'' own ag fq d ov nd2 n2 => by
          cases ov.val.1
          exact ⟨S1, sub n2, q⟩⟩
      · rename_i ε1 e1
        cases e
        exact ⟨_, [], _, ε1, st0, e1, fun S' fp' ε'' own ag nd2 n2 => ⟨S1, sub n2, q⟩⟩
      · cases e
    · cases e
theorem dcP {x qual : Str} {st : Stmt} {f : Addr} {fd : FuncData} {N ps : List Str} {k : Nat} {ms : List Nat} {body : M Res} (F : Fun K x qual st f fd) (g : mg x = some (.ref f)) (bd : Binds K fd ps []) (S : FnScope N ps (defScope st))
    (hbody : ∀ (cdv : Value) (A : Around) (outer : List Env) (s : Shared) (H : Hp) (E : XK), RoomG k (A.deeper (envOfC qual (defScope st) s.heap.objs.size f cdv)) → FSs (cxOf CX0 P w K mg base N qual (defScope st) f cdv A outer s H E).nox NoX (defBody st) ms body) :
    DC P w K mg base (k + 1) x ps (spP (fnP ps.length N.length body)) := ⟨f, fd, fdP F S hbody, g, F.kp, bd⟩
end
end FL

namespace FL
open PySem PySem.Spec PyProof.Rows L2 DL
variable [Amb] [Cbs]

def asD : PV → Option D
  | .val d => some d
  | .lst ds => some (.tup ds)
  | _ => none
def mGetA (i : Nat) : M PV := fun ε => match ε[i]? with
  | some (some (.val d)) => some (.ok (.val d), ε)
  | some (some (.lst ds)) => some (.ok (.lst ds), ε)
  | _ => none
section
variable {XD : XT} {ε : ED} {S : SD}
def Stands (S : SD) (v : PV) (x : D) : Prop := match v with
  | .val d => x = d
  | .lst ds => ∃ a, x = .ref a ∧ S a = some (.lst ds)
  | _ => False
theorem wM_getA {i : Nat} {Q : PV → SD → Prop} (h : wM XD (mGetA i) ε S Q) : ∃ x v, ε[i]? = some (some x) ∧ Stands S v x ∧ Q v S := by
  obtain ⟨εp, fp, o, εp', st, e, k⟩ := h
  unfold mGetA at e
  split at e
  · rename_i d hd
    cases e
    obtain ⟨x, fq, e1, ov, _⟩ := st.slot hd
    exact ⟨x, .val d, e1, (show x = d from ov.val.1), k S fp st Nx.refl⟩
  · rename_i ds hd
    cases e
    obtain ⟨x, fq, e1, ov, _⟩ := st.slot hd
    obtain ⟨a, rfl, _, ha⟩ := ov.lst
    exact ⟨_, .lst ds, e1, ⟨a, rfl, ha⟩, k S fp st Nx.refl⟩
  · cases e
end
section
variable {X : Cx} {XD : XT} {a b c e o l tg : Expr} {es : List Expr} {pa pb pc : M D} {pas : M (List D)} {pf : M (List D)} {po : M PV} {pl : M (List PArg)} {pos p apos cpos : Pos} {i : Nat} {ms : List Nat}
def mIxA (i : Nat) (pb : M D) : M D := mBind (mGetA i) fun _ => mBind pb fun y => mBind (mGetA i) fun v => mLift ((asD v).bind fun x => fIx x y)
theorem fe_ixA (hu : X.A.units + 1 < cLine) (ha : DE X a (dVar i)) (hb : FE X XD b pb) (hs : PlainIx b := by intro _ _; rfl) : FE X XD (.Subscript a b pos) (mIxA i pb) :=
  DE_imp (de_ixE hu ha hb hs) fun ε S Q h => by
    obtain ⟨x, v, e1, _, h⟩ := wM_getA (wM_bind h)
    refine ⟨x, e1, wM_imp (wM_bind h) fun y S1 h => ?_⟩
    obtain ⟨x2, v2, e2, sv, h⟩ := wM_getA (wM_bind h)
    cases slot_eq e1 e2
    obtain ⟨d, e3, h'⟩ := wM_lift h
    obtain ⟨z, e4, e5⟩ := Option.bind_eq_some_iff.mp e3
    cases v2 with
    | val d0 =>
      cases e4
      cases (show x = z from sv)
      exact fIx_r e5 h'
    | lst ds =>
      cases e4
      obtain ⟨q, rfl, hq⟩ := sv
      obtain ⟨j, rfl, e6⟩ := fIx_tup e5
      exact ⟨ds, hq, d, e6, h'⟩
    | _ => exact sv.elim
def mLenA (i : Nat) : M D := mBind (mGetA i) fun v => mLift ((asD v).bind fun x => fLen [x])
theorem fe_lenA (hg : Gl X "len") (hm : X.mg "len" = none) (ha : DE X a (dVar i)) (he : starEach [a] X.env = (false, eval a X.env) :: starEach [] X.env := by rfl) (hpl : (backTo pos (starEach [] X.env)).any (·.1) = false := by rfl) : FE X XD (.Call (.Name "len" p) [a] [] pos) (mLenA i) :=
  DE_imp (de_callB dc_len hg hm PySem.boot_len (da_cons ha da_nil he) (he := he) (hpl := hpl)) fun ε S Q h => by
    obtain ⟨x, v, e1, sv, h⟩ := wM_getA (wM_bind h)
    obtain ⟨d, e3, h'⟩ := wM_lift h
    obtain ⟨z, e4, e5⟩ := Option.bind_eq_some_iff.mp e3
    refine ⟨x, e1, x, rfl, ?_⟩
    cases v with
    | val d0 =>
      cases e4
      cases (show x = z from sv)
      unfold fLen at e5
      split at e5
      · rename_i hx; cases hx; cases e5; exact .inl ⟨_, .inl rfl, h'⟩
      · rename_i hx; cases hx; cases e5; exact .inl ⟨_, .inr (.inl rfl), h'⟩
      · rename_i hx; cases hx; cases e5; exact .inr (.inr (.inr ⟨_, _, rfl, h'⟩))
      · rename_i hx
        cases hx
        split at e5
        · cases e5; exact .inr (.inl ⟨_, rfl, by assumption, h'⟩)
        · cases e5
      · cases e5
    | lst ds =>
      cases e4
      obtain ⟨q, rfl, hq⟩ := sv
      cases e5
      exact .inl ⟨ds, .inr (.inr ⟨q, rfl, hq⟩), h'⟩
    | _ => exact sv.elim
def mItA (i : Nat) : M (List D) := fun ε => match ε[i]? with
  | some (some (.val (.tup ds))) => some (.ok ds, ε)
  | some (some (.val (.ilst ds))) => some (.ok ds, ε)
  | some (some (.lst ds)) => some (.ok ds, ε)
  | _ => none
def keyOf : D → Option Key
  | .int i => some (.inl i)
  | .str x => some (.inr x)
  | _ => none
theorem keyOf_eq {d : D} {k : Key} (h : keyOf d = some k) : d = keyD k := by
  cases d <;> simp [keyOf] at h <;> subst h <;> rfl
def dLook : List Key → List PV → Key → Option PV
  | k0 :: ks, p :: ps, k => if k0 = k then some p else dLook ks ps k
  | _, _, _ => none
def dRepl : List Key → List PV → Key → PV → List PV
  | k0 :: ks, p :: ps, k, q => if k0 = k then q :: ps else p :: dRepl ks ps k q
  | _, ps, _, _ => ps
theorem look_none {S : SD} : ∀ {ks : List Key} {ps : List PV} {ds : List D} {fq : List Addr} {k : Key}, OwnL S ps ds fq → ks.length = ps.length → dLook ks ps k = none → valD (ks.zip ds) k = none
  | [], ps, ds, fq, k, ol, hl, h => by simp [valD]
  | k0 :: ks, [], ds, fq, k, ol, hl, h => nomatch hl
  | k0 :: ks, p :: ps, ds, fq, k, ol, hl, h => by
    obtain ⟨d, r, f1, f2, rfl, rfl, h1, h2⟩ := ol.cons
    unfold dLook at h
    split at h
    · cases h
    · rename_i hk
      rw [List.zip_cons_cons, valD_neg hk]
      exact look_none h2 (by simpa using hl) h
def mGetD (i : Nat) (k : Key) : M (Option PV) := fun ε => match ε[i]? with
  | some (some (.dic ks ps)) => some (.ok (dLook ks ps k), ε)
  | _ => none
section
variable {ε : ED} {S : SD}
end
def optV : Option PV → Option D
  | some (.val d) => some d
  | _ => none
def keyS : D → Option Key
  | .str x => some (.inr x)
  | _ => none
theorem keyS_eq {d : D} {k : Key} (h : keyS d = some k) : ∃ x, d = .str x ∧ k = .inr x := by
  cases d <;> simp [keyS] at h
  exact ⟨_, rfl, h.symm⟩
def mIsD (i : Nat) : M Unit := fun ε => match ε[i]? with
  | some (some (.dic _ _)) => some (.ok (), ε)
  | _ => none
def mIxK (i : Nat) (pb : M D) : M D := mBind (mIsD i) fun _ => mBind pb fun y => mBind (mLift (keyS y)) fun k => mBind (mGetD i k) fun v => mLift (optV v)
def mGet2 (i : Nat) (pa pb : M D) : M D := mBind (mIsD i) fun _ => mBind pa fun y => mBind pb fun z => mBind (mLift (keyOf y)) fun k => mBind (mGetD i k) fun v => mLift (match v with | none => some z | v => optV v)
def mInD (neg : Bool) (pa : M D) (i : Nat) : M D := mBind pa fun y => mBind (mLift (keyOf y)) fun k => mBind (mGetD i k) fun v => mPure (.bl (if neg then !v.isSome else v.isSome))
def mNs : List (Key × M PV) → M (List PArg)
  | [] => mPure []
  | (_, p) :: r => mArgN p (mNs r)
def pvs : List PArg → List PV
  | [] => []
  | .n p :: r => p :: pvs r
  | .v d :: r => .val d :: pvs r
  | .s _ :: r => pvs r
def mDisp (l : List (Key × M PV)) : M PV := fun ε => match mNs l ε with
  | none => none
  | some (.ok as, ε') => if as.length = l.length then some (.ok (.dic (l.map (·.1)) (pvs as)), ε') else none
  | some (.ex e, ε') => some (.ex e, ε')
structure FPs (X : Cx) (XD : XT) (pos : Pos) (keys : List (Option Expr)) (values : List Expr) (l : List (Key × M PV)) : Prop where
  p : DPPs X pos keys values (l.map fun kp => (kp.1, wO XD kp.2))
def mRetT (pl : M (List PArg)) : M Res := fun ε => match pl ε with
  | none => none
  | some (.ex e, ε') => some (.ex e, ε')
  | some (.ok as, ε') => match takeA as ε' with
    | some (ps, ε2) => if as.length ≤ 1000 then some (.ok (.rt (.ptup ps)), ε2) else none
    | none => none
theorem argR_len {S : SD} {ε : ED} : ∀ {as : List PArg} {ds : List D} {fq : List Addr}, ArgR S ε as ds fq → ds.length = as.length
  | [], ds, fq, h => by rw [h.1]; rfl
  | .v d :: r, ds, fq, h => by
    obtain ⟨rd, rfl, h⟩ := h
    rw [List.length_cons, List.length_cons, argR_len h]
  | .s i :: r, ds, fq, h => by
    obtain ⟨d, rd, rfl, _, h⟩ := h
    rw [List.length_cons, List.length_cons, argR_len h]
  | .n p :: r, ds, fq, h => by
    obtain ⟨d, rd, f1, f2, rfl, _, _, h⟩ := h
    rw [List.length_cons, List.length_cons, argR_len h]
def putL : List (Nat × PV) → PEnv → Option PEnv
  | [], ε => some ε
  | (i, p) :: r, ε => if i < ε.length then putL r (ε.set i (some p)) else none
def mAsgT (is : List Nat) (po : M PV) : M Res := fun ε => match po ε with
  | none => none
  | some (.ex e, ε') => some (.ex e, ε')
  | some (.ok (.ptup ps), ε') => if ps.length = is.length then match putL (is.zip ps) ε' with
    | some ε2 => some (.ok .nx, ε2)
    | none => none
    else none
  | some (.ok _, _) => none
def dPut (ks : List Key) (ps : List PV) (k : Key) (d : D) : List Key × List PV :=
  if ks.any (fun k0 => decide (k0 = k)) = true then (ks, (ks.zip ps).map fun kp => if kp.1 = k then .val d else kp.2) else (ks ++ [k], ps ++ [.val d])
def mPutK (i : Nat) (k : Key) (d : D) : M Unit := fun ε => match ε[i]? with
  | some (some (.dic ks ps)) => if ks.length ≤ 1000000 then some (.ok (), ε.set i (some (.dic (dPut ks ps k d).1 (dPut ks ps k d).2))) else none
  | _ => none
def mSetK (i : Nat) (pe pi : M D) : M Res := mBind pe fun v => mBind (mIsD i) fun _ => mBind pi fun y => mBind (mLift (keyS y)) fun k => mBind (mPutK i k v) fun _ => mPure .nx
def mGetKL (i : Nat) (k : Key) : M (List D) := fun ε => match ε[i]? with
  | some (some (.dic ks ps)) => match dLook ks ps k with
    | some (.lst ds) => some (.ok ds, ε)
    | _ => none
  | _ => none
def mModKL {α : Type} (i : Nat) (k : Key) (f : List D → Option (α × List D)) : M α := fun ε => match ε[i]? with
  | some (some (.dic ks ps)) => match dLook ks ps k with
    | some (.lst ds) => match f ds with
      | some (a, ds') => some (.ok a, ε.set i (some (.dic ks (dRepl ks ps k (.lst ds')))))
      | none => none
    | _ => none
  | _ => none
def mIxKL (i : Nat) (x : Str) (y : D) : M D := mBind (mGetKL i (.inr x)) fun ds => mLift (fIx (.tup ds) y)
def mSetKL (i : Nat) (x : Str) (pe : M D) (y : D) : M Res := mBind pe fun v => mBind (mModKL i (.inr x) (setL y v)) fun _ => mPure .nx
def pairKs : List D → Option (List (Key × D))
  | [] => some []
  | .tup [k, v] :: r => match keyOf k with
    | some k' => (pairKs r).map ((k', v) :: ·)
    | none => none
  | _ :: _ => none
theorem pairKs_eq : ∀ {ds : List D} {kvs : List (Key × D)}, pairKs ds = some kvs → ds = kvs.map fun kv => D.tup [keyD kv.1, kv.2]
  | [], kvs, h => by cases h; rfl
  | d :: ds, kvs, h => by
    unfold pairKs at h
    split at h
    · cases ‹_ :: _ = []›
    · rename_i k v r e
      cases e
      split at h
      · rename_i k' hk
        obtain ⟨r', e1, rfl⟩ := Option.map_eq_some_iff.mp h
        rw [pairKs_eq e1, keyOf_eq hk]
        rfl
      · cases h
    · cases h
def mDictT (pa : M D) : M (List (Key × D)) := mBind pa fun x => mBind (mLift (toT x)) fun ds => mBind (mLift (pairKs ds)) fun kvs => mPure (mergeD [] kvs)
def mIxDict (pa pb : M D) : M D := mBind (mDictT pa) fun kvs => mBind pb fun y => mBind (mLift (keyS y)) fun k => mLift (valD kvs k)
theorem mBind_assoc {α β γ : Type} {p : M α} {f : α → M β} {g : β → M γ} : mBind (mBind p f) g = mBind p fun a => mBind (f a) g := by
  funext z
  unfold mBind
  cases h : p z with
  | none => rfl
  | some q =>
    obtain ⟨o, z'⟩ := q
    cases o <;> rfl
theorem mBind_pure {α β : Type} {a : α} {f : α → M β} : mBind (mPure a) f = f a := rfl
theorem wM_dict {α : Type} {ε : ED} {S : SD} {f : List (Key × D) → M α} {Q : α → SD → Prop} (h : wM XD (mBind (mDictT pa) f) ε S Q) : wM XD pa ε S fun x S1 => ∃ kvs, x = .tup (kvs.map fun kv => D.tup [keyD kv.1, kv.2]) ∧ wM XD (f (mergeD [] kvs)) ε S1 Q := by
  obtain ⟨εp, fp, o, εp', st, e, k⟩ := h
  have this : mBind (mDictT pa) f = mBind pa fun x => mBind (mLift (toT x)) fun ds => mBind (mLift (pairKs ds)) fun kvs => f (mergeD [] kvs) := by
    unfold mDictT
    simp only [mBind_assoc, mBind_pure]
  rw [this] at e
  refine wM_imp (wM_bind (f := fun x => mBind (mLift (toT x)) fun ds => mBind (mLift (pairKs ds)) fun kvs => f (mergeD [] kvs)) ⟨εp, fp, o, εp', st, e, k⟩) fun x S1 h => ?_
  obtain ⟨ds, e1, h⟩ := wM_lift (wM_bind h)
  obtain ⟨kvs, e2, h⟩ := wM_lift (wM_bind h)
  exact ⟨kvs, by rw [toT_eq e1, pairKs_eq e2], h⟩
theorem wM_new {α : Type} {p : M α} {ε : ED} {S : SD} {Q : α → SD → Prop} {q : Addr} {c : Cell} (hq : S q = none) (h : wM XD p ε S Q) : wM XD p ε (put S q c) fun a S1 => S1 q = some c ∧ Q a S1 := by
  obtain ⟨εp, fp, o, εp', st, e, k⟩ := h
  obtain ⟨f1, f2⟩ := fresh_frame (c := c) hq st.own.dom
  refine ⟨εp, fp, o, εp', ⟨st.own.frame f1, st.nd⟩, e, fun S' fp' st' n => ?_⟩
  have n' : Nx S fp S' fp' := ⟨fun a ha => (n.grow a ha).imp id fun z => by
    by_cases e : a = q
    · rw [e]; exact hq
    · rw [put_ne e] at z; exact z, fun a x ha hx => n.ext a x ha (by rw [put_ne (by rintro rfl; rw [hq] at hx; cases hx)]; exact hx)⟩
  have := k S' fp' st' n'
  cases o with
  | ok a => exact ⟨n.ext q c f2 put_same, this⟩
  | ex x => exact this
theorem fe_ixDict (hu : X.A.units + 1 < cLine) (hc : X.calm = true) (hg : Gl X "dict") (hm : X.mg "dict" = none) (ha : FE X XD a pa) (hb : FE X XD b pb) (he : starEach [a] X.env = (false, eval a X.env) :: starEach [] X.env := by rfl) (hpl : (backTo p (starEach [] X.env)).any (·.1) = false := by rfl) (hs : PlainIx b := by intro _ _; rfl) :
    FE X XD (.Subscript (.Call (.Name "dict" apos) [a] [] p) b pos) (mIxDict pa pb) :=
  DE_imp (de_ixE hu (de_callTy (dc_dictT hc) hg hm PyProof.Rows.boot_dict (da_cons ha da_nil he) (he := he) (hpl := hpl)) hb hs) fun ε S Q h => wM_imp (wM_dict h) fun x S1 ⟨kvs, ex, h⟩ => by
    subst ex
    refine ⟨kvs, rfl, fun q hq => wM_imp (wM_new hq (wM_bind h)) fun y S2 ⟨hq2, h⟩ => ?_⟩
    obtain ⟨k, e2, h⟩ := wM_lift (wM_bind h)
    obtain ⟨z, rfl, rfl⟩ := keyS_eq e2
    obtain ⟨d, e3, h'⟩ := wM_lift h
    exact ⟨_, hq2, d, e3, h'⟩
def fDict (kvs : List (Key × D)) : PV := .dic (kvs.map (·.1)) (kvs.map fun kv => .val kv.2)
def mDict (pa : M D) : M PV := mBind (mDictT pa) fun kvs => mPure (fDict kvs)
end
end FL

namespace FL
open PySem PySem.Spec PyProof.Rows L2 DL
variable [Amb] [Cbs]

section
variable {X : Cx} {XD : XT} {a b c e o l tg : Expr} {es : List Expr} {pa pb pc : M D} {pl : M (List PArg)} {pos p : Pos}
def mIxO (pl : M (List PArg)) (pb : M D) : M PV := fun ε => match pl ε with
  | none => none
  | some (.ex e, ε') => some (.ex e, ε')
  | some (.ok as, ε') => if as.length ≤ 1000 ∧ (pvs as).length = as.length then mBind pb (fun y => mLift (match y with | .int i => atI (pvs as) i | _ => none)) ε' else none
theorem pvs_all : ∀ {as : List PArg}, (pvs as).length = as.length → ∀ i, PArg.s i ∉ as
  | [], _, i, h => nomatch h
  | .n p :: r, hl, i, h => by
    rcases List.mem_cons.mp h with h | h
    · cases h
    · exact pvs_all (as := r) (by simpa [pvs] using hl) i h
  | .v d :: r, hl, i, h => by
    rcases List.mem_cons.mp h with h | h
    · cases h
    · exact pvs_all (as := r) (by simpa [pvs] using hl) i h
  | .s j :: r, hl, i, h => by
    have le : ∀ as : List PArg, (pvs as).length ≤ as.length := by
      intro as
      induction as with
      | nil => exact Nat.le_refl _
      | cons a as ih => cases a <;> simp [pvs] <;> omega
    have := le r
    simp [pvs] at hl
    omega
theorem pvs_own' {S : SD} {ε : ED} : ∀ {as : List PArg} {ds : List D} {fq : List Addr}, (pvs as).length = as.length → ArgR S ε as ds fq → OwnL S (pvs as) ds fq
  | [], ds, fq, h, ar => by
    obtain ⟨rfl, rfl⟩ := ar
    exact ownL_nil
  | .n p :: as, ds, fq, h, ar => by
    obtain ⟨d, rd, f1, f2, rfl, rfl, o1, ar⟩ := ar
    exact ownL_cons o1 (pvs_own' (by simpa [pvs] using h) ar)
  | .v d :: as, ds, fq, h, ar => by
    obtain ⟨rd, rfl, ar⟩ := ar
    exact ownL_cons (f1 := []) own_val (pvs_own' (by simpa [pvs] using h) ar)
  | .s i :: as, ds, fq, h, ar => (pvs_all h i List.mem_cons_self).elim
theorem ownL_get {S : SD} : ∀ {ps : List PV} {ds : List D} {fq : List Addr} {i : Nat} {p : PV}, OwnL S ps ds fq → ps[i]? = some p → ∃ d f, ds[i]? = some d ∧ Own S p d f ∧ f.Sublist fq
  | [], ds, fq, i, p, ol, h => by simp at h
  | q :: ps, ds, fq, 0, p, ol, h => by
    obtain ⟨d, r, f1, f2, rfl, rfl, h1, h2⟩ := ol.cons
    have e : q = p := by simpa using h
    subst e
    exact ⟨d, f1, rfl, h1, List.sublist_append_left _ _⟩
  | q :: ps, ds, fq, i + 1, p, ol, h => by
    obtain ⟨d, r, f1, f2, rfl, rfl, h1, h2⟩ := ol.cons
    obtain ⟨d', f, e1, e2, e3⟩ := ownL_get (i := i) h2 (by simpa using h)
    exact ⟨d', f, by simpa using e1, e2, e3.trans (List.sublist_append_right _ _)⟩
theorem fo_ixO (ha : FLs X XD es pl) (hb : FE X XD b pb) (hs : PlainIx b := by intro _ _; rfl) : FO X XD (.Subscript (.List es p) b pos) (mIxO pl pb) :=
  DE_imp (de_ixF (df_lst ha) hb hs) fun ε S Q h => by
    obtain ⟨εp, fp, o, εp', st, e, k⟩ := h
    unfold mIxO at e
    split at e
    · cases e
    · rename_i x ε1 e1
      cases e
      exact ⟨εp, fp, .ex x, _, st, e1, k⟩
    · rename_i as ε1 e1
      split at e
      · rename_i hc
        refine ⟨εp, fp, .ok as, ε1, st, e1, fun S1 fp1 fq ds own ar nd n => ?_⟩
        have ol := pvs_own' hc.2 ar
        refine ⟨by rw [argR_len ar]; exact hc.1, ?_⟩
        unfold mBind at e
        split at e
        · cases e
        · rename_i y ε2 e2
          refine ⟨ε1, fp1, .ok y, ε2, ⟨own, (app_nodup nd).1⟩, e2, fun S2 fp2 st2 n2 => ?_⟩
          obtain ⟨k1, k2, k3⟩ := Nx.rest nd n2 ol.dom st2.nd
          have ol2 := ol.frame _ k1
          dsimp only at e
          unfold mLift at e
          split at e
          · cases e
          · rename_i v hv
            cases e
            split at hv
            · rename_i i
              unfold atI at hv
              cases hj : ixN (pvs as).length i with
              | none => rw [hj] at hv; cases hv
              | some j =>
                rw [hj] at hv
                obtain ⟨d, f, e3, ov, sb⟩ := ownL_get ol2 hv
                refine ⟨i, rfl, d, ?_, k S2 fp2 f d st2.own ov (nodup_app st2.nd (sb.nodup (app_nodup k2).2.1) fun a ha hb => (app_nodup k2).2.2 a ha (sb.subset hb)) ?_⟩
                · unfold atI
                  rw [ol2.length, hj]
                  exact e3
                · refine (n.trans k3).perm (fun _ => Iff.rfl) fun a ha => ?_
                  rcases List.mem_append.mp ha with ha | ha
                  · exact List.mem_append_left _ ha
                  · exact List.mem_append_right _ (sb.subset ha)
            · cases hv
        · rename_i x ε2 e2
          cases e
          refine ⟨ε1, fp1, .ex x, _, ⟨own, (app_nodup nd).1⟩, e2, fun S2 fp2 st2 n2 => ?_⟩
          obtain ⟨k1, k2, k3⟩ := Nx.rest nd n2 ol.dom st2.nd
          exact k S2 fp2 st2 ((n.trans k3).perm (fun _ => Iff.rfl) fun a ha => List.mem_append_left _ ha)
      · cases e
end
theorem lawF {m : List D → Option D} {ns : List Int} (h : m [.ilst (ns.map D.int)] = some (.bl true)) : spP m [.ilst (ns.map D.int)] (fun _ => none) fun d _ => d = .bl true := ⟨_, h, rfl⟩
end FL

namespace FL
open PySem PySem.Spec PyProof.Rows L2 DL

@[simp] theorem mPure_run {α : Type} (a : α) (ε : PEnv) : mPure a ε = (fun ε => some (.ok a, ε)) ε := rfl
@[simp] theorem mBind_run {α β : Type} (p : M α) (f : α → M β) (ε : PEnv) : mBind p f ε = (fun ε => match p ε with
  | none => none
  | some (.ok a, ε') => f a ε'
  | some (.ex e, ε') => some (.ex e, ε')) ε := rfl
@[simp] theorem mLift_run {α : Type} (o : Option α) (ε : PEnv) : mLift o ε = (fun ε => match o with
  | none => none
  | some a => some (.ok a, ε)) ε := rfl
@[simp] theorem mMap_run {α β : Type} (f : α → β) (p : M α) (ε : PEnv) : mMap f p ε = (mBind p fun a => mPure (f a)) ε := rfl
@[simp] theorem mVar_run (i : Nat) (ε : PEnv) : mVar i ε = (fun ε => match ε[i]? with
  | some (some (.val d)) => some (.ok d, ε)
  | _ => none) ε := rfl
@[simp] theorem mGetL_run (i : Nat) (ε : PEnv) : mGetL i ε = (fun ε => match ε[i]? with
  | some (some (.lst ds)) => some (.ok ds, ε)
  | _ => none) ε := rfl
@[simp] theorem mModL_run (i : Nat) (f : List D → Option (α × List D)) (ε : PEnv) : mModL i f ε = (fun ε => match ε[i]? with
  | some (some (.lst ds)) => match f ds with
    | some (a, ds') => some (.ok a, ε.set i (some (.lst ds')))
    | none => none
  | _ => none) ε := rfl
@[simp] theorem mOp2_run (f : D → D → Option D) (pa pb : M D) (ε : PEnv) : mOp2 f pa pb ε = (mBind pa fun x => mBind pb fun y => mLift (f x y)) ε := rfl
@[simp] theorem mB_run (p : M D) (ε : PEnv) : mB p ε = (mBind p fun x => mLift (toB x)) ε := rfl
@[simp] theorem mChain_run (f g : D → D → Option D) (pa pb pc : M D) (ε : PEnv) : mChain f g pa pb pc ε = (mBind pa fun x => mBind pb fun y => mBind (mLift (f x y)) fun z => mBind (mLift (toB z)) fun k => if k = true then mBind pc fun w => mLift (g y w) else mPure (.bl false)) ε := rfl
@[simp] theorem mIsN_run (pa : M D) (ε : PEnv) : mIsN pa ε = (mBind pa fun x => mPure (.bl (isNon x))) ε := rfl
@[simp] theorem mNotN_run (pa : M D) (ε : PEnv) : mNotN pa ε = (mBind pa fun x => mPure (.bl (!isNon x))) ε := rfl
@[simp] theorem mAnd_run (t u : M Bool) (ε : PEnv) : mAnd t u ε = (mBind t fun k => if k = true then u else mPure false) ε := rfl
@[simp] theorem mOr_run (t u : M Bool) (ε : PEnv) : mOr t u ε = (mBind t fun k => if k = true then mPure true else u) ε := rfl
@[simp] theorem mNot_run (t : M Bool) (ε : PEnv) : mNot t ε = (mBind t fun k => mPure (!k)) ε := rfl
@[simp] theorem mIf_run {α : Type} (t : M Bool) (p q : M α) (ε : PEnv) : mIf t p q ε = (mBind t fun k => if k = true then p else q) ε := rfl
@[simp] theorem mAndV_run (pa pb : M D) (ε : PEnv) : mAndV pa pb ε = (mBind (mB pa) fun k => if k = true then pb else mPure (.bl false)) ε := rfl
@[simp] theorem mOrV_run (pa pb : M D) (ε : PEnv) : mOrV pa pb ε = (mBind (mB pa) fun k => if k = true then mPure (.bl true) else pb) ε := rfl
@[simp] theorem mNotV_run (pa : M D) (ε : PEnv) : mNotV pa ε = (mBind (mB pa) fun k => mPure (.bl (!k))) ε := rfl
@[simp] theorem mNil_run  (ε : PEnv) : mNil ε = (mPure []) ε := rfl
@[simp] theorem mCons_run (pa : M D) (pas : M (List D)) (ε : PEnv) : mCons pa pas ε = (mBind pa fun x => mBind pas fun xs => mPure (x :: xs)) ε := rfl
@[simp] theorem mTup_run (pas : M (List D)) (ε : PEnv) : mTup pas ε = (mBind pas fun ds => mBind (mLift (short 1000 ds)) fun ds => mPure (.tup ds)) ε := rfl
@[simp] theorem mLst_run (pas : M (List D)) (ε : PEnv) : mLst pas ε = (mBind pas fun ds => mLift (short 1000 ds)) ε := rfl
@[simp] theorem mInL_run (neg : Bool) (pa : M D) (i : Nat) (ε : PEnv) : mInL neg pa i ε = (mBind pa fun x => mBind (mGetL i) fun ds => mLift (fIn neg x (.tup ds))) ε := rfl
@[simp] theorem mNilL_run (neg : Bool) (i : Nat) (ε : PEnv) : mNilL neg i ε = (mBind (mGetL i) fun ds => mPure (.bl (if neg then !ds.isEmpty else ds.isEmpty))) ε := rfl
@[simp] theorem mIx_run (pa pb : M D) (ε : PEnv) : mIx pa pb ε = (mOp2 fIx pa pb) ε := rfl
@[simp] theorem mIxL_run (i : Nat) (pb : M D) (ε : PEnv) : mIxL i pb ε = (mBind (mGetL i) fun _ => mBind pb fun y => mBind (mGetL i) fun ds => mLift (fIx (.tup ds) y)) ε := rfl
@[simp] theorem mIxF_run (pf : M (List D)) (pb : M D) (ε : PEnv) : mIxF pf pb ε = (mBind pf fun ds => mBind pb fun y => mLift (fIx (.tup ds) y)) ε := rfl
@[simp] theorem mNoPart_run  (ε : PEnv) : mNoPart ε = (mPure none) ε := rfl
@[simp] theorem mPart_run (pa : M D) (ε : PEnv) : mPart pa ε = (mBind pa fun x => mBind (mLift (toI x)) fun i => mPure (some i)) ε := rfl
@[simp] theorem mSlT_run (pa : M D) (pl ph : M (Option Int)) (ε : PEnv) : mSlT pa pl ph ε = (mBind pa fun x => mBind pl fun l => mBind ph fun u => mBind (mLift (toT x)) fun ds => mPure (.tup (cutG ds l u))) ε := rfl
@[simp] theorem mSlL_run (i : Nat) (pl ph : M (Option Int)) (ε : PEnv) : mSlL i pl ph ε = (mBind (mGetL i) fun _ => mBind pl fun l => mBind ph fun u => mBind (mGetL i) fun ds => mPure (cutG ds l u)) ε := rfl
@[simp] theorem mRevL_run (i : Nat) (ε : PEnv) : mRevL i ε = (mBind (mGetL i) fun ds => mPure ds.reverse) ε := rfl
@[simp] theorem mRevT_run (pa : M D) (ε : PEnv) : mRevT pa ε = (mBind pa fun x => mBind (mLift (toT x)) fun ds => mPure (.tup ds.reverse)) ε := rfl
@[simp] theorem mCatFF_run (pf pg : M (List D)) (ε : PEnv) : mCatFF pf pg ε = (mBind pf fun xs => mBind pg fun ys => mLift (cat xs ys)) ε := rfl
@[simp] theorem mCatVF_run (i : Nat) (pg : M (List D)) (ε : PEnv) : mCatVF i pg ε = (mBind (mGetL i) fun _ => mBind pg fun ys => mBind (mGetL i) fun xs => mLift (cat xs ys)) ε := rfl
@[simp] theorem mCatFV_run (pf : M (List D)) (i : Nat) (ε : PEnv) : mCatFV pf i ε = (mBind pf fun xs => mBind (mGetL i) fun ys => mLift (cat xs ys)) ε := rfl
@[simp] theorem mCatVV_run (i j : Nat) (ε : PEnv) : mCatVV i j ε = (mBind (mGetL i) fun xs => mBind (mGetL j) fun ys => mLift (cat xs ys)) ε := rfl
@[simp] theorem mRepF_run (pf : M (List D)) (pb : M D) (ε : PEnv) : mRepF pf pb ε = (mBind pf fun xs => mBind pb fun y => mLift (rep xs y)) ε := rfl
@[simp] theorem mRepV_run (i : Nat) (pb : M D) (ε : PEnv) : mRepV i pb ε = (mBind (mGetL i) fun _ => mBind pb fun y => mBind (mGetL i) fun xs => mLift (rep xs y)) ε := rfl
@[simp] theorem mTupF_run (pf : M (List D)) (ε : PEnv) : mTupF pf ε = (mBind pf fun ds => mPure (.tup ds)) ε := rfl
@[simp] theorem mTupV_run (pa : M D) (ε : PEnv) : mTupV pa ε = (mBind pa fun x => mBind (mLift (items x)) fun ds => mPure (.tup ds)) ε := rfl
@[simp] theorem mTupL_run (i : Nat) (ε : PEnv) : mTupL i ε = (mBind (mGetL i) fun ds => mPure (.tup ds)) ε := rfl
@[simp] theorem mListV_run (pa : M D) (ε : PEnv) : mListV pa ε = (mBind pa fun x => mLift (items x)) ε := rfl
@[simp] theorem mAllF_run (pf : M (List D)) (ε : PEnv) : mAllF pf ε = (mBind pf fun ds => mBind (mLift (bools ds)) fun bs => mPure (.bl (bs.all id))) ε := rfl
@[simp] theorem mAnyF_run (pf : M (List D)) (ε : PEnv) : mAnyF pf ε = (mBind pf fun ds => mBind (mLift (bools ds)) fun bs => mPure (.bl (bs.any id))) ε := rfl
@[simp] theorem mSumF_run (pf : M (List D)) (ε : PEnv) : mSumF pf ε = (mBind pf fun ds => mBind (mLift (intsL ds)) fun ns => mPure (.int ns.sum)) ε := rfl
@[simp] theorem mCB_run (f : List D → Option D) (pas : M (List D)) (ε : PEnv) : mCB f pas ε = (mBind pas fun ds => mLift (f ds)) ε := rfl
@[simp] theorem mLenL_run (i : Nat) (ε : PEnv) : mLenL i ε = (mBind (mGetL i) fun ds => mPure (.int ds.length)) ε := rfl
@[simp] theorem mAppL_run (i : Nat) (pa : M D) (ε : PEnv) : mAppL i pa ε = (mBind (mGetL i) fun _ => mBind pa fun x => mModL i (appL x)) ε := rfl
@[simp] theorem mPopL_run (i : Nat) (ε : PEnv) : mPopL i ε = (mModL i popL) ε := rfl
@[simp] theorem mPopAtL_run (i : Nat) (pa : M D) (ε : PEnv) : mPopAtL i pa ε = (mBind (mGetL i) fun _ => mBind pa fun y => mModL i (popAtL y)) ε := rfl
@[simp] theorem mExtF_run (i : Nat) (pf : M (List D)) (ε : PEnv) : mExtF i pf ε = (mBind (mGetL i) fun _ => mBind pf fun ys => mModL i (extL ys)) ε := rfl
@[simp] theorem mExtL_run (i j : Nat) (ε : PEnv) : mExtL i j ε = (mBind (mGetL i) fun _ => mBind (mGetL j) fun ys => mModL i (extL ys)) ε := rfl
@[simp] theorem mCountT_run (pa pb : M D) (ε : PEnv) : mCountT pa pb ε = (mBind pa fun x => mBind (mLift (toT x)) fun _ => mBind pb fun y => mLift (fCount x y)) ε := rfl
@[simp] theorem mNeg_run (pa : M D) (ε : PEnv) : mNeg pa ε = (mBind pa fun x => mLift (fNeg x)) ε := rfl
@[simp] theorem mArgV_run (pa : M D) (pr : M (List PArg)) (ε : PEnv) : mArgV pa pr ε = (mBind pa fun d => mMap (PArg.v d :: ·) pr) ε := rfl
@[simp] theorem mArgS_run (i : Nat) (pr : M (List PArg)) (ε : PEnv) : mArgS i pr ε = (fun ε => match ε[i]? with
  | some (some _) => mMap (PArg.s i :: ·) pr ε
  | _ => none) ε := rfl
@[simp] theorem mArgN_run (pa : M PV) (pr : M (List PArg)) (ε : PEnv) : mArgN pa pr ε = (fun ε => match pa ε with
  | none => none
  | some (.ok v, ε') => mMap (PArg.n v :: ·) pr ε'
  | some (.ex e, ε') => some (.ex e, ε')) ε := rfl
@[simp] theorem mCall_run (m : FM) (pl : M (List PArg)) (ε : PEnv) : mCall m pl ε = (fun ε => match pl ε with
  | none => none
  | some (.ex e, ε1) => some (.ex e, ε1)
  | some (.ok as, ε1) => match takeA as ε1 with
    | none => none
    | some (ps, ε2) => match m ps with
      | none => none
      | some (o, ps') => match giveA as ps' ε2 with
        | none => none
        | some ε3 => some (o, ε3)) ε := rfl
@[simp] theorem mV_run (p : M PV) (ε : PEnv) : mV p ε = (fun ε => match p ε with
  | none => none
  | some (.ok (.val d), ε') => some (.ok d, ε')
  | some (.ok _, _) => none
  | some (.ex e, ε') => some (.ex e, ε')) ε := rfl
@[simp] theorem mCallP_run (mp : List D → Option D) (pas : M (List D)) (ε : PEnv) : mCallP mp pas ε = (mBind pas fun ds => mLift (mp ds)) ε := rfl
@[simp] theorem mSeq_run (p q : M Res) (ε : PEnv) : mSeq p q ε = (mBind p fun r => match r with
  | .nx => q
  | r => mPure r) ε := rfl
@[simp] theorem mPut_run (i : Nat) (v : PV) (ε : PEnv) : mPut i v ε = (fun ε => if i < ε.length then some (.ok .nx, ε.set i (some v)) else none) ε := rfl
@[simp] theorem mSet_run (i : Nat) (p : M D) (ε : PEnv) : mSet i p ε = (mBind p fun d => mPut i (.val d)) ε := rfl
@[simp] theorem mSetO_run (i : Nat) (p : M PV) (ε : PEnv) : mSetO i p ε = (fun ε => match p ε with
  | none => none
  | some (.ok v, ε') => mPut i v ε'
  | some (.ex e, ε') => some (.ex e, ε')) ε := rfl
@[simp] theorem mRet_run (p : M D) (ε : PEnv) : mRet p ε = (mMap (fun d => .rt (.val d)) p) ε := rfl
@[simp] theorem mRetO_run (p : M PV) (ε : PEnv) : mRetO p ε = (fun ε => match p ε with
  | none => none
  | some (.ok v, ε') => some (.ok (.rt v), ε')
  | some (.ex e, ε') => some (.ex e, ε')) ε := rfl
@[simp] theorem mRetV_run (i : Nat) (ε : PEnv) : mRetV i ε = (fun ε => match ε[i]? with
  | some (some p) => some (.ok (.rt p), ε.set i none)
  | _ => none) ε := rfl
@[simp] theorem mDrop_run (p : M D) (ε : PEnv) : mDrop p ε = (mMap (fun _ => .nx) p) ε := rfl
@[simp] theorem mAsg_run (p : M D) (g : GM) (ε : PEnv) : mAsg p g ε = (mBind p fun d => fun ε => match g d ε with
  | some ε' => some (.ok .nx, ε')
  | none => none) ε := rfl
@[simp] theorem mFor_run (p : M (List DL.D)) (c : List DL.D → PEnv → Bool) (g : GM) (b : M Res) (ε : PEnv) : mFor p c g b ε = (mBind p fun ds => mLoop (c ds) g b ds) ε := rfl
@[simp] theorem mItT_run (pa : M D) (ε : PEnv) : mItT pa ε = (mBind pa fun x => mLift (toT x)) ε := rfl
@[simp] theorem mItO_run (po : M PV) (ε : PEnv) : mItO po ε = (fun ε => match po ε with
  | none => none
  | some (.ok (.lst ds), ε') => some (.ok ds, ε')
  | some (.ok _, _) => none
  | some (.ex e, ε') => some (.ex e, ε')) ε := rfl
@[simp] theorem mRng_run (pas : M (List D)) (ε : PEnv) : mRng pas ε = (mBind pas fun ds => mLift (rng ds)) ε := rfl
@[simp] theorem mRng1_run (pas : M (List D)) (ε : PEnv) : mRng1 pas ε = (mBind pas fun ds => mLift (rng1 ds)) ε := rfl
@[simp] theorem mRng2_run (pas : M (List D)) (ε : PEnv) : mRng2 pas ε = (mBind pas fun ds => mLift (rng2 ds)) ε := rfl
@[simp] theorem mEnT_run (pas : M (List D)) (ε : PEnv) : mEnT pas ε = (mBind pas fun ds => mLift (enumT ds)) ε := rfl
@[simp] theorem mEnL_run (i : Nat) (ε : PEnv) : mEnL i ε = (mBind (mGetL i) fun ds => mPure (pairsFrom 0 ds)) ε := rfl
@[simp] theorem mLc_run (p : M (List D)) (c : List D → PEnv → Bool) (g : GM) (tt : M Bool) (te : M D) (vs : List Nat) (ε : PEnv) : mLc p c g tt te vs ε = (mBind p fun ds => if ds.length ≤ 1000000 then mLcL (c ds) g tt te vs ds [] else fun _ => none) ε := rfl
@[simp] theorem mPar_run (is : List Nat) (pl : M (List PArg)) (ε : PEnv) : mPar is pl ε = (fun ε => match pl ε with
  | none => none
  | some (.ex e, ε') => some (.ex e, ε')
  | some (.ok as, ε') => if as.length = is.length then match putA (is.zip as) ε' with
    | some ε2 => some (.ok .nx, ε2)
    | none => none
    else none) ε := rfl
@[simp] theorem mSetIx_run (i : Nat) (pe pi : M D) (ε : PEnv) : mSetIx i pe pi ε = (mBind pe fun v => mBind (mGetL i) fun _ => mBind pi fun y => mBind (mModL i (setL y v)) fun _ => mPure .nx) ε := rfl
@[simp] theorem mGetA_run (i : Nat) (ε : PEnv) : mGetA i ε = (fun ε => match ε[i]? with
  | some (some (.val d)) => some (.ok (.val d), ε)
  | some (some (.lst ds)) => some (.ok (.lst ds), ε)
  | _ => none) ε := rfl
@[simp] theorem mIxA_run (i : Nat) (pb : M D) (ε : PEnv) : mIxA i pb ε = (mBind (mGetA i) fun _ => mBind pb fun y => mBind (mGetA i) fun v => mLift ((asD v).bind fun x => fIx x y)) ε := rfl
@[simp] theorem mLenA_run (i : Nat) (ε : PEnv) : mLenA i ε = (mBind (mGetA i) fun v => mLift ((asD v).bind fun x => fLen [x])) ε := rfl
@[simp] theorem mItA_run (i : Nat) (ε : PEnv) : mItA i ε = (fun ε => match ε[i]? with
  | some (some (.val (.tup ds))) => some (.ok ds, ε)
  | some (some (.val (.ilst ds))) => some (.ok ds, ε)
  | some (some (.lst ds)) => some (.ok ds, ε)
  | _ => none) ε := rfl
@[simp] theorem mGetD_run (i : Nat) (k : Key) (ε : PEnv) : mGetD i k ε = (fun ε => match ε[i]? with
  | some (some (.dic ks ps)) => some (.ok (dLook ks ps k), ε)
  | _ => none) ε := rfl
@[simp] theorem mIsD_run (i : Nat) (ε : PEnv) : mIsD i ε = (fun ε => match ε[i]? with
  | some (some (.dic _ _)) => some (.ok (), ε)
  | _ => none) ε := rfl
@[simp] theorem mIxK_run (i : Nat) (pb : M D) (ε : PEnv) : mIxK i pb ε = (mBind (mIsD i) fun _ => mBind pb fun y => mBind (mLift (keyS y)) fun k => mBind (mGetD i k) fun v => mLift (optV v)) ε := rfl
@[simp] theorem mGet2_run (i : Nat) (pa pb : M D) (ε : PEnv) : mGet2 i pa pb ε = (mBind (mIsD i) fun _ => mBind pa fun y => mBind pb fun z => mBind (mLift (keyOf y)) fun k => mBind (mGetD i k) fun v => mLift (match v with | none => some z | v => optV v)) ε := rfl
@[simp] theorem mInD_run (neg : Bool) (pa : M D) (i : Nat) (ε : PEnv) : mInD neg pa i ε = (mBind pa fun y => mBind (mLift (keyOf y)) fun k => mBind (mGetD i k) fun v => mPure (.bl (if neg then !v.isSome else v.isSome))) ε := rfl
@[simp] theorem mDisp_run (l : List (Key × M PV)) (ε : PEnv) : mDisp l ε = (fun ε => match mNs l ε with
  | none => none
  | some (.ok as, ε') => if as.length = l.length then some (.ok (.dic (l.map (·.1)) (pvs as)), ε') else none
  | some (.ex e, ε') => some (.ex e, ε')) ε := rfl
@[simp] theorem mRetT_run (pl : M (List PArg)) (ε : PEnv) : mRetT pl ε = (fun ε => match pl ε with
  | none => none
  | some (.ex e, ε') => some (.ex e, ε')
  | some (.ok as, ε') => match takeA as ε' with
    | some (ps, ε2) => if as.length ≤ 1000 then some (.ok (.rt (.ptup ps)), ε2) else none
    | none => none) ε := rfl
@[simp] theorem mAsgT_run (is : List Nat) (po : M PV) (ε : PEnv) : mAsgT is po ε = (fun ε => match po ε with
  | none => none
  | some (.ex e, ε') => some (.ex e, ε')
  | some (.ok (.ptup ps), ε') => if ps.length = is.length then match putL (is.zip ps) ε' with
    | some ε2 => some (.ok .nx, ε2)
    | none => none
    else none
  | some (.ok _, _) => none) ε := rfl
@[simp] theorem mPutK_run (i : Nat) (k : Key) (d : D) (ε : PEnv) : mPutK i k d ε = (fun ε => match ε[i]? with
  | some (some (.dic ks ps)) => if ks.length ≤ 1000000 then some (.ok (), ε.set i (some (.dic (dPut ks ps k d).1 (dPut ks ps k d).2))) else none
  | _ => none) ε := rfl
@[simp] theorem mSetK_run (i : Nat) (pe pi : M D) (ε : PEnv) : mSetK i pe pi ε = (mBind pe fun v => mBind (mIsD i) fun _ => mBind pi fun y => mBind (mLift (keyS y)) fun k => mBind (mPutK i k v) fun _ => mPure .nx) ε := rfl
@[simp] theorem mGetKL_run (i : Nat) (k : Key) (ε : PEnv) : mGetKL i k ε = (fun ε => match ε[i]? with
  | some (some (.dic ks ps)) => match dLook ks ps k with
    | some (.lst ds) => some (.ok ds, ε)
    | _ => none
  | _ => none) ε := rfl
@[simp] theorem mModKL_run {α : Type} (i : Nat) (k : Key) (f : List D → Option (α × List D)) (ε : PEnv) : mModKL i k f ε = (fun ε => match ε[i]? with
  | some (some (.dic ks ps)) => match dLook ks ps k with
    | some (.lst ds) => match f ds with
      | some (a, ds') => some (.ok a, ε.set i (some (.dic ks (dRepl ks ps k (.lst ds')))))
      | none => none
    | _ => none
  | _ => none) ε := rfl
@[simp] theorem mIxKL_run (i : Nat) (x : Str) (y : D) (ε : PEnv) : mIxKL i x y ε = (mBind (mGetKL i (.inr x)) fun ds => mLift (fIx (.tup ds) y)) ε := rfl
@[simp] theorem mSetKL_run (i : Nat) (x : Str) (pe : M D) (y : D) (ε : PEnv) : mSetKL i x pe y ε = (mBind pe fun v => mBind (mModKL i (.inr x) (setL y v)) fun _ => mPure .nx) ε := rfl
@[simp] theorem mDictT_run (pa : M D) (ε : PEnv) : mDictT pa ε = (mBind pa fun x => mBind (mLift (toT x)) fun ds => mBind (mLift (pairKs ds)) fun kvs => mPure (mergeD [] kvs)) ε := rfl
@[simp] theorem mIxDict_run (pa pb : M D) (ε : PEnv) : mIxDict pa pb ε = (mBind (mDictT pa) fun kvs => mBind pb fun y => mBind (mLift (keyS y)) fun k => mLift (valD kvs k)) ε := rfl
@[simp] theorem mDict_run (pa : M D) (ε : PEnv) : mDict pa ε = (mBind (mDictT pa) fun kvs => mPure (fDict kvs)) ε := rfl
@[simp] theorem mIxO_run (pl : M (List PArg)) (pb : M D) (ε : PEnv) : mIxO pl pb ε = (fun ε => match pl ε with
  | none => none
  | some (.ex e, ε') => some (.ex e, ε')
  | some (.ok as, ε') => if as.length ≤ 1000 ∧ (pvs as).length = as.length then mBind pb (fun y => mLift (match y with | .int i => atI (pvs as) i | _ => none)) ε' else none) ε := rfl

@[simp] theorem fnP_run (np n : Nat) (body : M Res) (ds : List D) : fnP np n body ds = if ds.length = np then runP n body ds else none := rfl
@[simp] theorem fnF_run (np : Nat) (io : List Nat) (n : Nat) (body : M Res) (ps : List PV) : fnF np io n body ps = if ps.length = np then runF io n body ps else none := rfl
@[simp] theorem runP_run (n : Nat) (body : M Res) (ds : List D) : runP n body ds = match body (startP n (ds.map .val)) with
  | some (.ok (.rt (.val d)), _) => some d
  | some (.ok .nx, _) => some .non
  | _ => none := rfl
@[simp] theorem runF_run (io : List Nat) (n : Nat) (body : M Res) (ps : List PV) : runF io n body ps = match body (startP n ps) with
  | some (.ok (.rt v), ε) => match outsF io 0 ps ε with
    | some ps' => some (.ok v, ps')
    | none => none
  | some (.ok .nx, ε) => match outsF io 0 ps ε with
    | some ps' => some (.ok (.val .non), ps')
    | none => none
  | _ => none := rfl
@[simp] theorem startP_run (n : Nat) (ps : List PV) : startP n ps = ps.map some ++ List.replicate (n - ps.length) none := rfl
@[simp] theorem rep_succ {α : Type} (n : Nat) (a : α) : List.replicate (n + 1) a = a :: List.replicate n a := rfl
@[simp] theorem outsF_nil (io : List Nat) (i : Nat) (ε : PEnv) : outsF io i [] ε = some [] := rfl
@[simp] theorem outsF_cons (io : List Nat) (i : Nat) (p : PV) (ps : List PV) (ε : PEnv) : outsF io i (p :: ps) ε = if io.contains i = true then (match ε[i]? with
      | some (some q) => match outsF io (i + 1) ps (ε.set i none) with
        | some r => some (q :: r)
        | none => none
      | _ => none)
    else match p with
      | .val d => match outsF io (i + 1) ps ε with
        | some r => some (.val d :: r)
        | none => none
      | _ => none := rfl
@[simp] theorem takeA_nil (ε : PEnv) : takeA [] ε = some ([], ε) := rfl
@[simp] theorem takeA_v (d : D) (r : List PArg) (ε : PEnv) : takeA (.v d :: r) ε = match takeA r ε with
    | some (ps, ε') => some (.val d :: ps, ε')
    | none => none := rfl
@[simp] theorem takeA_s (i : Nat) (r : List PArg) (ε : PEnv) : takeA (.s i :: r) ε = match ε[i]? with
    | some (some p) => match takeA r (ε.set i none) with
      | some (ps, ε') => some (p :: ps, ε')
      | none => none
    | _ => none := rfl
@[simp] theorem takeA_n (p : PV) (r : List PArg) (ε : PEnv) : takeA (.n p :: r) ε = match takeA r ε with
    | some (ps, ε') => some (p :: ps, ε')
    | none => none := rfl
@[simp] theorem giveA_nil (ε : PEnv) : giveA [] [] ε = some ε := rfl
@[simp] theorem giveA_v (d : D) (r : List PArg) (p : PV) (ps : List PV) (ε : PEnv) : giveA (.v d :: r) (p :: ps) ε = giveA r ps ε := rfl
@[simp] theorem giveA_s (i : Nat) (r : List PArg) (p : PV) (ps : List PV) (ε : PEnv) : giveA (.s i :: r) (p :: ps) ε = if i < ε.length then giveA r ps (ε.set i (some p)) else none := rfl
@[simp] theorem giveA_n (q : PV) (r : List PArg) (p : PV) (ps : List PV) (ε : PEnv) : giveA (.n q :: r) (p :: ps) ε = giveA r ps ε := rfl
@[simp] theorem putA_nil (ε : PEnv) : putA [] ε = some ε := rfl
@[simp] theorem putA_v (i : Nat) (d : D) (r : List (Nat × PArg)) (ε : PEnv) : putA ((i, .v d) :: r) ε = if i < ε.length then putA r (ε.set i (some (.val d))) else none := rfl
@[simp] theorem putA_n (i : Nat) (p : PV) (r : List (Nat × PArg)) (ε : PEnv) : putA ((i, .n p) :: r) ε = if i < ε.length then putA r (ε.set i (some p)) else none := rfl
@[simp] theorem putL_nil (ε : PEnv) : putL [] ε = some ε := rfl
@[simp] theorem putL_cons (i : Nat) (p : PV) (r : List (Nat × PV)) (ε : PEnv) : putL ((i, p) :: r) ε = if i < ε.length then putL r (ε.set i (some p)) else none := rfl
@[simp] theorem gN_run (i : Nat) (d : D) (ε : PEnv) : gN i d ε = if i < ε.length then some (ε.set i (some (.val d))) else none := rfl
@[simp] theorem gNil_run (ε : PEnv) : gNil [] ε = some ε := rfl
@[simp] theorem gCons_run (g : GM) (h : GsM) (d : D) (r : List D) (ε : PEnv) : gCons g h (d :: r) ε = match g d ε with
    | some ε' => h r ε'
    | none => none := rfl
@[simp] theorem gTup_run (n : Nat) (h : GsM) (ds : List D) (ε : PEnv) : gTup n h (.tup ds) ε = if ds.length = n then h ds ε else none := rfl
@[simp] theorem wipeP_nil (ε : PEnv) : wipeP ε [] = ε := rfl
@[simp] theorem wipeP_cons (ε : PEnv) (v : Nat) (vs : List Nat) : wipeP ε (v :: vs) = (wipeP ε vs).set v none := rfl
@[simp] theorem restore_nil (ε0 ε1 : PEnv) : restore ε0 ε1 [] = ε1 := rfl
@[simp] theorem restore_cons (ε0 ε1 : PEnv) (v : Nat) (vs : List Nat) : restore ε0 ε1 (v :: vs) = (restore ε0 ε1 vs).set v (keepV ε0 v) := rfl
@[simp] theorem keepV_run (ε0 : PEnv) (v : Nat) : keepV ε0 v = match ε0[v]? with
  | some (some (.val d)) => some (.val d)
  | _ => none := rfl
@[simp] theorem cYes_run (ds : List D) (ε : PEnv) : cYes ds ε = true := rfl
@[simp] theorem cSlot_run (i : Nat) (ds : List D) (ε : PEnv) : cSlot i ds ε = match ε[i]? with
  | some (some (.lst es)) => sameL ds es
  | _ => false := rfl
@[simp] theorem sameL_self (ds : List D) : sameL ds ds = true := sameL_refl ds
@[simp] theorem pvs_nil : pvs [] = [] := rfl
@[simp] theorem pvs_n (p : PV) (r : List PArg) : pvs (.n p :: r) = p :: pvs r := rfl
@[simp] theorem toB_bl (b : Bool) : toB (.bl b) = some b := rfl
@[simp] theorem toI_int (i : Int) : toI (.int i) = some i := rfl
@[simp] theorem toT_tup (ds : List D) : toT (.tup ds) = some ds := rfl
@[simp] theorem items_tup (ds : List D) : items (.tup ds) = some ds := rfl
@[simp] theorem items_ilst (ds : List D) : items (.ilst ds) = some ds := rfl
@[simp] theorem keyOf_str (x : Str) : keyOf (.str x) = some (.inr x) := rfl
@[simp] theorem keyS_str (x : Str) : keyS (.str x) = some (.inr x) := rfl
@[simp] theorem asD_val (d : D) : asD (.val d) = some d := rfl
@[simp] theorem asD_lst (ds : List D) : asD (.lst ds) = some (.tup ds) := rfl
@[simp] theorem optV_val (d : D) : optV (some (.val d)) = some d := rfl
@[simp] theorem fAdd_int (i j : Int) : fAdd (.int i) (.int j) = some (.int (i + j)) := rfl
@[simp] theorem fAdd_str (a b : Str) : fAdd (.str a) (.str b) = if a.length + b.length ≤ 1000000 then some (.str (a ++ b)) else none := rfl
@[simp] theorem fAdd_tup (a b : List D) : fAdd (.tup a) (.tup b) = if a.length + b.length ≤ 1000000 then some (.tup (a ++ b)) else none := rfl
@[simp] theorem fSub_int (i j : Int) : fSub (.int i) (.int j) = some (.int (i - j)) := rfl
@[simp] theorem fMul_int (i j : Int) : fMul (.int i) (.int j) = if i.natAbs.log2 + j.natAbs.log2 < 1000000 then some (.int (i * j)) else none := rfl
@[simp] theorem fMul_str (a : Str) (i : Int) : fMul (.str a) (.int i) = if -1000 ≤ i ∧ i ≤ 1000 ∧ a.length ≤ 1000 then some (.str (strMul a i)) else none := rfl
@[simp] theorem fMul_tup (ds : List D) (i : Int) : fMul (.tup ds) (.int i) = if ds ≠ [] ∧ 2 ≤ i ∧ i ≤ 1000 ∧ ds.length ≤ 1000 then some (.tup (List.replicate i.toNat ds).flatten) else none := rfl
@[simp] theorem fDiv_int (i j : Int) : fDiv (.int i) (.int j) = if 0 < j ∧ j.natAbs.log2 < 9000 then some (.int (i / j)) else none := rfl
@[simp] theorem fMod_int (i j : Int) : fMod (.int i) (.int j) = if 0 < j then some (.int (i % j)) else none := rfl
@[simp] theorem fPow_int (i j : Int) : fPow (.int i) (.int j) = if 0 ≤ j ∧ j ≤ 1000000 ∧ i.natAbs < 2 ^ 64 then some (.int (i ^ j.toNat)) else none := rfl
@[simp] theorem fLt_int (i j : Int) : fLt (.int i) (.int j) = some (.bl (decide (i < j))) := rfl
@[simp] theorem fLe_int (i j : Int) : fLe (.int i) (.int j) = some (.bl (decide (i ≤ j))) := rfl
@[simp] theorem fGt_int (i j : Int) : fGt (.int i) (.int j) = some (.bl (decide (j < i))) := rfl
@[simp] theorem fGe_int (i j : Int) : fGe (.int i) (.int j) = some (.bl (decide (j ≤ i))) := rfl
@[simp] theorem fEq_str (neg : Bool) (a b : Str) : fEq neg (.str a) (.str b) = some (.bl (if neg then !decide (a = b) else decide (a = b))) := rfl
@[simp] theorem fEq_int (neg : Bool) (a b : Int) : fEq neg (.int a) (.int b) = some (.bl (if neg then !decide (a = b) else decide (a = b))) := rfl
@[simp] theorem fIn_tup' (neg : Bool) (x : D) (ds : List D) : fIn neg x (.tup ds) = if flatD x = true ∧ ds.all flatD = true then some (.bl (if neg then !inD x ds else inD x ds)) else none := by
  cases x <;> rfl
@[simp] theorem fIsB_bl (neg a b : Bool) : fIsB neg (.bl a) (.bl b) = some (.bl (if neg then !decide (a = b) else decide (a = b))) := rfl
@[simp] theorem fIx_tup' (ds : List D) (i : Int) : fIx (.tup ds) (.int i) = atI ds i := rfl
@[simp] theorem fIx_ilst (ds : List D) (i : Int) : fIx (.ilst ds) (.int i) = atI ds i := rfl
@[simp] theorem fIx_str (z : Str) (i : Int) : fIx (.str z) (.int i) = if z.length ≤ 1000000 then (atI z.cps.toList i).map fun c => .str ⟨#[c]⟩ else none := rfl
@[simp] theorem fLen_tup (ds : List D) : fLen [.tup ds] = some (.int ds.length) := rfl
@[simp] theorem fLen_ilst (ds : List D) : fLen [.ilst ds] = some (.int ds.length) := rfl
@[simp] theorem fLen_str (z : Str) : fLen [.str z] = if z.length ≤ 1000000 then some (.int z.length) else none := rfl
@[simp] theorem fInt_int (i : Int) : fInt [.int i] = some (.int i) := rfl
@[simp] theorem fInt_bl (b : Bool) : fInt [.bl b] = some (.int (if b then 1 else 0)) := rfl
@[simp] theorem fMin_int (i j : Int) : fMin [.int i, .int j] = some (.int (if j < i then j else i)) := rfl
@[simp] theorem fMax_int (i j : Int) : fMax [.int i, .int j] = some (.int (if j > i then j else i)) := rfl
theorem rng1_ok {j : Int} (h0 : -1000000 ≤ j) (h : j ≤ 1000000) : rng1 [.int j] = some (DL.intsFrom 0 j.toNat) := by
  show (if _ then _ else none) = _
  rw [if_pos (by omega)]
@[simp] theorem enumT_tup (ds : List D) : enumT [.tup ds] = some (pairsFrom 0 ds) := rfl
@[simp] theorem atI_0 (a : D) (ds : List D) : atI (a :: ds) 0 = some a := atI_nat (xs := a :: ds) (j := 0) rfl
@[simp] theorem atI_1 (a b : D) (ds : List D) : atI (a :: b :: ds) 1 = some b := atI_nat (xs := a :: b :: ds) (j := 1) rfl
@[simp] theorem atI_2 (a b c : D) (ds : List D) : atI (a :: b :: c :: ds) 2 = some c := atI_nat (xs := a :: b :: c :: ds) (j := 2) rfl
@[simp] theorem atI_3 (a b c d : D) (ds : List D) : atI (a :: b :: c :: d :: ds) 3 = some d := atI_nat (xs := a :: b :: c :: d :: ds) (j := 3) rfl
@[simp] theorem atI_4 (a b c d e : D) (ds : List D) : atI (a :: b :: c :: d :: e :: ds) 4 = some e := atI_nat (xs := a :: b :: c :: d :: e :: ds) (j := 4) rfl
@[simp] theorem atI_5 (a b c d e f : D) (ds : List D) : atI (a :: b :: c :: d :: e :: f :: ds) 5 = some f := atI_nat (xs := a :: b :: c :: d :: e :: f :: ds) (j := 5) rfl
@[simp] theorem atI_6 (a b c d e f g : D) (ds : List D) : atI (a :: b :: c :: d :: e :: f :: g :: ds) 6 = some g := atI_nat (xs := a :: b :: c :: d :: e :: f :: g :: ds) (j := 6) rfl
@[simp] theorem atI_7 (a b c d e f g h : D) (ds : List D) : atI (a :: b :: c :: d :: e :: f :: g :: h :: ds) 7 = some h := atI_nat (xs := a :: b :: c :: d :: e :: f :: g :: h :: ds) (j := 7) rfl
theorem atI_get {α : Type} {xs : List α} {i : Int} {d : α} (h0 : 0 ≤ i) (h : xs[i.toNat]? = some d) : atI xs i = some d := by
  have := atI_nat h
  rwa [Int.toNat_of_nonneg h0] at this
theorem atI_lt {α : Type} {xs : List α} {i : Int} (h0 : 0 ≤ i) (h1 : i < xs.length) : ∃ x, atI xs i = some x ∧ x ∈ xs ∧ xs[i.toNat]? = some x := by
  have hl : i.toNat < xs.length := by omega
  exact ⟨_, atI_get h0 (List.getElem?_eq_getElem hl), List.getElem_mem hl, List.getElem?_eq_getElem hl⟩
@[simp] theorem ixN_0 (n : Nat) : ixN (n + 1) 0 = some 0 := by simp [ixN]
@[simp] theorem ixN_1 (n : Nat) : ixN (n + 1 + 1) 1 = some 1 := by
  unfold ixN
  simp
  omega
@[simp] theorem ixN_2 (n : Nat) : ixN (n + 1 + 1 + 1) 2 = some 2 := by
  unfold ixN
  simp
  omega
@[simp] theorem short_run (n : Nat) (ds : List D) : short n ds = if ds.length ≤ n then some ds else none := rfl
@[simp] theorem cat_run (xs ys : List D) : cat xs ys = if xs.length + ys.length ≤ 1000000 then some (xs ++ ys) else none := rfl
@[simp] theorem appL_run (x : D) (ds : List D) : appL x ds = if ds.length ≤ 1000000 then some (.non, ds ++ [x]) else none := rfl
@[simp] theorem extL_run (ys ds : List D) : extL ys ds = if ds.length + ys.length ≤ 1000000 then some (.non, ds ++ ys) else none := rfl
@[simp] theorem popL_snoc' (ds : List D) (d : D) : popL (ds ++ [d]) = some (d, ds) := popL_snoc
@[simp] theorem setL_int (i : Int) (v : D) (ds : List D) : setL (.int i) v ds = (ixN ds.length i).map fun j => ((), ds.set j v) := rfl
@[simp] theorem popAtL_int (i : Int) (ds : List D) : popAtL (.int i) ds = if 0 ≤ i ∧ ds.length ≤ 1000000 then (ds[i.toNat]?).map fun d => (d, ds.eraseIdx i.toNat) else none := rfl
@[simp] theorem rep_int (xs : List D) (i : Int) : rep xs (.int i) = if -1000 ≤ i ∧ i ≤ 1000 ∧ xs.length ≤ 1000 then some (List.replicate i.toNat xs).flatten else none := rfl
def Goes {α : Type} (r : Option (Out α × PEnv)) (P : α → PEnv → Prop) : Prop := match r with
  | some (.ok a, ε) => P a ε
  | _ => False
@[simp] theorem Goes_ok {α : Type} (a : α) (ε : PEnv) (P : α → PEnv → Prop) : Goes (some (.ok a, ε)) P = P a ε := rfl
theorem Goes.out {α : Type} {r : Option (Out α × PEnv)} {P : α → PEnv → Prop} (h : Goes r P) : ∃ a ε, r = some (.ok a, ε) ∧ P a ε := by
  unfold Goes at h
  split at h
  · exact ⟨_, _, rfl, h⟩
  · exact h.elim
def GoesG (r : Option PEnv) (P : PEnv → Prop) : Prop := match r with
  | some ε => P ε
  | none => False
@[simp] theorem GoesG_ok (ε : PEnv) (P : PEnv → Prop) : GoesG (some ε) P = P ε := rfl
theorem GoesG.out {r : Option PEnv} {P : PEnv → Prop} (h : GoesG r P) : ∃ ε, r = some ε ∧ P ε := by
  unfold GoesG at h
  split at h
  · exact ⟨_, rfl, h⟩
  · exact h.elim
theorem run_gen {α : Type} {toD : α → D} {c : PEnv → Bool} {g : GM} {b : M Res} (J : List α → PEnv → Prop) (P : Out Res → PEnv → Prop)
    (h0 : ∀ ε, J [] ε → c ε = true ∧ P (.ok .nx) ε)
    (h1 : ∀ x xs ε, J (x :: xs) ε → c ε = true ∧ ∃ ε1 o ε2, g (toD x) ε = some ε1 ∧ b ε1 = some (o, ε2) ∧ match o with
      | .ok .nx => J xs ε2
      | .ok .ct => J xs ε2
      | .ok .bk => P (.ok .nx) ε2
      | .ok (.rt v) => P (.ok (.rt v)) ε2
      | .ex e => P (.ex e) ε2) : ∀ (xs : List α) (ε : PEnv), J xs ε → ∃ o ε', mLoop c g b (xs.map toD) ε = some (o, ε') ∧ P o ε'
  | [], ε, h => by
    obtain ⟨hc, hp⟩ := h0 ε h
    exact ⟨_, ε, by simp only [List.map_nil, mLoop, hc, if_true], hp⟩
  | x :: xs, ε, h => by
    obtain ⟨hc, ε1, o, ε2, e1, e2, hm⟩ := h1 x xs ε h
    simp only [List.map_cons, mLoop, hc, if_true, e1, e2]
    cases o with
    | ex e => exact ⟨_, _, rfl, hm⟩
    | ok r =>
      cases r with
      | nx => exact run_gen J P h0 h1 xs ε2 hm
      | ct => exact run_gen J P h0 h1 xs ε2 hm
      | bk => exact ⟨_, _, rfl, hm⟩
      | rt v => exact ⟨_, _, rfl, hm⟩
theorem run_all {α : Type} {toD : α → D} {c : PEnv → Bool} {g : GM} {b : M Res} (J : List α → PEnv → Prop) (hc : ∀ xs ε, J xs ε → c ε = true)
    (h1 : ∀ x xs ε, J (x :: xs) ε → ∃ ε1 ε2, g (toD x) ε = some ε1 ∧ b ε1 = some (.ok .nx, ε2) ∧ J xs ε2) (xs : List α) (ε : PEnv) (h : J xs ε) : ∃ ε', mLoop c g b (xs.map toD) ε = some (.ok .nx, ε') ∧ J [] ε' := by
  obtain ⟨o, ε', e, p⟩ := run_gen (toD := toD) (c := c) (g := g) (b := b) J (fun o ε => o = .ok .nx ∧ J [] ε) (fun ε h => ⟨hc _ ε h, rfl, h⟩) (fun x xs ε h => by
    obtain ⟨ε1, ε2, e1, e2, hj⟩ := h1 x xs ε h
    exact ⟨hc _ ε h, ε1, .ok .nx, ε2, e1, e2, hj⟩) xs ε h
  obtain ⟨rfl, hj⟩ := p
  exact ⟨ε', e, hj⟩
theorem run_goes {α : Type} {toD : α → D} {c : PEnv → Bool} {g : GM} {b : M Res} (J : List α → PEnv → Prop) (hc : ∀ xs ε, J xs ε → c ε = true)
    (h1 : ∀ x xs ε, J (x :: xs) ε → GoesG (g (toD x) ε) fun ε1 => Goes (b ε1) fun r ε2 => r = .nx ∧ J xs ε2) (xs : List α) (ε : PEnv) (h : J xs ε) : ∃ ε', mLoop c g b (xs.map toD) ε = some (.ok .nx, ε') ∧ J [] ε' :=
  run_all J hc (fun x xs ε h => by
    obtain ⟨ε1, e1, h2⟩ := (h1 x xs ε h).out
    obtain ⟨r, ε2, e2, rfl, h3⟩ := h2.out
    exact ⟨ε1, ε2, e1, e2, h3⟩) xs ε h
theorem comp_map {α : Type} {toD : α → D} {c : PEnv → Bool} {g : GM} {tt : M Bool} {te : M D} {vs : List Nat} {ε : PEnv} (keep : α → Bool) (fn : α → D) (hc : c ε = true) : ∀ (xs : List α) (acc : List D),
    (∀ x ∈ xs, ∃ ε1, g (toD x) (wipeP ε vs) = some ε1 ∧ tt ε1 = some (.ok (keep x), ε1) ∧ (keep x = true → te ε1 = some (.ok (fn x), ε1)) ∧ restore ε ε1 vs = ε) →
    mLcL c g tt te vs (xs.map toD) acc ε = some (.ok (acc ++ (xs.filter keep).map fn), ε)
  | [], acc, h => by simp [mLcL, hc]
  | x :: xs, acc, h => by
    obtain ⟨ε1, e1, e2, e3, e4⟩ := h x List.mem_cons_self
    have h' := fun y hy => h y (List.mem_cons_of_mem _ hy)
    simp only [List.map_cons, mLcL, hc, if_true, e1, e2]
    by_cases hk : keep x = true
    · have e5 := e3 hk
      simp only [hk, e5, e4]
      rw [comp_map keep fn hc xs _ h']
      simp [List.filter_cons, hk]
    · have hk' : keep x = false := by simpa using hk
      simp only [hk', e4]
      rw [comp_map keep fn hc xs _ h']
      simp [List.filter_cons, hk']
theorem comp_inv {α : Type} {toD : α → D} {c : PEnv → Bool} {g : GM} {tt : M Bool} {te : M D} {vs : List Nat} (J : List α → List D → PEnv → Prop) (hc : ∀ xs acc ε, J xs acc ε → c ε = true)
    (h1 : ∀ x xs acc ε, J (x :: xs) acc ε → ∃ ε1 ε2 y ε3, g (toD x) (wipeP ε vs) = some ε1 ∧ tt ε1 = some (.ok true, ε2) ∧ te ε2 = some (.ok y, ε3) ∧ J xs (acc ++ [y]) (restore ε ε3 vs)) :
    ∀ (xs : List α) (acc : List D) (ε : PEnv), J xs acc ε → ∃ acc' ε', mLcL c g tt te vs (xs.map toD) acc ε = some (.ok acc', ε') ∧ J [] acc' ε'
  | [], acc, ε, h => ⟨acc, ε, by simp [mLcL, hc _ _ _ h], h⟩
  | x :: xs, acc, ε, h => by
    obtain ⟨ε1, ε2, y, ε3, e1, e2, e3, hj⟩ := h1 x xs acc ε h
    simp only [List.map_cons, mLcL, hc _ _ _ h, if_true, e1, e2, e3]
    exact comp_inv J hc h1 xs _ _ hj
theorem comp_goes {α : Type} {toD : α → D} {c : PEnv → Bool} {g : GM} {tt : M Bool} {te : M D} {vs : List Nat} (J : List α → List D → PEnv → Prop) (hc : ∀ xs acc ε, J xs acc ε → c ε = true)
    (h1 : ∀ x xs acc ε, J (x :: xs) acc ε → GoesG (g (toD x) (wipeP ε vs)) fun ε1 => Goes (tt ε1) fun k ε2 => k = true ∧ Goes (te ε2) fun y ε3 => J xs (acc ++ [y]) (restore ε ε3 vs)) (xs : List α) (acc : List D) (ε : PEnv) (h : J xs acc ε) :
    ∃ acc' ε', mLcL c g tt te vs (xs.map toD) acc ε = some (.ok acc', ε') ∧ J [] acc' ε' :=
  comp_inv J hc (fun x xs acc ε h => by
    obtain ⟨ε1, e1, h2⟩ := (h1 x xs acc ε h).out
    obtain ⟨k, ε2, e2, rfl, h3⟩ := h2.out
    obtain ⟨y, ε3, e3, h4⟩ := h3.out
    exact ⟨ε1, ε2, y, ε3, e1, e2, e3, h4⟩) xs acc ε h
theorem comp_look {α : Type} {toD : α → D} {c : PEnv → Bool} {g : GM} {tt : M Bool} {te : M D} {vs : List Nat} {ε : PEnv} (keep : α → Bool) (fn : α → D) (hc : c ε = true) (xs : List α)
    (h : ∀ x ∈ xs, GoesG (g (toD x) (wipeP ε vs)) fun ε1 => tt ε1 = some (.ok (keep x), ε1) ∧ (keep x = true → te ε1 = some (.ok (fn x), ε1)) ∧ restore ε ε1 vs = ε) :
    mLcL c g tt te vs (xs.map toD) [] ε = some (.ok ((xs.filter keep).map fn), ε) := by
  have := comp_map (g := g) (tt := tt) (te := te) (vs := vs) keep fn hc xs [] fun x hx => by
    obtain ⟨ε1, e1, h2⟩ := (h x hx).out
    exact ⟨ε1, e1, h2⟩
  simpa using this
theorem range_drop {n i : Nat} (h : i < n) : (List.range n).drop i = i :: (List.range n).drop (i + 1) := by
  rw [List.drop_eq_getElem_cons (by simpa using h)]
  simp
theorem intsFrom_eq (n : Nat) : DL.intsFrom 0 n = (List.range n).map fun i => D.int (i : Nat) := by
  unfold DL.intsFrom
  congr 1
  funext i
  rw [Int.zero_add]
theorem run_range {c : PEnv → Bool} {g : GM} {b : M Res} {n : Nat} (J : Nat → PEnv → Prop) (hc : ∀ ε, c ε = true)
    (h1 : ∀ (i : Nat) ε, i < n → J i ε → GoesG (g (.int (i : Nat)) ε) fun ε1 => Goes (b ε1) fun r ε2 => r = .nx ∧ J (i + 1) ε2) {ε : PEnv} (h : J 0 ε) : ∃ ε', mLoop c g b (DL.intsFrom 0 n) ε = some (.ok .nx, ε') ∧ J n ε' := by
  rw [intsFrom_eq]
  obtain ⟨ε', e, i, hi, e2, hj⟩ := run_goes (toD := fun i : Nat => D.int (i : Nat)) (c := c) (g := g) (b := b) (fun xs ε => ∃ i, i ≤ n ∧ xs = (List.range n).drop i ∧ J i ε) (fun _ ε _ => hc ε) (fun x xs ε ⟨i, hi, e, hj⟩ => by
    have hlt : i < n := by
      rcases Nat.lt_or_ge i n with q | q
      · exact q
      · rw [List.drop_eq_nil_of_le (by simpa using q)] at e
        cases e
    rw [range_drop hlt] at e
    cases e
    obtain ⟨ε1, e1, h2⟩ := (h1 x ε hlt hj).out
    obtain ⟨r, ε2, e2, h3, h4⟩ := h2.out
    rw [e1, GoesG_ok, e2, Goes_ok]
    exact ⟨h3, x + 1, hlt, rfl, h4⟩) (List.range n) ε ⟨0, Nat.zero_le _, rfl, h⟩
  have : i = n := by
    have := congrArg List.length e2
    simp at this
    omega
  subst this
  exact ⟨ε', e, hj⟩
theorem comp_range {c : PEnv → Bool} {g : GM} {tt : M Bool} {te : M D} {vs : List Nat} {n : Nat} (J : Nat → List D → PEnv → Prop) (hc : ∀ ε, c ε = true)
    (h1 : ∀ (i : Nat) acc ε, i < n → J i acc ε → GoesG (g (.int (i : Nat)) (wipeP ε vs)) fun ε1 => Goes (tt ε1) fun k ε2 => k = true ∧ Goes (te ε2) fun y ε3 => J (i + 1) (acc ++ [y]) (restore ε ε3 vs)) {ε : PEnv} (h : J 0 [] ε) :
    ∃ acc' ε', mLcL c g tt te vs (DL.intsFrom 0 n) [] ε = some (.ok acc', ε') ∧ J n acc' ε' := by
  rw [intsFrom_eq]
  obtain ⟨acc', ε', e, i, hi, e2, hj⟩ := comp_goes (toD := fun i : Nat => D.int (i : Nat)) (c := c) (g := g) (tt := tt) (te := te) (vs := vs) (fun xs acc ε => ∃ i, i ≤ n ∧ xs = (List.range n).drop i ∧ J i acc ε) (fun _ _ ε _ => hc ε) (fun x xs acc ε ⟨i, hi, e, hj⟩ => by
    have hlt : i < n := by
      rcases Nat.lt_or_ge i n with q | q
      · exact q
      · rw [List.drop_eq_nil_of_le (by simpa using q)] at e
        cases e
    rw [range_drop hlt] at e
    cases e
    obtain ⟨ε1, e1, h2⟩ := (h1 x acc ε hlt hj).out
    obtain ⟨k, ε2, e2, h3, h4⟩ := h2.out
    obtain ⟨y, ε3, e3, h5⟩ := h4.out
    rw [e1, GoesG_ok, e2, Goes_ok]
    refine ⟨h3, ?_⟩
    rw [e3, Goes_ok]
    exact ⟨x + 1, hlt, rfl, h5⟩) (List.range n) [] ε ⟨0, Nat.zero_le _, rfl, h⟩
  have : i = n := by
    have := congrArg List.length e2
    simp at this
    omega
  subst this
  exact ⟨acc', ε', e, hj⟩
@[simp] theorem intsFrom_len (n : Nat) : (DL.intsFrom 0 n).length = n := DL.intsFrom_length 0 n
mutual
/-- leaves: texts, truths, None, small whole numbers -/
def tame : D → Bool
  | .non => true
  | .bl _ => true
  | .int i => decide (0 ≤ i) && decide (i < 1000)
  | .str x => x.cps.toList.all fun c => decide (c < 16 ^ 8)
  | .tup ds => tameL ds
  | .ilst ds => tameL ds
  | _ => false
def tameL : List D → Bool
  | [] => true
  | d :: ds => tame d && tameL ds
end
mutual
def wt : D → Nat
  | .int i => if i == 0 then 0 else i.natAbs.log2 + 1
  | .str x => x.cps.size
  | .tup ds => wtL ds
  | .ilst ds => wtL ds
  | _ => 0
def wtL : List D → Nat
  | [] => 0
  | d :: ds => wt d + 1 + wtL ds
end
mutual
def dp : D → Nat
  | .tup ds => dpL ds + 1
  | .ilst ds => dpL ds + 1
  | _ => 0
def dpL : List D → Nat
  | [] => 0
  | d :: ds => max (dp d) (dpL ds)
end
theorem int_short : ∀ n : Nat, n < 1000 → (PyData.shown (.int (n : Int))).length ≤ 8 := by decide +kernel
mutual
theorem tame_plain : ∀ d : D, tame d = true → d.plain = true ∧ d.py.showable = true ∧ d.py.hasDict = false ∧ d.py.leavesShort 8 = true ∧ d.py.weight = wt d ∧ d.py.depth = dp d
  | .non, h => by simp [D.plain, D.py, PyData.showable, PyData.hasDict, PyData.leavesShort, PyData.weight, PyData.depth, wt, dp]
  | .bl _, h => by simp [D.plain, D.py, PyData.showable, PyData.hasDict, PyData.leavesShort, PyData.weight, PyData.depth, wt, dp]
  | .int i, h => by
    simp only [tame, Bool.and_eq_true, decide_eq_true_eq] at h
    have q := int_short i.toNat (by omega)
    rw [Int.toNat_of_nonneg h.1] at q
    have l : i.natAbs.log2 < 1920 := by
      have : i.natAbs < 2 ^ 10 := by omega
      have := PySem.Flt.log2_lt_of (by decide) this
      omega
    simp [D.plain, D.py, PyData.showable, PyData.hasDict, PyData.leavesShort, PyData.weight, PyData.depth, wt, dp]
    exact ⟨l, q⟩
  | .str x, h => by
    simp only [tame] at h
    simp [D.plain, D.py, PyData.showable, PyData.hasDict, PyData.leavesShort, PyData.weight, PyData.depth, wt, dp]
    simpa using h
  | .ty _, h => by simp [tame] at h
  | .ref _, h => by simp [tame] at h
  | .fdic _ _, h => by simp [tame] at h
  | .tup ds, h => by
    obtain ⟨h1, h2, h3, h4, h5, h6⟩ := tame_plainL ds (by simpa [tame] using h)
    simp only [D.plain, D.py, PyData.showable, PyData.hasDict, PyData.leavesShort, PyData.weight, PyData.depth, wt, dp]
    exact ⟨h1, h2, h3, h4, h5, by rw [h6]⟩
  | .ilst ds, h => by
    obtain ⟨h1, h2, h3, h4, h5, h6⟩ := tame_plainL ds (by simpa [tame] using h)
    simp only [D.plain, D.py, PyData.showable, PyData.hasDict, PyData.leavesShort, PyData.weight, PyData.depth, wt, dp]
    exact ⟨h1, h2, h3, h4, h5, by rw [h6]⟩
theorem tame_plainL : ∀ ds : List D, tameL ds = true → plainL ds = true ∧ PyData.showableAll (pys ds) = true ∧ PyData.hasDictAll (pys ds) = false ∧ PyData.leavesShortAll 8 (pys ds) = true ∧ PyData.weightAll (pys ds) = wtL ds ∧ PyData.depthAll (pys ds) = dpL ds
  | [], h => by simp [plainL, pys, PyData.showableAll, PyData.hasDictAll, PyData.leavesShortAll, PyData.weightAll, PyData.depthAll, wtL, dpL]
  | d :: ds, h => by
    simp only [tameL, Bool.and_eq_true] at h
    obtain ⟨h1, h2, h3, h4, h5, h6⟩ := tame_plainL ds h.2
    obtain ⟨g1, g2, g3, g4, g5, g6⟩ := tame_plain d h.1
    simp only [plainL, pys, PyData.showableAll, PyData.hasDictAll, PyData.leavesShortAll, PyData.weightAll, PyData.depthAll, wtL, dpL, h1, h2, h3, h4, h5, h6, g1, g2, g3, g4, g5, g6, Bool.and_self, Bool.or_self]
    exact ⟨trivial, trivial, trivial, trivial, trivial, trivial⟩
end
theorem repr_tame {ds : List D} (h : tameL ds = true) (hw : wtL ds ≤ 1000000) (hd : dpL ds ≤ 60) : fRepr [.tup ds] = some (.str (PyData.tuple (pys ds)).shown) := by
  obtain ⟨h1, h2, h3, h4, h5, h6⟩ := tame_plainL ds h
  have hs : (PyData.tuple (pys ds)).shown.length ≤ sizeLine := by
    refine PyData.shown_fits (B := 8) (by decide) (by decide) ?_ ?_
    · simpa only [PyData.leavesShort] using h4
    · simp only [PyData.weight, h5]
      have : (2 : Nat) ^ 20 = 1048576 := by decide
      omega
  show (if _ then _ else none) = _
  rw [if_pos]
  refine ⟨h1, by simpa only [PyData.showable] using h2, by simpa only [PyData.hasDict] using h3, ?_, hs⟩
  simp only [PyData.depth, h6]
  omega
end FL

namespace FL
open PySem PySem.Spec PyProof.Rows L2 DL NdefX LamX
variable [Amb] [Cbs]

def mIsCb (i k : Nat) : M Unit := fun ε => match ε[i]? with
  | some (some (.cb n)) => if n = k then some (.ok (), ε) else none
  | _ => none
section
variable {XD : XT} {ε : ED} {S : SD}
end
section
variable {X : Cx} {XD : XT} {i j k : Nat} {x : Str} {p pos : Pos} {e e2 : Expr} {es : List Expr} {pas : M (List D)} {pa : M D} {pf : M (List D)} {g : List D → Option D} {g2 : D → List D → Option D}
def mCbP (i k : Nat) (g : List D → Option D) (pas : M (List D)) : M D := mBind (mIsCb i k) fun _ => mBind pas fun ds => mBind (mIsCb i k) fun _ => mLift (g ds)
def sp2 (g : D → List D → Option D) : DSp := fun ds S Q => ∃ w a parts r, ds = [w, .ref a] ∧ S a = some (.lst parts) ∧ g w parts = some r ∧ ∀ S', Ext [a] S S' → Q r S'
def mCb2 (i k : Nat) (g : D → List D → Option D) (pa : M D) (pf : M (List D)) : M D := mBind (mIsCb i k) fun _ => mBind pa fun w => mBind pf fun ds => mBind (mIsCb i k) fun _ => mLift (g w ds)
end
section
variable {P : Program} {w : World} {K : PySem.W.Frag} {mg : Str → Option Value} {base : Heap} {N ps fr : List Str} {F : NF} {f : Addr} {k : Nat} {cs : List D} {ms : List Nat} {body : M Res}
def nestP (np n : Nat) (body : M Res) (cs : List D) : List D → Option D := fun ds => if ds.length = np then runP n body (ds ++ cs) else none
def runJ (n : Nat) (body : M Res) (cs : List D) : D → List D → Option D := fun w parts => match body (startP n (.val w :: .lst parts :: cs.map .val)) with
  | some (.ok (.rt (.val d)), _) => some d
  | some (.ok .nx, _) => some .non
  | _ => none
end
end FL

namespace FL
open PySem PySem.Spec PyProof.Rows L2 DL NdefX LamX
section
variable [Amb]
def spFold (m : D → Option D) : Addr → FK → Addr → FK → DSp := fun a1 F1 a2 F2 ds S Q => ∃ d r, ds = [d, .ref a1, .ref a2] ∧ S a1 = some (.fn F1) ∧ S a2 = some (.fn F2) ∧ a1 ≠ a2 ∧ m d = some r ∧ ∀ S', Ext [a1, a2] S S' → Q r S'
def runC (n : Nat) (body : M Res) : D → Option D := fun d => match body (startP n [.val d, .cb 0, .cb 1]) with
  | some (.ok (.rt (.val r)), _) => some r
  | some (.ok .nx, _) => some .non
  | _ => none
section
variable {P : Program} {w : World} {K : PySem.W.Frag} {mg : Str → Option Value} {base : Heap}
end
variable [Cbs]
def capsP (ε : PEnv) : List Nat → Option (List D)
  | [] => some []
  | j :: js => match ε[j]? with
    | some (some (.val d)) => (capsP ε js).map (d :: ·)
    | _ => none
def mFold (i0 i j : Nat) (js1 js2 : List Nat) (g : List D → List D → D → Option D) (h : D → Option D) : M D := fun ε => match ε[i0]?, capsP ε js1, capsP ε js2 with
  | some (some (.val d)), some c1, some c2 => if i < ε.length ∧ j < ε.length then (match (g c1 c2 d).bind h with
    | some r => some (.ok r, ε)
    | none => none) else none
  | _, _, _ => none
end
end FL

namespace FL
open PySem PySem.Spec PyProof.Rows L2 DL
variable [Amb] [Cbs]
section
variable {X : Cx} {XD : XT} {a b e tg : Expr} {rest : List Expr} {pa pb : M D} {p pos : Pos} {ms : List Nat}
def mExtT (i : Nat) (pa : M D) : M D := mBind (mGetL i) fun _ => mBind pa fun x => mBind (mLift (toT x)) fun ys => mModL i (extL ys)
def mOrT (pa pb : M D) : M D := mBind pa fun x => mBind (mLift (truD x)) fun k => if k = true then mPure x else pb
theorem fe_orT (ha : FE X XD a pa) (hb : FE X XD (.BoolOp .Or (b :: rest) pos) pb) : FE X XD (.BoolOp .Or (a :: b :: rest) pos) (mOrT pa pb) :=
  DE_imp (de_orT ha hb) fun ε S Q h => wM_imp (wM_bind h) fun x S1 h => by
    obtain ⟨k, e, h⟩ := wM_lift (wM_bind h)
    refine ⟨k, e, ?_⟩
    cases k with
    | true => exact wM_pure h
    | false => exact h
def mRevI (i : Nat) : M (List D) := mBind (mGetL i) fun ds => mPure ds.reverse
def cRevL (i : Nat) : List D → PEnv → Bool := fun ds ε => match ε[i]? with
  | some (some (.lst es)) => sameL ds es.reverse
  | _ => false
def fEqL (ds es : List D) : Option D := if plainL ds = true ∧ plainL es = true ∧ min (D.ilst ds).py.depth (D.ilst es).py.depth ≤ 60 then some (.bl (PyData.eqv (D.ilst ds).py (D.ilst es).py)) else none
def mEqFL (pf : M (List D)) (i : Nat) : M D := mBind pf fun ds => mBind (mGetL i) fun es => mLift (fEqL ds es)
end
end FL

namespace FL
open PySem PySem.Spec PyProof.Rows L2 DL NdefX LamX
section
variable [Amb] [Cbs]
def mFoldL (i0 : Nat) (js1 js2 : List Nat) (g : List D → List D → D → Option D) (h : D → Option D) : M D := fun ε => match ε[i0]?, capsP ε js1, capsP ε js2 with
  | some (some (.val d)), some c1, some c2 => match (g c1 c2 d).bind h with
    | some r => some (.ok r, ε)
    | none => none
  | _, _, _ => none
end
end FL

namespace FL
open PySem PySem.Spec PyProof.Rows L2 DL NdefX LamX
section
variable [Amb] [Cbs] {P : Program} {w : World} {K : PySem.W.Frag} {mg : Str → Option Value} {base : Heap} {N ps fr : List Str} {qual : Str} {params : Arguments} {body : Expr} {scope : Scope} {cl : List (Str × Addr)} {c f : Addr} {k : Nat} {cs : List D} {p : M D}
def lamP (np n : Nat) (p : M D) (cs : List D) : List D → Option D := fun ds => if ds.length = np then (match p (startP n ((ds ++ cs).map .val)) with
  | some (.ok d, _) => some d
  | _ => none) else none
def lamJ (n : Nat) (p : M D) (cs : List D) : D → List D → Option D := fun w parts => match p (startP n (.val w :: .lst parts :: cs.map .val)) with
  | some (.ok d, _) => some d
  | _ => none
end
section
variable [Amb] [Cbs]
end
end FL

namespace FL
open PySem PySem.Spec PyProof.Rows L2 DL NdefX LamX
variable [Amb]
structure MkT (base : Heap) (mg : Str → Option Value) (nm : Nat → Nat → Str) (fd : FuncData) : Prop where
  ex : ∃ c P, fd.code = .ref c ∧ TabB base mg c P ∧ (P, nm) ∈ Amb.tabs ∧ ∀ p ∈ Amb.tabs, p.1 = P → p.2 = nm
section
variable {P : Program} {w : World} {K : PySem.W.Frag} {mg : Str → Option Value} {base : Heap}
variable [Cbs]
end
structure C2 (P : Program) (w : World) (K : PySem.W.Frag) (mg : Str → Option Value) (base : Heap) (k j : Nat) (x : Str) (ps : List Str) (m : (List D → Option D) → (D → List D → Option D) → D → Option D) : Prop where
  ex : ∃ f fd, (∀ g1 g2, Fn2 P w K mg base k j f fd ps (spP g1) (sp2 g2) (spFold (m g1 g2))) ∧ mg x = some (.ref f) ∧ PySem.W.keepIn K (.ref f) = true ∧ Binds K fd ps []
section
variable {X : Cx} {XD : XT} {k j : Nat} {ps : List Str} {m : (List D → Option D) → (D → List D → Option D) → D → Option D} {x : Str} {p pos : Pos} {e : Expr} {es : List Expr} {ta : DTA} {sc1 sc2 : FK → Prop} {scope1 scope2 : Scope} {fr1 fr2 : List Str} {js1 js2 : List Nat} {g1 : List D → List D → Option D} {g2 : List D → D → List D → Option D}
end
section
variable [Cbs] {X : Cx} {XD : XT} {st1 st2 : Stmt} {e : Expr} {pos : Pos} {i0 i j : Nat} {js1 js2 : List Nat} {mk1 mk2 : Addr → NF} {lk1 lk2 : Addr → FK} {g : List D → List D → D → Option D} {f : D → D → Option D} {d0 : D}
end
end FL

namespace FL
open PySem PySem.Spec PyProof.Rows L2 DL NdefX LamX
def blkB (N : List Str) (sc scope : Scope) (own : List (Str × Nat)) : Bool :=
  decide (scope.kind = .function) && scope.names.all (fun y => decide (scope.names.lookup y.1 = some y.2)) && own.all (fun p => decide (N[p.2]? = some p.1)) && scope.names.all (fun y => !decide (y.2 = .free) || decide (sc.names.lookup y.1 = some .cell) || decide (sc.names.lookup y.1 = some .free)) &&
    scope.names.all (fun y => !(decide (y.2 = .local) || decide (y.2 = .cell)) || decide (y.1 ∈ own.map (·.1)) || !decide (y.1 ∈ N))
theorem blk_by {N : List Str} {sc scope : Scope} {own : List (Str × Nat)} (h : blkB N sc scope own = true) : BlkOk N sc scope own := by
  unfold blkB at h
  simp only [Bool.and_eq_true, Bool.not_eq_true', decide_eq_true_eq, List.all_eq_true, Bool.or_eq_true, decide_eq_false_iff_not, Bool.or_eq_false_iff] at h
  obtain ⟨⟨⟨⟨h1, h2⟩, h3⟩, h4⟩, h5⟩ := h
  refine ⟨h1, h2, h3, fun y hy e => ?_, fun y hy e => ?_⟩
  · rcases h4 y hy with (z | z) | z
    · exact absurd e z
    · exact .inl z
    · exact .inr z
  · rcases h5 y hy with (z | z) | z
    · rcases e with e | e
      · exact absurd e z.1
      · exact absurd e z.2
    · exact .inl z
    · exact .inr z
section
variable [Amb] [Cbs] {X : Cx} {XD : XT} {a : Expr} {p pos : Pos}
def mSumL (i : Nat) : M D := mBind (mGetL i) fun ds => mBind (mLift (intsL ds)) fun ns => mPure (.int ns.sum)
def mTupR (pa : M D) : M D := mBind pa fun x => match x with
  | .int j => if 0 ≤ j ∧ j ≤ 1000000 then mPure (.tup (intsFrom 0 j.toNat)) else mLift none
  | _ => mLift none
end
end FL

namespace FL
open PySem PySem.Spec PyProof.Rows L2 DL NdefX LamX
@[simp] theorem mIsCb_run (i k : Nat) (ε : PEnv) : mIsCb i k ε = (fun ε => match ε[i]? with
  | some (some (.cb n)) => if n = k then some (.ok (), ε) else none
  | _ => none) ε := rfl
@[simp] theorem mCbP_run (i k : Nat) (g : List D → Option D) (pas : M (List D)) (ε : PEnv) : mCbP i k g pas ε = (mBind (mIsCb i k) fun _ => mBind pas fun ds => mBind (mIsCb i k) fun _ => mLift (g ds)) ε := rfl
@[simp] theorem mCb2_run (i k : Nat) (g : D → List D → Option D) (pa : M D) (pf : M (List D)) (ε : PEnv) : mCb2 i k g pa pf ε = (mBind (mIsCb i k) fun _ => mBind pa fun w => mBind pf fun ds => mBind (mIsCb i k) fun _ => mLift (g w ds)) ε := rfl
@[simp] theorem mFold_run (i0 i j : Nat) (js1 js2 : List Nat) (g : List D → List D → D → Option D) (h : D → Option D) (ε : PEnv) : mFold i0 i j js1 js2 g h ε = (fun ε => match ε[i0]?, capsP ε js1, capsP ε js2 with
  | some (some (.val d)), some c1, some c2 => if i < ε.length ∧ j < ε.length then (match (g c1 c2 d).bind h with
    | some r => some (.ok r, ε)
    | none => none) else none
  | _, _, _ => none) ε := rfl
@[simp] theorem mExtT_run (i : Nat) (pa : M D) (ε : PEnv) : mExtT i pa ε = (mBind (mGetL i) fun _ => mBind pa fun x => mBind (mLift (toT x)) fun ys => mModL i (extL ys)) ε := rfl
@[simp] theorem mOrT_run (pa pb : M D) (ε : PEnv) : mOrT pa pb ε = (mBind pa fun x => mBind (mLift (truD x)) fun k => if k = true then mPure x else pb) ε := rfl
@[simp] theorem mRevI_run (i : Nat) (ε : PEnv) : mRevI i ε = (mBind (mGetL i) fun ds => mPure ds.reverse) ε := rfl
@[simp] theorem mEqFL_run (pf : M (List D)) (i : Nat) (ε : PEnv) : mEqFL pf i ε = (mBind pf fun ds => mBind (mGetL i) fun es => mLift (fEqL ds es)) ε := rfl
@[simp] theorem mFoldL_run (i0 : Nat) (js1 js2 : List Nat) (g : List D → List D → D → Option D) (h : D → Option D) (ε : PEnv) : mFoldL i0 js1 js2 g h ε = (fun ε => match ε[i0]?, capsP ε js1, capsP ε js2 with
  | some (some (.val d)), some c1, some c2 => match (g c1 c2 d).bind h with
    | some r => some (.ok r, ε)
    | none => none
  | _, _, _ => none) ε := rfl
@[simp] theorem mSumL_run (i : Nat) (ε : PEnv) : mSumL i ε = (mBind (mGetL i) fun ds => mBind (mLift (intsL ds)) fun ns => mPure (.int ns.sum)) ε := rfl
@[simp] theorem mTupR_run (pa : M D) (ε : PEnv) : mTupR pa ε = (mBind pa fun x => match x with
  | .int j => if 0 ≤ j ∧ j ≤ 1000000 then mPure (.tup (intsFrom 0 j.toNat)) else mLift none
  | _ => mLift none) ε := rfl
@[simp] theorem capsP_nil (ε : PEnv) : capsP ε [] = some [] := rfl
@[simp] theorem capsP_cons (ε : PEnv) (j : Nat) (js : List Nat) : capsP ε (j :: js) = match ε[j]? with
    | some (some (.val d)) => (capsP ε js).map (d :: ·)
    | _ => none := rfl
@[simp] theorem cRevL_eq (i : Nat) (ds : List D) (ε : PEnv) : cRevL i ds ε = match ε[i]? with
  | some (some (.lst es)) => sameL ds es.reverse
  | _ => false := rfl
@[simp] theorem lamP_run (np n : Nat) (p : M D) (cs ds : List D) : lamP np n p cs ds = if ds.length = np then (match p (startP n ((ds ++ cs).map .val)) with
  | some (.ok d, _) => some d
  | _ => none) else none := rfl
@[simp] theorem lamJ_run (n : Nat) (p : M D) (cs : List D) (w : D) (parts : List D) : lamJ n p cs w parts = match p (startP n (.val w :: .lst parts :: cs.map .val)) with
  | some (.ok d, _) => some d
  | _ => none := rfl
@[simp] theorem nestP_run (np n : Nat) (body : M Res) (cs ds : List D) : nestP np n body cs ds = if ds.length = np then runP n body (ds ++ cs) else none := rfl
@[simp] theorem runJ_run (n : Nat) (body : M Res) (cs : List D) (w : D) (parts : List D) : runJ n body cs w parts = match body (startP n (.val w :: .lst parts :: cs.map .val)) with
  | some (.ok (.rt (.val d)), _) => some d
  | some (.ok .nx, _) => some .non
  | _ => none := rfl
@[simp] theorem runC_run (n : Nat) (body : M Res) (d : D) : runC n body d = match body (startP n [.val d, .cb 0, .cb 1]) with
  | some (.ok (.rt (.val r)), _) => some r
  | some (.ok .nx, _) => some .non
  | _ => none := rfl
def fReprV : List D → Option D
  | [.int i] => if i.natAbs.log2 < 1900 then some (.str (toString i)) else none
  | [.bl b] => some (.str (if b then "True" else "False"))
  | [.non] => some (.str "None")
  | [.str x] => if (reprText x).length ≤ sizeLine then some (.str (reprText x)) else none
  | ds => fRepr ds
section
variable [Amb] [Cbs] {X : Cx}
theorem fc_reprV (hu : X.A.units + 64 < cLine) (hg : X.A.guards = some []) : FCall X (.builtin "repr") fReprV := by
  intro pins s σ H xs us Q I r ⟨ds, S, Q0, den, rS, ⟨d, e, q⟩, k⟩
  unfold fReprV at e
  split at e
  · rename_i i
    split at e
    · rename_i hi
      cases e
      obtain ⟨v, w, rfl, d1, d2⟩ := den.uncons
      cases d2.nil_eq
      cases (show v = .int i from d1)
      obtain ⟨u, rfl, t, rfl⟩ := vals1 r
      exact PySem.P.repr_of_int (by omega) ⟨.str (toString i), H, I.tok _, ⟨_, rfl⟩, k _ S _ H q rfl rS Frame.refl⟩
    · cases e
  · rename_i b
    cases e
    obtain ⟨v, w, rfl, d1, d2⟩ := den.uncons
    cases d2.nil_eq
    cases (show v = .bl b from d1)
    obtain ⟨u, rfl, ru⟩ := vals1 r
    cases (show u = .bool b from ru)
    exact PySem.P.repr_of_bool ⟨.str _, H, I.tok _, ⟨_, rfl⟩, k _ S _ H q rfl rS Frame.refl⟩
  · cases e
    obtain ⟨v, w, rfl, d1, d2⟩ := den.uncons
    cases d2.nil_eq
    cases (show v = .non from d1)
    obtain ⟨u, rfl, ru⟩ := vals1 r
    cases (show u = .none from ru)
    exact PySem.P.repr_of_none ⟨.str _, H, I.tok _, ⟨_, rfl⟩, k _ S _ H q rfl rS Frame.refl⟩
  · rename_i x
    split at e
    · rename_i hi
      cases e
      obtain ⟨v, w, rfl, d1, d2⟩ := den.uncons
      cases d2.nil_eq
      cases (show v = .str x from d1)
      obtain ⟨u, rfl, t, rfl⟩ := vals1 r
      exact PySem.P.repr_of_str ⟨.str (reprText x), H, I.tok _, ⟨_, rfl⟩, k _ S _ H q rfl rS Frame.refl⟩ hi
    · cases e
  · exact fc_repr hu hg pins s σ H xs us Q I r ⟨ds, S, Q0, den, rS, ⟨d, e, q⟩, k⟩
end
end FL

namespace FL
open PySem PySem.Spec PyProof.Rows L2 DL NdefX LamX
section
variable [Amb] [Cbs] {X : Cx} {XD : XT} {e : Expr} {es : List Expr} {pf : M (List D)} {u : GsM} {vs : List Nat} {n k : Nat} {pos p2 : Pos}
def mAsgF (n : Nat) (pf : M (List D)) (u : GsM) : M Res := mBind pf fun ds => fun ε => if ds.length = n then (match u ds ε with
  | some ε' => some (.ok .nx, ε')
  | none => none) else none
@[simp] theorem mAsgF_run (n : Nat) (pf : M (List D)) (u : GsM) (ε : PEnv) : mAsgF n pf u ε = (mBind pf fun ds => fun ε => if ds.length = n then (match u ds ε with
  | some ε' => some (.ok .nx, ε')
  | none => none) else none) ε := rfl
end
end FL

namespace FL
open PySem PySem.Spec PyProof.Rows L2 DL NdefX LamX
def strsL : List D → Option (List Str)
  | [] => some []
  | .str x :: r => (strsL r).map (x :: ·)
  | _ :: _ => none
@[simp] theorem strsL_map : ∀ ys : List Str, strsL (ys.map D.str) = some ys
  | [] => rfl
  | y :: ys => by
    show (strsL (ys.map D.str)).map (y :: ·) = _
    rw [strsL_map ys]
    rfl
def fIndex (x y : D) : Option D := match x, y with
  | .tup ds, .str k => (strsL ds).bind fun ys => if k ∈ ys then some (.int (ys.idxOf k : Nat)) else none
  | _, _ => none
@[simp] theorem fIndex_strs (ys : List Str) (k : Str) : fIndex (.tup (ys.map D.str)) (.str k) = if k ∈ ys then some (.int (ys.idxOf k : Nat)) else none := by
  show (strsL _).bind _ = _
  rw [strsL_map]
  rfl
def mIndexT (pa pb : M D) : M D := mBind pa fun x => mBind (mLift (toT x)) fun _ => mBind pb fun y => mLift (fIndex x y)
@[simp] theorem mIndexT_run (pa pb : M D) (ε : PEnv) : mIndexT pa pb ε = (mBind pa fun x => mBind (mLift (toT x)) fun _ => mBind pb fun y => mLift (fIndex x y)) ε := rfl
section
variable [Amb] [Cbs] {X : Cx} {XD : XT} {a e : Expr} {pa pb : M D}
end
end FL

namespace FL
open PySem PySem.Spec PyProof.Rows L2 DL NdefX LamX
def mFrz (pf : M (List D)) : M D := mBind pf fun ds => mPure (.ilst ds)
@[simp] theorem mFrz_run (pf : M (List D)) (ε : PEnv) : mFrz pf ε = (mBind pf fun ds => mPure (D.ilst ds)) ε := rfl
def fEqU : D → D → Option D
  | .tup ds, .tup [] => some (.bl ds.isEmpty)
  | x, y => fEq false x y
@[simp] theorem fEqU_nil (ds : List D) : fEqU (.tup ds) (.tup []) = some (.bl ds.isEmpty) := rfl
def zipT : List D → Option (List D)
  | [.tup ds, .tup es] => some (pairsOf ds es)
  | _ => none
@[simp] theorem zipT_tup (ds es : List D) : zipT [.tup ds, .tup es] = some (pairsOf ds es) := rfl
def mZip (pas : M (List D)) : M (List D) := mBind pas fun ds => mLift (zipT ds)
@[simp] theorem mZip_run (pas : M (List D)) (ε : PEnv) : mZip pas ε = (mBind pas fun ds => mLift (zipT ds)) ε := rfl
section
variable [Amb] [Cbs] {X : Cx} {XD : XT} {a b e : Expr} {pa pb : M D} {pf : M (List D)} {pas : M (List D)} {pos p : Pos} {ms : List Nat}
theorem fe_frz (h : FF X XD e pf) : FE X XD e (mFrz pf) := DE_imp (de_frz h) fun _ _ _ h => wM_imp (wM_bind h) fun _ _ h => wM_pure h
theorem fe_edic : FE X XD (.Dict [] [] pos) (mPure .edic) := DE_imp de_edic fun _ _ _ h => wM_pure h
end
end FL

namespace FL
open PySem PySem.Spec PyProof.Rows L2 DL NdefX LamX
def signsOf : D → Option (List D)
  | .str z => some (signsD z)
  | _ => none
@[simp] theorem signsOf_str (z : Str) : signsOf (.str z) = some (signsD z) := rfl
def mItS (pa : M D) : M (List D) := mBind pa fun x => mLift (signsOf x)
@[simp] theorem mItS_run (pa : M D) (ε : PEnv) : mItS pa ε = (mBind pa fun x => mLift (signsOf x)) ε := rfl
def fInS : D → D → Option D
  | .str x, .str z => match x.cps.toList with
    | [c] => some (.bl (decide (c ∈ z.cps.toList)))
    | _ => none
  | _, _ => none
@[simp] theorem fInS_sign (c : Nat) (z : Str) : fInS (.str ⟨#[c]⟩) (.str z) = some (.bl (decide (c ∈ z.cps.toList))) := rfl
def maxI : List Int → Option Int
  | [] => none
  | [n] => some n
  | n :: m :: r => (maxI (m :: r)).map fun k => if n < k then k else n
def fMaxL : List D → Option D
  | [.ilst ds] => ((intsL ds).bind maxI).map .int
  | _ => none
@[simp] theorem fMaxL_ilst (ds : List D) : fMaxL [.ilst ds] = ((intsL ds).bind maxI).map .int := rfl
def fAddI : D → D → Option D
  | .int i, .int j => some (.int (i + j))
  | _, _ => none
@[simp] theorem fAddI_int (i j : Int) : fAddI (.int i) (.int j) = some (.int (i + j)) := rfl
def mIndexL (i : Nat) (pa : M D) : M D := mBind (mGetL i) fun _ => mBind pa fun y => mBind (mGetL i) fun ds => mLift (fIndex (.tup ds) y)
@[simp] theorem mIndexL_run (i : Nat) (pa : M D) (ε : PEnv) : mIndexL i pa ε = (mBind (mGetL i) fun _ => mBind pa fun y => mBind (mGetL i) fun ds => mLift (fIndex (.tup ds) y)) ε := rfl
def keysOf : D → Option (List D)
  | .fdic ks _ => some (ks.map keyD)
  | _ => none
@[simp] theorem keysOf_fdic (ks : List Key) (ds : List D) : keysOf (.fdic ks ds) = some (ks.map keyD) := rfl
def mItK (pa : M D) : M (List D) := mBind pa fun x => mLift (keysOf x)
@[simp] theorem mItK_run (pa : M D) (ε : PEnv) : mItK pa ε = (mBind pa fun x => mLift (keysOf x)) ε := rfl
def valsP : List PV → Option (List D)
  | [] => some []
  | .val d :: ps => (valsP ps).map (d :: ·)
  | _ :: _ => none
@[simp] theorem valsP_map : ∀ ds : List D, valsP (ds.map .val) = some ds
  | [] => rfl
  | d :: ds => by
    show (valsP (ds.map .val)).map (d :: ·) = _
    rw [valsP_map ds]
    rfl
def fzP : PV → Option D
  | .lst ds => some (.ilst ds)
  | .dic ks ps => (valsP ps).map (.fdic ks)
  | _ => none
@[simp] theorem fzP_lst (ds : List D) : fzP (.lst ds) = some (.ilst ds) := rfl
@[simp] theorem fzP_dic (ks : List Key) (ps : List PV) : fzP (.dic ks ps) = (valsP ps).map (.fdic ks) := rfl
def mFrzO (po : M PV) : M D := mBind po fun p => mLift (fzP p)
@[simp] theorem mFrzO_run (po : M PV) (ε : PEnv) : mFrzO po ε = (mBind po fun p => mLift (fzP p)) ε := rfl
def mIxB (i : Nat) (pb : M D) : M D := fun ε => match ε[i]? with
  | some (some (.val _)) => mIx (mVar i) pb ε
  | _ => mIxK i pb ε
@[simp] theorem mIxB_run (i : Nat) (pb : M D) (ε : PEnv) : mIxB i pb ε = (match ε[i]? with
  | some (some (.val _)) => mIx (mVar i) pb ε
  | _ => mIxK i pb ε) := rfl
@[simp] theorem fIx_fdic (ks : List Key) (ds : List D) (z : Str) : fIx (.fdic ks ds) (.str z) = valD (ks.zip ds) (.inr z) := rfl
@[simp] theorem fLen_fdic (ks : List Key) (ds : List D) : fLen [.fdic ks ds] = some (.int ks.length) := rfl
def ilstOf : D → Option (List D)
  | .ilst ds => some ds
  | _ => none
@[simp] theorem ilstOf_ilst (ds : List D) : ilstOf (.ilst ds) = some ds := rfl
def mDictL (pa : M D) : M PV := mBind pa fun x => mBind (mLift (ilstOf x)) fun ds => mBind (mLift (pairKs ds)) fun kvs => mPure (fDict (mergeD [] kvs))
@[simp] theorem mDictL_run (pa : M D) (ε : PEnv) : mDictL pa ε = (mBind pa fun x => mBind (mLift (ilstOf x)) fun ds => mBind (mLift (pairKs ds)) fun kvs => mPure (fDict (mergeD [] kvs))) ε := rfl
section
variable [Amb] [Cbs] {X : Cx} {XD : XT} {tg a b e l : Expr} {pa pb : M D} {pf : M (List D)} {po : M PV} {pas : M (List D)} {pos p : Pos} {ms : List Nat} {i : Nat}
theorem fi_str (hl : FE X XD l pa) : FI X XD tg l ms (mItS pa) cYes := DI_imp (di_str hl) fun ε S R h => wM_imp (wI_bind h) fun x S1 h => by
  obtain ⟨ds, e, h⟩ := wI_lift h
  unfold signsOf at e
  split at e
  · cases e
    exact ⟨_, rfl, h⟩
  · cases e
theorem fo_inS : FOp X (compareOp .In) fInS := FOp_of dop_inSD fun x y S Q d h q => by
  unfold fInS at h
  split at h
  · split at h
    · rename_i x z _ c hc
      cases h
      have : x = ⟨#[c]⟩ := by
        obtain ⟨⟨l⟩⟩ := x
        have : l = [c] := hc
        rw [this]
      exact ⟨c, z, by rw [this], rfl, q⟩
    · cases h
  · cases h
def rAddI : R2D := fun x y S Q => ∃ m n, x = .int m ∧ y = .int n ∧ Q (.int (m + n)) S
theorem dip_add : DPIp X .Add rAddI := by
  intro pins s σ H x y v u Q I rx ry ⟨d, e, S, Q0, d1, d2, rS, ⟨m, n, e1, e2, q⟩, k⟩
  subst e1 e2
  cases (show x = .int m from d1)
  cases (show y = .int n from d2)
  exact ip_add pins s σ H _ _ v u Q I rx ry ⟨m, n, rfl, rfl, k _ S _ H q rfl rS Frame.refl⟩
theorem fs_aug {x : Str} {pos' : Pos} (hN : X.N.Nodup) (hi : X.N[i]? = some x) (hx : Loc X.env.scope x) (he : FE X XD e pa) (hf : X.fn x = true ∨ X.env.scope.names.lookup x = some .local := by first | exact .inl rfl | exact .inr rfl | assumption) :
    FS X XD (.AugAssign (.Name x pos') .Add e pos) [i] (mSet i (mOp2 fAddI (mVar i) pa)) :=
  DS_imp (ds_aug hN hi hx he dip_add hf) fun Dn ε S h => by
    obtain ⟨d, e1, h⟩ := wM_var (wM_bind (wS_set h))
    refine ⟨d, e1, wM_imp (wM_bind h) fun y S1 h => ?_⟩
    obtain ⟨z, e2, h⟩ := wM_lift h
    unfold fAddI at e2
    split at e2
    · cases e2
      exact ⟨_, _, rfl, rfl, h⟩
    · cases e2
end
end FL

namespace FL
open PySem PySem.Spec PyProof.Rows L2 DL NdefX LamX
def mSlZ (pa : M D) (pl ph : M (Option Int)) : M (List D) := mBind pa fun x => mBind pl fun l => mBind ph fun u => mBind (mLift (ilstOf x)) fun ds => mPure (cutG ds l u)
@[simp] theorem mSlZ_run (pa : M D) (pl ph : M (Option Int)) (ε : PEnv) : mSlZ pa pl ph ε = (mBind pa fun x => mBind pl fun l => mBind ph fun u => mBind (mLift (ilstOf x)) fun ds => mPure (cutG ds l u)) ε := rfl
def mExtO (i : Nat) (po : M PV) : M D := mBind (mGetL i) fun _ => mBind po fun p => match p with
  | .lst ys => mModL i (extL ys)
  | _ => mLift none
@[simp] theorem mExtO_run (i : Nat) (po : M PV) (ε : PEnv) : mExtO i po ε = (mBind (mGetL i) fun _ => mBind po fun p => match p with
  | .lst ys => mModL i (extL ys)
  | _ => mLift none) ε := rfl
section
variable [Amb] [Cbs] {X : Cx} {XD : XT} {e o : Expr} {lo hi : Option Expr} {pa : M D} {pl ph : M (Option Int)} {po : M PV} {pos p2 apos cpos : Pos} {i : Nat}
end
end FL

namespace FL
open PySem PySem.Spec PyProof.Rows L2 DL NdefX LamX
def fMulT : D → D → Option D
  | .tup ds, .int i => if ds ≠ [] ∧ -1000 ≤ i ∧ i ≤ 1000 ∧ ds.length ≤ 1000 then some (.tup (List.replicate i.toNat ds).flatten) else none
  | _, _ => none
@[simp] theorem fMulT_tup (ds : List D) (i : Int) : fMulT (.tup ds) (.int i) = if ds ≠ [] ∧ -1000 ≤ i ∧ i ≤ 1000 ∧ ds.length ≤ 1000 then some (.tup (List.replicate i.toNat ds).flatten) else none := rfl
section
variable [Amb] [Cbs] {X : Cx} {XD : XT} {mp : List D → Option D} {k : Nat} {x : Str} {ps : List Str} {p pos : Pos}
end
end FL

namespace FL
open PySem PySem.Spec PyProof.Rows L2 DL NdefX LamX
def cutText : D → Option Int → Option Int → Option D
  | .str z, l, u => if z.length ≤ 1000000 then some (.str (cutS z l u)) else none
  | _, _, _ => none
@[simp] theorem cutText_str (z : Str) (l u : Option Int) : cutText (.str z) l u = if z.length ≤ 1000000 then some (.str (cutS z l u)) else none := rfl
def mSlS (pa : M D) (pl ph : M (Option Int)) : M D := mBind pa fun x => mBind pl fun l => mBind ph fun u => mLift (cutText x l u)
@[simp] theorem mSlS_run (pa : M D) (pl ph : M (Option Int)) (ε : PEnv) : mSlS pa pl ph ε = (mBind pa fun x => mBind pl fun l => mBind ph fun u => mLift (cutText x l u)) ε := rfl
section
variable [Amb] [Cbs] {X : Cx} {XD : XT} {e : Expr} {lo hi : Option Expr} {pa : M D} {pl ph : M (Option Int)} {pos p2 : Pos}
theorem fe_slS (he : FE X XD e pa) (hl : FPO X XD lo pl) (hh : FPO X XD hi ph) : FE X XD (.Subscript e (.Slice lo hi none p2) pos) (mSlS pa pl ph) :=
  DE_imp (de_slS he hl hh) fun _ _ _ h => wM_imp (wM_bind h) fun x _ h => wM_imp (wM_bind h) fun _ _ h => wM_imp (wM_bind h) fun _ _ h => by
    obtain ⟨y, e1, h⟩ := wM_lift h
    unfold cutText at e1
    split at e1
    · rename_i z l u
      split at e1
      · rename_i hz
        cases e1
        exact ⟨z, rfl, Nat.le_trans hz (by decide), h⟩
      · cases e1
    · cases e1
end
end FL

namespace FL
open PySem PySem.Spec PyProof.Rows L2 DL NdefX LamX
def mTupP (pl : M (List PArg)) : M PV := fun ε => match pl ε with
  | none => none
  | some (.ex e, ε') => some (.ex e, ε')
  | some (.ok as, ε') => match takeA as ε' with
    | some (ps, ε2) => if as.length ≤ 1000 then some (.ok (.ptup ps), ε2) else none
    | none => none
@[simp] theorem mTupP_run (pl : M (List PArg)) (ε : PEnv) : mTupP pl ε = (fun ε => match pl ε with
  | none => none
  | some (.ex e, ε') => some (.ex e, ε')
  | some (.ok as, ε') => match takeA as ε' with
    | some (ps, ε2) => if as.length ≤ 1000 then some (.ok (.ptup ps), ε2) else none
    | none => none) ε := rfl
section
variable [Amb] [Cbs] {X : Cx} {XD : XT} {es : List Expr} {pl : M (List PArg)} {x1 : Nat} {p2 : Pos}
end
end FL

namespace FL
open PySem PySem.Spec PyProof.Rows L2 DL NdefX LamX
def fMulE : D → D → Option D
  | .tup ds, .int i => if -1000 ≤ i ∧ i ≤ 1000 ∧ ds.length ≤ 1000 then some (.tup (List.replicate i.toNat ds).flatten) else none
  | _, _ => none
@[simp] theorem fMulE_tup (ds : List D) (i : Int) : fMulE (.tup ds) (.int i) = if -1000 ≤ i ∧ i ≤ 1000 ∧ ds.length ≤ 1000 then some (.tup (List.replicate i.toNat ds).flatten) else none := rfl
section
variable [Amb] [Cbs] {X : Cx}
end
end FL

namespace DL
open PySem PySem.Spec PyProof.Rows L2 NdefX LamX
section
variable [Amb] {X : Cx}
end
end DL
namespace FL
open PySem PySem.Spec PyProof.Rows L2 DL NdefX LamX
def mCountL (i : Nat) (pa : M D) : M D := mBind (mGetL i) fun _ => mBind pa fun y => mBind (mGetL i) fun ds => mLift (fCount (.tup ds) y)
@[simp] theorem mCountL_run (i : Nat) (pa : M D) (ε : PEnv) : mCountL i pa ε = (mBind (mGetL i) fun _ => mBind pa fun y => mBind (mGetL i) fun ds => mLift (fCount (.tup ds) y)) ε := rfl
def mGetDict (pa pb pc : M D) : M D := mBind (mDictT pa) fun kvs => mBind pb fun y => mBind pc fun z => mBind (mLift (keyOf y)) fun k => mPure ((valD kvs k).getD z)
@[simp] theorem mGetDict_run (pa pb pc : M D) (ε : PEnv) : mGetDict pa pb pc ε = (mBind (mDictT pa) fun kvs => mBind pb fun y => mBind pc fun z => mBind (mLift (keyOf y)) fun k => mPure ((valD kvs k).getD z)) ε := rfl
section
variable [Amb] [Cbs] {X : Cx} {XD : XT} {e a b c o : Expr} {pa pb pc : M D} {pos p apos cpos : Pos} {i : Nat}
end
end FL

namespace FL
open PySem PySem.Spec PyProof.Rows L2 DL NdefX LamX
def mCatZZ (pa pb : M D) : M (List D) := mBind pa fun x => mBind pb fun y => mBind (mLift (ilstOf x)) fun xs => mBind (mLift (ilstOf y)) fun ys => mLift (cat xs ys)
@[simp] theorem mCatZZ_run (pa pb : M D) (ε : PEnv) : mCatZZ pa pb ε = (mBind pa fun x => mBind pb fun y => mBind (mLift (ilstOf x)) fun xs => mBind (mLift (ilstOf y)) fun ys => mLift (cat xs ys)) ε := rfl
section
variable [Amb] [Cbs] {X : Cx} {XD : XT} {a b : Expr} {pa pb : M D} {pos : Pos}
end
end FL

namespace FL
open PySem PySem.Spec PyProof.Rows L2 DL NdefX LamX
def fdicOf : D → Option (List Key × List D)
  | .fdic ks ds => some (ks, ds)
  | _ => none
@[simp] theorem fdicOf_f (ks : List Key) (ds : List D) : fdicOf (.fdic ks ds) = some (ks, ds) := rfl
def mGetV (i : Nat) (pa pb : M D) : M D := mBind (mVar i) fun d => mBind (mLift (fdicOf d)) fun kd => mBind pa fun y => mBind pb fun z => mBind (mLift (keyOf y)) fun k => mPure ((valD (kd.1.zip kd.2) k).getD z)
def mGetB (i : Nat) (pa pb : M D) : M D := fun ε => match ε[i]? with
  | some (some (.val _)) => mGetV i pa pb ε
  | _ => mGet2 i pa pb ε
@[simp] theorem mGetV_run (i : Nat) (pa pb : M D) (ε : PEnv) : mGetV i pa pb ε = (mBind (mVar i) fun d => mBind (mLift (fdicOf d)) fun kd => mBind pa fun y => mBind pb fun z => mBind (mLift (keyOf y)) fun k => mPure ((valD (kd.1.zip kd.2) k).getD z)) ε := rfl
@[simp] theorem mGetB_run (i : Nat) (pa pb : M D) (ε : PEnv) : mGetB i pa pb ε = (fun ε => match ε[i]? with
  | some (some (.val _)) => mGetV i pa pb ε
  | _ => mGet2 i pa pb ε) ε := rfl
section
variable [Amb] [Cbs] {X : Cx} {XD : XT} {a b o : Expr} {pa pb : M D} {apos cpos : Pos} {i : Nat}
end
end FL

namespace FL
open PySem PySem.Spec PyProof.Rows L2 DL NdefX LamX
def mOrL (pa pb : M D) : M D := mBind pa fun x => mBind (mLift (truL x)) fun k => if k = true then mPure x else pb
@[simp] theorem mOrL_run (pa pb : M D) (ε : PEnv) : mOrL pa pb ε = (mBind pa fun x => mBind (mLift (truL x)) fun k => if k = true then mPure x else pb) ε := rfl
@[simp] theorem truL_ilst (ds : List D) : truL (.ilst ds) = some (!ds.isEmpty) := rfl
section
variable [Amb] [Cbs] {X : Cx} {XD : XT} {a b : Expr} {rest : List Expr} {pa pb : M D} {pos : Pos}
theorem fe_orL (ha : FE X XD a pa) (hb : FE X XD (.BoolOp .Or (b :: rest) pos) pb) : FE X XD (.BoolOp .Or (a :: b :: rest) pos) (mOrL pa pb) :=
  DE_imp (de_orL ha hb) fun ε S Q h => wM_imp (wM_bind h) fun x S1 h => by
    obtain ⟨k, e, h⟩ := wM_lift (wM_bind h)
    refine ⟨k, e, ?_⟩
    cases k with
    | true => exact wM_pure h
    | false => exact h
end
end FL

namespace FL
open PySem PySem.Spec PyProof.Rows L2 DL NdefX LamX
def mHide {α : Type} (i : Nat) (p : M α) : M α := fun ε => match ε[i]? with
  | some (some (.dic ks ps)) => match p (ε.set i none) with
    | some (.ok a, ε') => match ε'[i]? with
      | some none => some (.ok a, ε'.set i (some (.dic ks ps)))
      | _ => none
    | _ => none
  | _ => none
section
variable {XD : XT} {α : Type} {ε : ED} {S : SD} {i : Nat}
end
section
variable [Amb] [Cbs] {X : Cx} {XD : XT} {a b o : Expr} {pos p p1 : Pos} {i j : Nat}
variable {elt tg : Expr} {ifs : List Expr} {scope : Scope} {own : List (Str × Nat)} {g : GM} {tt : M Bool} {te : M D} {ws : List Nat}
theorem ownL_snoc {S : SD} {p : PV} {d : D} {f2 : List Addr} (o : Own S p d f2) : ∀ {ps : List PV} {ds : List D} {fq : List Addr}, OwnL S ps ds fq → OwnL S (ps ++ [p]) (ds ++ [d]) (fq ++ f2)
  | [], ds, fq, ol => by
    obtain ⟨rfl, rfl⟩ := ol.nil
    have := ownL_cons (f1 := f2) (f2 := []) o ownL_nil
    simpa using this
  | q :: ps, ds, fq, ol => by
    obtain ⟨x, r, f1, f3, rfl, rfl, h1, h2⟩ := ol.cons
    have := ownL_cons h1 (ownL_snoc o h2)
    rw [List.append_assoc]
    exact this
end
end FL

namespace FL
open PySem PySem.Spec PyProof.Rows L2 DL NdefX LamX
def insL (y : D) (ds : List D) : Option (D × List D) := if ds.length + 1 ≤ 1000000 then some (.non, y :: ds) else none
def mInsL (i : Nat) (pa : M D) : M D := mBind (mGetL i) fun _ => mBind pa fun x => mModL i (insL x)
@[simp] theorem mInsL_run (i : Nat) (pa : M D) (ε : PEnv) : mInsL i pa ε = (mBind (mGetL i) fun _ => mBind pa fun x => mModL i (insL x)) ε := rfl
section
variable [Amb] [Cbs] {X : Cx} {XD : XT} {o z e : Expr} {pa : M D} {apos cpos : Pos} {i : Nat}
end
end FL

namespace FL
open PySem PySem.Spec PyProof.Rows L2 DL NdefX LamX
def srtB (ds : List D) : Option (List D) := if sOk ds = true then some (srt ds) else none
def mSortV (pa : M D) : M (List D) := mBind pa fun x => mLift ((items x).bind srtB)
def mSortL (i : Nat) : M (List D) := mBind (mGetL i) fun ds => mLift (srtB ds)
@[simp] theorem mSortV_run (pa : M D) (ε : PEnv) : mSortV pa ε = (mBind pa fun x => mLift ((items x).bind srtB)) ε := rfl
@[simp] theorem mSortL_run (i : Nat) (ε : PEnv) : mSortL i ε = (mBind (mGetL i) fun ds => mLift (srtB ds)) ε := rfl
section
variable [Amb] [Cbs] {X : Cx} {XD : XT} {a : Expr} {pa : M D} {p pos : Pos}
end
end FL

namespace FL
open PySem PySem.Spec PyProof.Rows L2 DL NdefX LamX
def fNeL (xs ds : List D) : Option D := if plainL xs = true ∧ plainL ds = true ∧ min (D.ilst xs).py.depth (D.ilst ds).py.depth ≤ 60 then some (.bl (!PyData.eqv (D.ilst xs).py (D.ilst ds).py)) else none
def mNeLF (i : Nat) (pf : M (List D)) : M D := mBind (mGetL i) fun _ => mBind pf fun ds => mBind (mGetL i) fun xs => mLift (fNeL xs ds)
@[simp] theorem mNeLF_run (i : Nat) (pf : M (List D)) (ε : PEnv) : mNeLF i pf ε = (mBind (mGetL i) fun _ => mBind pf fun ds => mBind (mGetL i) fun xs => mLift (fNeL xs ds)) ε := rfl
section
variable [Amb] [Cbs] {X : Cx} {XD : XT} {a b : Expr} {pf : M (List D)} {i : Nat} {pos : Pos}
end
end FL

namespace FL
open PySem PySem.Spec PyProof.Rows L2 DL NdefX LamX
section
variable [Amb] [Cbs] {X : Cx} {XD : XT} {a b : Expr} {i j : Nat}
variable {elt tg : Expr} {ifs : List Expr} {scope : Scope} {own : List (Str × Nat)} {g : GM} {tt : M Bool} {te : M D} {ws : List Nat}
end
end FL

namespace FL
open PySem PySem.Spec PyProof.Rows L2 DL NdefX LamX
def mTakeV (j : Nat) : M PV := fun ε => match ε[j]? with
  | some (some p) => some (.ok p, ε.set j none)
  | _ => none
@[simp] theorem mTakeV_run (j : Nat) (ε : PEnv) : mTakeV j ε = (fun ε => match ε[j]? with
  | some (some p) => some (.ok p, ε.set j none)
  | _ => none) ε := rfl
section
variable [Amb] [Cbs] {X : Cx} {XD : XT} {e : Expr} {j : Nat}
end
end FL

namespace FL
open PySem PySem.Spec PyProof.Rows L2 DL NdefX LamX
section
variable [Amb] [Cbs] {X : Cx}
end
end FL

namespace FL
open PySem PySem.Spec PyProof.Rows L2 DL NdefX LamX
def zipB (b1 b2 : Bool) : List D → Option (List D)
  | [x, y] => (seqB b1 x).bind fun ds => (seqB b2 y).map fun es => pairsOf ds es
  | _ => none
def zipB3 (b1 b2 b3 : Bool) : List D → Option (List D)
  | [x, y, z] => (seqB b1 x).bind fun ds => (seqB b2 y).bind fun es => (seqB b3 z).map fun fs => triplesOf ds es fs
  | _ => none
@[simp] theorem zipB_TL (ds es : List D) : zipB false true [.tup ds, .ilst es] = some (pairsOf ds es) := rfl
@[simp] theorem zipB3_TTL (ds es fs : List D) : zipB3 false false true [.tup ds, .tup es, .ilst fs] = some (triplesOf ds es fs) := rfl
def mZip2 (b1 b2 : Bool) (pas : M (List D)) : M (List D) := mBind pas fun ds => mLift (zipB b1 b2 ds)
def mZip3 (b1 b2 b3 : Bool) (pas : M (List D)) : M (List D) := mBind pas fun ds => mLift (zipB3 b1 b2 b3 ds)
@[simp] theorem mZip2_run (b1 b2 : Bool) (pas : M (List D)) (ε : PEnv) : mZip2 b1 b2 pas ε = (mBind pas fun ds => mLift (zipB b1 b2 ds)) ε := rfl
@[simp] theorem mZip3_run (b1 b2 b3 : Bool) (pas : M (List D)) (ε : PEnv) : mZip3 b1 b2 b3 pas ε = (mBind pas fun ds => mLift (zipB3 b1 b2 b3 ds)) ε := rfl
def fdicUp : D → Option (List Key × List D)
  | .fdic ks ds => some (ks, ds)
  | _ => none
@[simp] theorem fdicUp_fdic (ks : List Key) (ds : List D) : fdicUp (.fdic ks ds) = some (ks, ds) := rfl
def mUpdK (i : Nat) (ls : List Key) (es : List D) : M Unit := fun ε => match ε[i]? with
  | some (some (.dic ks ps)) => match valsP ps with
    | some ds => if ks.length + ls.length ≤ 1000000 then some (.ok (), ε.set i (some (fDict (mergeD (ks.zip ds) (ls.zip es))))) else none
    | none => none
  | _ => none
@[simp] theorem mUpdK_run (i : Nat) (ls : List Key) (es : List D) (ε : PEnv) : mUpdK i ls es ε = (match ε[i]? with
  | some (some (.dic ks ps)) => match valsP ps with
    | some ds => if ks.length + ls.length ≤ 1000000 then some (.ok (), ε.set i (some (fDict (mergeD (ks.zip ds) (ls.zip es))))) else none
    | none => none
  | _ => none) := rfl
def mUpdD (i : Nat) (pa : M D) : M D := mBind (mIsD i) fun _ => mBind pa fun x => mBind (mLift (fdicUp x)) fun kd => mBind (mUpdK i kd.1 kd.2) fun _ => mPure .non
@[simp] theorem mUpdD_run (i : Nat) (pa : M D) (ε : PEnv) : mUpdD i pa ε = (mBind (mIsD i) fun _ => mBind pa fun x => mBind (mLift (fdicUp x)) fun kd => mBind (mUpdK i kd.1 kd.2) fun _ => mPure .non) ε := rfl
def mNeLV (i : Nat) (pb : M D) : M D := mBind (mGetL i) fun _ => mBind pb fun y => mBind (mLift (ilstOf y)) fun ds => mBind (mGetL i) fun xs => mLift (fNeL xs ds)
@[simp] theorem mNeLV_run (i : Nat) (pb : M D) (ε : PEnv) : mNeLV i pb ε = (mBind (mGetL i) fun _ => mBind pb fun y => mBind (mLift (ilstOf y)) fun ds => mBind (mGetL i) fun xs => mLift (fNeL xs ds)) ε := rfl
section
variable [Amb] [Cbs] {X : Cx} {XD : XT} {a b c e o : Expr} {pa pb : M D} {pas : M (List D)} {pos p : Pos} {ms : List Nat} {i : Nat}
end
end FL

namespace FL
open PySem PySem.Spec PyProof.Rows L2 DL NdefX LamX
def zipBm (b1 b2 : Bool) (xs : List D) : Option (List D) := (zipB b1 b2 xs).bind fun zs => if zs.length ≤ 1000000 then some zs else none
def mLZip (b1 b2 : Bool) (pas : M (List D)) : M (List D) := mBind pas fun ds => mLift (zipBm b1 b2 ds)
@[simp] theorem mLZip_run (b1 b2 : Bool) (pas : M (List D)) (ε : PEnv) : mLZip b1 b2 pas ε = (mBind pas fun ds => mLift (zipBm b1 b2 ds)) ε := rfl
section
variable [Amb] [Cbs] {X : Cx} {XD : XT} {a b : Expr} {pas : M (List D)} {pos pos2 p p2 : Pos}
end
end FL

namespace FL
open PySem PySem.Spec PyProof.Rows L2 DL NdefX LamX
section
variable [Amb] [Cbs] {S : SD}
theorem Nx.restL {fq fr fq' : List Addr} {S' : SD} (n : (fr ++ fq).Nodup) (x : Nx S fq S' fq') (dom : ∀ a ∈ fr, ∃ c, S a = some c) (nd' : fq'.Nodup) :
    (∀ a ∈ fr, S' a = S a) ∧ (fr ++ fq').Nodup ∧ Nx S (fr ++ fq) S' (fr ++ fq') := by
  have n' : (fq ++ fr).Nodup := perm_nodup List.perm_append_comm n
  obtain ⟨k1, k2, k3⟩ := Nx.rest n' x dom nd'
  exact ⟨k1, perm_nodup List.perm_append_comm k2, k3.perm (fun q => List.perm_append_comm.mem_iff) fun q hq => List.perm_append_comm.mem_iff.mp hq⟩
theorem OwnL.look : ∀ {ns : List Str} {ps : List PV} {ds : List D} {fq : List Addr} {f : Str} {p : PV}, OwnL S ps ds fq → fq.Nodup → (ns.zip ps).lookup f = some p →
    ∃ d fd, (ns.zip ds).lookup f = some d ∧ Own S p d fd ∧ fd.Nodup ∧ (∀ a ∈ fd, a ∈ fq) ∧ ∀ S' p' fd', Own S' p' d fd' → fd'.Nodup → Nx S fd S' fd' → ∃ fq', OwnL S' (putV f p' ns ps) ds fq' ∧ fq'.Nodup ∧ Nx S fq S' fq'
  | [], ps, ds, fq, f, p, h, nd, e => by simp at e
  | g :: ns, [], ds, fq, f, p, h, nd, e => by simp at e
  | g :: ns, q :: ps, ds, fq, f, p, h, nd, e => by
    obtain ⟨d, r, f1, f2, rfl, rfl, h1, h2⟩ := h.cons
    rw [List.zip_cons_cons, List.lookup_cons] at e
    obtain ⟨n1, n2, n3⟩ := app_nodup nd
    cases hb : f == g with
    | true =>
      rw [hb] at e
      cases e
      refine ⟨d, f1, by rw [List.zip_cons_cons, List.lookup_cons, hb], h1, n1, fun a ha => List.mem_append_left _ ha, fun S' p' fd' o' nd' x => ?_⟩
      obtain ⟨k1, k2, k3⟩ := Nx.rest nd x (OwnL.dom ps h2) nd'
      refine ⟨fd' ++ f2, ?_, k2, k3⟩
      rw [putV, if_pos (beq_iff_eq.mp hb).symm]
      exact ownL_cons o' (OwnL.frame ps h2 k1)
    | false =>
      rw [hb] at e
      obtain ⟨d', fd, e1, o1, nd1, sub, k⟩ := OwnL.look (ns := ns) h2 n2 e
      refine ⟨d', fd, by rw [List.zip_cons_cons, List.lookup_cons, hb]; exact e1, o1, nd1, fun a ha => List.mem_append_right _ (sub a ha), fun S' p' fd' o' nd' x => ?_⟩
      obtain ⟨fq', h3, nd3, x3⟩ := k S' p' fd' o' nd' x
      obtain ⟨k1, k2, k3⟩ := Nx.restL nd x3 (Own.dom q h1) nd3
      refine ⟨f1 ++ fq', ?_, k2, k3⟩
      rw [putV, if_neg fun z => by rw [beq_eq_false_iff_ne] at hb; exact hb z.symm]
      exact ownL_cons (Own.frame q h1 k1) h3
theorem putV_len' {α : Type} {f : Str} {y p : α} : ∀ {ns : List Str} {ps : List α}, (ns.zip ps).lookup f = some p → (putV f y ns ps).length = ps.length
  | [], ps, e => by simp at e
  | g :: ns, [], e => by simp at e
  | g :: ns, q :: ps, e => by
    rw [List.zip_cons_cons, List.lookup_cons] at e
    rw [putV]
    cases hb : f == g with
    | true => rw [if_pos (beq_iff_eq.mp hb).symm]; rfl
    | false =>
      rw [hb] at e
      rw [if_neg fun z => by rw [beq_eq_false_iff_ne] at hb; exact hb z.symm, List.length_cons, putV_len' e, List.length_cons]
variable {XD : XT} {ε : ED} {α : Type} {cn f nm : Str} {i : Nat}
def mFldG (cn : Str) (i : Nat) (f : Str) (k : PV → Option (α × PV)) : M α := fun ε => match ε[i]? with
  | some (some (.obj c ns ps)) => if c = cn then match (ns.zip ps).lookup f with
    | some p => match k p with
      | some (a, p') => some (.ok a, ε.set i (some (.obj c ns (putV f p' ns ps))))
      | none => none
    | none => none
    else none
  | _ => none
def InFld (cn : Str) (i : Nat) (f : Str) (ε : ED) (S : SD) (d : D) : Prop := ∃ b ns ds, ε[i]? = some (some (.ref b)) ∧ S b = some (.gen (objK (Amb.cls cn) ns) ds) ∧ (ns.zip ds).lookup f = some d
theorem wM_fldN {k : PV → Option (α × PV)} {Q : α → SD → Prop} (h : wM XD (mFldG cn i f k) ε S Q) :
    ∃ d p fd a p', InFld cn i f ε S d ∧ Own S p d fd ∧ fd.Nodup ∧ k p = some (a, p') ∧ ∀ S' fd', Own S' p' d fd' → fd'.Nodup → Nx S fd S' fd' → Q a S' := by
  obtain ⟨εp, fp, o, εp', st, e, w⟩ := h
  unfold mFldG at e
  split at e
  · rename_i c ns ps hd
    split at e
    · rename_i hc
      subst hc
      split at e
      · rename_i p hl
        split at e
        · rename_i a p' hk
          cases e
          obtain ⟨x, fq, e1, ow, nq, g⟩ := st.slot hd
          obtain ⟨b, ds, fr, rfl, rfl, hS, hlen, ol⟩ := ow.obj
          obtain ⟨hb, nr⟩ := List.nodup_cons.mp nq
          obtain ⟨d, fd, e2, o1, nd1, sub, kk⟩ := OwnL.look (ns := ns) ol nr hl
          refine ⟨d, p, fd, a, p', ⟨b, ns, ds, e1, hS, e2⟩, o1, nd1, hk, fun S' fd' o' nd' x => ?_⟩
          obtain ⟨fq', ol', nq', x'⟩ := kk S' p' fd' o' nd' x
          have hb' : b ∉ fq' := fun z => (x'.grow b z).elim hb fun y => by rw [hS] at y; cases y
          have own' : Own S' (.obj c ns (putV f p' ns ps)) (.ref b) (b :: fq') := own_obj (x'.ext b _ hb hS) (by rw [putV_len' hl]; exact hlen) ol'
          have x2 : Nx S (b :: fr) S' (b :: fq') := ⟨fun q hq => by
            rcases List.mem_cons.mp hq with rfl | hq
            · exact .inl List.mem_cons_self
            · exact (x'.grow q hq).imp (List.mem_cons_of_mem _) id, fun q y hq hy => x'.ext q y (fun z => hq (List.mem_cons_of_mem _ z)) hy⟩
          obtain ⟨fp', st', n⟩ := g S' _ (b :: fq') own' (List.nodup_cons.mpr ⟨hb', nq'⟩) x2
          exact w S' fp' st' n
        · cases e
      · cases e
    · cases e
  · cases e
theorem wM_fldG {k : PV → Option (α × PV)} {Q : α → SD → Prop} (h : wM XD (mFldG cn i f k) ε S Q) :
    ∃ d p fd a p', InFld cn i f ε S d ∧ Own S p d fd ∧ k p = some (a, p') ∧ ∀ S' fd', Own S' p' d fd' → fd'.Nodup → Nx S fd S' fd' → Q a S' :=
  let ⟨d, p, fd, a, p', h1, h2, _, h3, h4⟩ := wM_fldN h
  ⟨d, p, fd, a, p', h1, h2, h3, h4⟩
def mFld (cn : Str) (i : Nat) (f : Str) : M D := mFldG cn i f fun p => match p with
  | .val d => some (d, .val d)
  | _ => none
theorem wM_fld {Q : D → SD → Prop} (h : wM XD (mFld cn i f) ε S Q) : ∃ d, InFld cn i f ε S d ∧ Q d S := by
  obtain ⟨d, p, fd, a, p', hi, o, e, k⟩ := wM_fldG h
  split at e
  · cases e
    obtain ⟨rfl, rfl⟩ := o.val
    exact ⟨_, hi, k S [] own_val List.nodup_nil Nx.refl⟩
  · cases e
theorem OwnL.putF {f : Str} {v : PV} {d : D} {fv : List Addr} (ov : Own S v d fv) : ∀ {ns : List Str} {ps : List PV} {ds : List D} {fq : List Addr}, OwnL S ps ds fq → ns.length = ps.length → (fq ++ fv).Nodup →
    ∃ fq', OwnL S (putV f v ns ps) (putV f d ns ds) fq' ∧ fq'.Nodup ∧ ∀ a ∈ fq', a ∈ fq ∨ a ∈ fv
  | [], [], ds, fq, h, _, nd => by
    obtain ⟨rfl, rfl⟩ := h.nil
    refine ⟨fv ++ [], ownL_cons ov ownL_nil, by simpa using nd, fun a ha => ?_⟩
    rw [List.append_nil] at ha
    exact .inr ha
  | [], _ :: _, ds, fq, h, hl, nd => by cases hl
  | _ :: _, [], ds, fq, h, hl, nd => by cases hl
  | g :: ns, q :: ps, ds, fq, h, hl, nd => by
    obtain ⟨x, r, f1, f2, rfl, rfl, h1, h2⟩ := h.cons
    obtain ⟨n12, nv, dis⟩ := app_nodup nd
    obtain ⟨n1, n2, d12⟩ := app_nodup n12
    rw [putV, putV]
    by_cases e : g = f
    · rw [if_pos e, if_pos e]
      refine ⟨fv ++ f2, ownL_cons ov h2, nodup_app nv n2 fun a ha hb => dis a (List.mem_append_right _ hb) ha, fun a ha => ?_⟩
      rcases List.mem_append.mp ha with z | z
      · exact .inr z
      · exact .inl (List.mem_append_right _ z)
    · rw [if_neg e, if_neg e]
      obtain ⟨fq', h3, n3, sub⟩ := OwnL.putF (f := f) ov (ns := ns) h2 (by simpa using hl) (nodup_app n2 nv fun a ha hb => dis a (List.mem_append_right _ ha) hb)
      refine ⟨f1 ++ fq', ownL_cons h1 h3, nodup_app n1 n3 fun a ha hb => ?_, fun a ha => ?_⟩
      · rcases sub a hb with z | z
        · exact d12 a ha z
        · exact dis a (List.mem_append_left _ ha) z
      · rcases List.mem_append.mp ha with z | z
        · exact .inl (List.mem_append_left _ z)
        · rcases sub a z with y | y
          · exact .inl (List.mem_append_right _ y)
          · exact .inr y
theorem putF_slot {εp : PEnv} {fp fv : List Addr} {ns : List Str} {ps : List PV} {v : PV} {d : D} (own : OwnE S εp ε fp) (nd : (fp ++ fv).Nodup) (hd : εp[i]? = some (some (.obj cn ns ps))) (ov : Own S v d fv) :
    ∃ b ds fp', ε[i]? = some (some (.ref b)) ∧ S b = some (.gen (objK (Amb.cls cn) ns) ds) ∧
      OwnE (put S b (.gen (objK (Amb.cls cn) (putN f ns)) (putV f d ns ds))) (εp.set i (some (.obj cn (putN f ns) (putV f v ns ps)))) ε fp' ∧ fp'.Nodup ∧ Nx S (fp ++ fv) (put S b (.gen (objK (Amb.cls cn) (putN f ns)) (putV f d ns ds))) fp' := by
  obtain ⟨x, fq, fr, e1, ow, oe, pm⟩ := own.take hd
  obtain ⟨b, ds, fo, rfl, rfl, hS, hlen, ol⟩ := ow.obj
  obtain ⟨nfp, nv, dis⟩ := app_nodup nd
  obtain ⟨n1, n2, n3⟩ := app_nodup (perm_nodup pm nfp)
  obtain ⟨hb, nfo⟩ := List.nodup_cons.mp n1
  have inF : ∀ a, a ∈ b :: fo → a ∈ fp := fun a ha => pm.mem_iff.mpr (List.mem_append_left _ ha)
  have inR : ∀ a, a ∈ fr → a ∈ fp := fun a ha => pm.mem_iff.mpr (List.mem_append_right _ ha)
  obtain ⟨fq', ol', nq', sub⟩ := OwnL.putF (f := f) ov ol hlen (nodup_app nfo nv fun a ha hv => dis a (inF a (List.mem_cons_of_mem _ ha)) hv)
  have hbq : b ∉ fq' := fun z => (sub b z).elim hb fun y => dis b (inF b List.mem_cons_self) y
  have hbr : b ∉ fr := fun z => n3 b List.mem_cons_self z
  obtain ⟨S', hS'⟩ : ∃ S', S' = put S b (.gen (objK (Amb.cls cn) (putN f ns)) (putV f d ns ds)) := ⟨_, rfl⟩
  have same : ∀ a, a ≠ b → S' a = S a := fun a ha => by rw [hS', put_ne ha]
  have own' : Own S' (.obj cn (putN f ns) (putV f v ns ps)) (.ref b) (b :: fq') :=
    own_obj (ds := putV f d ns ds) (by rw [hS', put_same]) (putV_len ns ps hlen.symm).symm (OwnL.frame _ ol' fun a ha => same a fun z => hbq (z ▸ ha))
  have oe' := oe.frame (S' := S') fun a ha => same a fun z => hbr (z ▸ ha)
  have hi : i < εp.length := (List.getElem?_eq_some_iff.mp hd).1
  obtain ⟨fp', ow', pm'⟩ := oe'.give (i := i) (by rw [List.getElem?_set_self hi]) e1 own'
  rw [List.set_set] at ow'
  have nx : Nx S (fp ++ fv) S' fp' := by
    refine ⟨fun a ha => .inl ?_, fun q c hq hc => ?_⟩
    · rcases List.mem_append.mp (pm'.mem_iff.mp ha) with z | z
      · rcases List.mem_cons.mp z with rfl | z
        · exact List.mem_append_left _ (inF _ List.mem_cons_self)
        · rcases sub a z with y | y
          · exact List.mem_append_left _ (inF a (List.mem_cons_of_mem _ y))
          · exact List.mem_append_right _ y
      · exact List.mem_append_left _ (inR a z)
    · rw [same q fun z => hq (List.mem_append_left _ (by rw [z]; exact inF b List.mem_cons_self))]
      exact hc
  have nd' : fp'.Nodup := perm_nodup pm'.symm (nodup_app (List.nodup_cons.mpr ⟨hbq, nq'⟩) n2 fun a ha hr => by
    rcases List.mem_cons.mp ha with rfl | ha
    · exact hbr hr
    · rcases sub a ha with z | z
      · exact n3 a (List.mem_cons_of_mem _ z) hr
      · exact dis a (inR a hr) z)
  subst hS'
  exact ⟨b, ds, fp', e1, hS, ow', nd', nx⟩
def mPutF (cn : Str) (i : Nat) (f : Str) (v : PV) : M Res := fun ε => match ε[i]? with
  | some (some (.obj c ns ps)) => if c = cn ∧ ns.length < 900 then some (.ok .nx, ε.set i (some (.obj c (putN f ns) (putV f v ns ps)))) else none
  | _ => none
def mSetF (cn : Str) (i : Nat) (f : Str) (pa : M D) : M Res := mBind pa fun d => mPutF cn i f (.val d)
def mSetFO (cn : Str) (i : Nat) (f : Str) (po : M PV) : M Res := fun ε => match po ε with
  | none => none
  | some (.ok v, ε') => mPutF cn i f v ε'
  | some (.ex e, ε') => some (.ex e, ε')
variable {Dn : DEnds}
theorem putF_end {εp : PEnv} {fp fv : List Addr} {v : PV} {d : D} {o : Out Res} {εp' : PEnv} {S0 : SD} {fp0 : List Addr} (own : OwnE S εp ε fp) (nd : (fp ++ fv).Nodup) (n : Nx S0 fp0 S (fp ++ fv)) (ov : Own S v d fv) (e : mPutF cn i f v εp = some (o, εp'))
    (k : ∀ S' fp' ε', OwnE S' εp' ε' fp' → Agree [] ε ε' → Fin XD Dn S0 fp0 εp' ε' S' fp' o) :
    ∃ b ns ds, ε[i]? = some (some (.ref b)) ∧ S b = some (.gen (objK (Amb.cls cn) ns) ds) ∧ ns.length < 900 ∧ Dn.nx ε (put S b (.gen (objK (Amb.cls cn) (putN f ns)) (putV f d ns ds))) := by
  unfold mPutF at e
  split at e
  · rename_i c ns ps hd
    split at e
    · rename_i hc
      obtain ⟨rfl, hl⟩ := hc
      cases e
      obtain ⟨b, ds, fp', e1, hS, ow, nd', nx⟩ := putF_slot (f := f) own nd hd ov
      exact ⟨b, ns, ds, e1, hS, hl, k _ fp' ε ow Agree.refl nd' (n.trans nx)⟩
    · cases e
  · cases e
theorem wS_setF {pa : M D} (h : wS XD [] (mSetF cn i f pa) Dn ε S) : dSFld (Amb.cls cn) (dVar i) (wM XD pa) f Dn ε S := wM_imp (wS_bind h) fun d S1 h => by
  obtain ⟨εp, fp, o, εp', st, e, k⟩ := h
  obtain ⟨b, ns, ds, e1, e2, e3, e4⟩ := putF_end (fv := []) st.own (by rw [List.append_nil]; exact st.nd) (by rw [List.append_nil]; exact Nx.refl) own_val e k
  exact ⟨.ref b, e1, b, ns, ds, rfl, e2, e3, e4⟩
theorem wS_setFO {po : M PV} (h : wS XD [] (mSetFO cn i f po) Dn ε S) : dSFld (Amb.cls cn) (dVar i) (wO XD po) f Dn ε S := by
  obtain ⟨εp, fp, o, εp', st, e, k⟩ := h
  unfold mSetFO at e
  split at e
  · cases e
  · rename_i v ε1 e1
    refine ⟨εp, fp, .ok v, ε1, st, e1, fun S1 fp1 fq d own1 ov nd n => ?_⟩
    obtain ⟨b, ns, ds, e1, e2, e3, e4⟩ := putF_end own1 nd n ov e k
    exact ⟨.ref b, e1, b, ns, ds, rfl, e2, e3, e4⟩
  · rename_i x ε1 e1
    cases e
    exact ⟨εp, fp, .ex x, _, st, e1, fun S1 fp1 st1 n1 => k S1 fp1 ε st1.own Agree.refl st1.nd n1⟩
end
section
variable [Amb] [Cbs] {X : Cx} {XD : XT} {o e value : Expr} {cn f : Str} {i : Nat} {pos pos' : Pos} {pa : M D} {po : M PV}
theorem fe_fld (hc : Cls X.K (Amb.cls cn)) (hn : NoAttr X.K (Amb.cls cn) f) (he : DE X e (dVar i)) (hb : attributeBase e f X.env (eval e X.env) = eval e X.env := by rfl) : FE X XD (.Attribute e f pos) (mFld cn i f) :=
  DE_imp (de_fld hc hn he hb) fun ε S Q h => by
    obtain ⟨d, ⟨b, ns, ds, e1, e2, e3⟩, q⟩ := wM_fld h
    exact ⟨.ref b, e1, b, ns, ds, d, rfl, e2, e3, q⟩
theorem fs_fld (hc : Cls X.K (Amb.cls cn)) (hn : NoAttr X.K (Amb.cls cn) f) (ho : DE X o (dVar i)) (hv : FE X XD value pa) (hs : swapsWith value (some (.Attribute o f pos')) pos.line X.env = pure false := by rfl) : FS X XD (.Assign [.Attribute o f pos'] value pos) [] (mSetF cn i f pa) :=
  DS_imp (ds_fld hc hn ho hv hs) fun _ _ _ h => wS_setF h
theorem fs_fldO (hc : Cls X.K (Amb.cls cn)) (hn : NoAttr X.K (Amb.cls cn) f) (ho : DE X o (dVar i)) (hv : FO X XD value po) (hs : swapsWith value (some (.Attribute o f pos')) pos.line X.env = pure false := by rfl) : FS X XD (.Assign [.Attribute o f pos'] value pos) [] (mSetFO cn i f po) :=
  DS_imp (ds_fld hc hn ho hv hs) fun _ _ _ h => wS_setFO h
end
end FL

namespace FL
open PySem PySem.Spec PyProof.Rows L2 DL NdefX LamX
section
variable [Amb] [Cbs] {P : Program} {w : World} {K : PySem.W.Frag} {mg : Str → Option Value} {base : Heap}
theorem fnDF {x qual : Str} {st : Stmt} {f : Addr} {fd : FuncData} {N ps : List Str} {k : Nat} {io ms : List Nat} {body : M Res} (F : Fun K x qual st f fd) (S : FnScope N ps (defScope st)) (hio : ∀ i ∈ io, i ∉ ms)
    (hbody : ∀ (cdv : Value) (A : Around) (outer : List Env) (s : Shared) (H : Hp) (E : XK), RoomG k (A.deeper (envOfC qual (defScope st) s.heap.objs.size f cdv)) → FSs (cxOf CX0 P w K mg base N qual (defScope st) f cdv A outer s H E).nox NoX (defBody st) ms body) :
    FnD P w K mg base (k + 1) f fd ps (spF (fnF ps.length io N.length body)) := by
  refine fnD F S (fun ds S Q h => ?_) (wS NoX ms body) hbody (fun ds S1 Q h => ?_)
  · obtain ⟨vs, fp, v, vs', ol, nd, e, k⟩ := h
    rw [ol.length]
    unfold fnF at e
    split at e
    · assumption
    · cases e
  · obtain ⟨vs, fp, v, vs', ol, nd, e, k⟩ := h
    unfold fnF at e
    split at e
    · have len := ol.length
      have st0 : St S1 (startP N.length vs) (startD N ds) fp := ⟨by
        unfold startP startD
        rw [len]
        exact own_start _ ol, nd⟩
      have fin : ∀ {ε' : PEnv} {S' : SD} {fp' fq : List Addr} {ε'' : ED} {d : D} {v : PV}, OwnE S' ε' ε'' fp' → Agree ms (startD N ds) ε'' → outsF io 0 vs ε' = some vs' → (∀ S' fp' fq d, OwnL S' vs' ds fp' → Own S' v d fq → (fp' ++ fq).Nodup → Nx S1 fp S' (fp' ++ fq) → Q d S') →
          Own S' v d fq → (fp' ++ fq).Nodup → Nx S1 fp S' (fp' ++ fq) → Q d S' := fun {ε' S' fp' fq ε'' d v} own ag e2 k ov nd2 n2 => by
        obtain ⟨f1, fr, ol2, pm⟩ := outs_ok ol own e2 fun j d hc hj => by
          rw [Nat.zero_add] at hc ⊢
          have hin : j ∈ io := by simpa using hc
          rw [ag j (hio j hin)]
          exact startD_get hj
        have sub : ∀ a ∈ f1, a ∈ fp' := fun a ha => pm.symm.mem_iff.mp (List.mem_append_left _ ha)
        obtain ⟨m1, m2, m3⟩ := app_nodup nd2
        refine k S' f1 fq d ol2 ov (nodup_app (app_nodup (perm_nodup pm m1)).1 m2 fun a ha hb => m3 a (sub a ha) hb) (n2.trans (Nx.sub fun a ha => ?_))
        exact (List.mem_append.mp ha).elim (fun z => List.mem_append_left _ (sub a z)) (List.mem_append_right _)
      unfold runF at e
      split at e
      · rename_i v1 ε1 e1
        split at e
        · rename_i ps2 e2
          cases e
          exact ⟨_, fp, _, ε1, st0, e1, fun S' fp' ε'' own ag fq d ov nd2 n2 => .of (fin own ag e2 k ov nd2 n2)⟩
        · cases e
      · rename_i ε1 e1
        split at e
        · rename_i ps2 e2
          cases e
          exact ⟨_, fp, _, ε1, st0, e1, fun S' fp' ε'' own ag nd2 n2 => .of (fin own ag e2 k own_val (by rw [List.append_nil]; exact nd2) (by rw [List.append_nil]; exact n2))⟩
        · cases e
      · cases e
    · cases e
theorem fnF_ok {np n : Nat} {io : List Nat} {body : M Res} {vs vs' : List PV} {o : Out PV} (h : fnF np io n body vs = some (o, vs')) : ∃ v, o = .ok v := by
  unfold fnF at h
  split at h
  · exact runF_ok _ _ _ h
  · cases h
structure MC (P : Program) (w : World) (K : PySem.W.Frag) (mg : Str → Option Value) (base : Heap) (k : Nat) (cn nm : Str) (ps : List Str) (m : FM) : Prop where
  ex : ∃ g fd, FnD P w K mg base k g fd ps (spF m) ∧ Meth K (Amb.cls cn) nm g ∧ Binds K fd ps []
  ok : ∀ ps o ps', m ps = some (o, ps') → ∃ v, o = .ok v
theorem mcF {cn x qual : Str} {st : Stmt} {f : Addr} {fd : FuncData} {N ps : List Str} {k : Nat} {io ms : List Nat} {body : M Res} (F : Fun K x qual st f fd) (g : Meth K (Amb.cls cn) x f) (bd : Binds K fd ps []) (S : FnScope N ps (defScope st)) (hio : ∀ i ∈ io, i ∉ ms)
    (hbody : ∀ (cdv : Value) (A : Around) (outer : List Env) (s : Shared) (H : Hp) (E : XK), RoomG k (A.deeper (envOfC qual (defScope st) s.heap.objs.size f cdv)) → FSs (cxOf CX0 P w K mg base N qual (defScope st) f cdv A outer s H E).nox NoX (defBody st) ms body) :
    MC P w K mg base (k + 1) cn x ps (fnF ps.length io N.length body) := ⟨⟨f, fd, fnDF F S hio hbody, g, bd⟩, fun _ _ _ h => fnF_ok h⟩
structure KC (P : Program) (w : World) (K : PySem.W.Frag) (mg : Str → Option Value) (base : Heap) (k : Nat) (cn : Str) (ps : List Str) (m : FM) : Prop where
  ex : ∃ g fd, FnD P w K mg base k g fd ps (spF m) ∧ Mk K (Amb.cls cn) g ∧ Binds K fd ps []
  gl : mg cn = some (.ref (Amb.cls cn))
  ok : ∀ ps o ps', m ps = some (o, ps') → ∃ v, o = .ok v
theorem kcF {cn x qual : Str} {st : Stmt} {f : Addr} {fd : FuncData} {N ps : List Str} {k : Nat} {io ms : List Nat} {body : M Res} (F : Fun K x qual st f fd) (g : Mk K (Amb.cls cn) f) (gl : mg cn = some (.ref (Amb.cls cn))) (bd : Binds K fd ps []) (S : FnScope N ps (defScope st)) (hio : ∀ i ∈ io, i ∉ ms)
    (hbody : ∀ (cdv : Value) (A : Around) (outer : List Env) (s : Shared) (H : Hp) (E : XK), RoomG k (A.deeper (envOfC qual (defScope st) s.heap.objs.size f cdv)) → FSs (cxOf CX0 P w K mg base N qual (defScope st) f cdv A outer s H E).nox NoX (defBody st) ms body) :
    KC P w K mg base (k + 1) cn ps (fnF ps.length io N.length body) := ⟨⟨f, fd, fnDF F S hio hbody, g, bd⟩, gl, fun _ _ _ h => fnF_ok h⟩
end
section
variable [Amb] [Cbs] {S : SD} {XD : XT} {ε : ED} {α : Type} {cn nm : Str} {i : Nat}
def mSlotM {α : Type} (cn : Str) (i : Nat) (nm : Str) (p : M α) : M α := fun ε => match ε[i]? with
  | some (some (.obj c ns _)) => if c = cn ∧ nm ∉ ns then p ε else none
  | _ => none
def mMeth (cn : Str) (i : Nat) (nm : Str) (m : FM) (pl : M (List PArg)) : M PV := mSlotM cn i nm (mCall m (mArgS i pl))
theorem wO_slotM {p : M PV} {Q : DK} (h : wO XD (mSlotM cn i nm p) ε S Q) : (∃ b ns ds, ε[i]? = some (some (.ref b)) ∧ S b = some (.gen (objK (Amb.cls cn) ns) ds) ∧ nm ∉ ns) ∧ wO XD p ε S Q := by
  obtain ⟨εp, fp, o, εp', st, e, k⟩ := h
  unfold mSlotM at e
  split at e
  · rename_i c ns ps hd
    split at e
    · rename_i hc
      obtain ⟨rfl, hn⟩ := hc
      obtain ⟨d, fq, e1, ow, _⟩ := st.slot hd
      obtain ⟨b, ds, fr, rfl, rfl, hS, _, _⟩ := ow.obj
      exact ⟨⟨b, ns, ds, e1, hS, hn⟩, εp, fp, o, εp', st, e, k⟩
    · cases e
  · cases e
theorem wO_meth0 {m : FM} {Q : DK} (h : wO NoX (mMeth cn i nm m (mPure [])) ε S Q) (hm : ∀ ps o ps', m ps = some (o, ps') → ∃ v, o = .ok v) : dMeth0 (Amb.cls cn) nm (spF m) (dVar i) ε S Q := by
  obtain ⟨⟨b, ns, ds, e1, hS, hn⟩, h⟩ := wO_slotM h
  obtain ⟨d, e2, h⟩ := wL_argS (wO_call h hm)
  rw [e1] at e2
  cases e2
  exact ⟨.ref b, e1, b, ns, ds, rfl, hS, hn, wL_nil h⟩
def mObjM (cn : Str) (nm : Str) (p : M PV) : M PV := fun ε => match p ε with
  | some (.ok (.obj c ns ps), ε') => if c = cn ∧ nm ∉ ns then some (.ok (.obj c ns ps), ε') else none
  | some (.ex e, ε') => some (.ex e, ε')
  | _ => none
def mMethN (cn nm : Str) (m : FM) (po : M PV) (pl : M (List PArg)) : M PV := mCall m (mArgN (mObjM cn nm po) pl)
theorem wO_objM {p : M PV} {Q : DK} (h : wO XD (mObjM cn nm p) ε S Q) : wO XD p ε S fun x S1 => (∃ b ns ds, x = .ref b ∧ S1 b = some (.gen (objK (Amb.cls cn) ns) ds) ∧ nm ∉ ns) ∧ Q x S1 := by
  obtain ⟨εp, fp, o, εp', st, e, k⟩ := h
  unfold mObjM at e
  split at e
  · rename_i c ns ps ε1 e1
    split at e
    · rename_i hc
      obtain ⟨rfl, hn⟩ := hc
      cases e
      refine ⟨εp, fp, _, _, st, e1, fun S1 fp1 fq d own ov nd n => ⟨?_, k S1 fp1 fq d own ov nd n⟩⟩
      obtain ⟨b, ds, fr, rfl, rfl, hS, _, _⟩ := ov.obj
      exact ⟨b, ns, ds, rfl, hS, hn⟩
    · cases e
  · rename_i x ε1 e1
    cases e
    exact ⟨εp, fp, _, _, st, e1, k⟩
  · cases e
theorem wO_imp {p : M PV} {Q Q' : DK} (h : wO XD p ε S Q) (i : ∀ a S', Q a S' → Q' a S') : wO XD p ε S Q' := by
  obtain ⟨εp, fp, o, εp', st, e, k⟩ := h
  refine ⟨εp, fp, o, εp', st, e, ?_⟩
  cases o with
  | ok v => exact fun S' fp' fq d own ov nd n => i d S' (k S' fp' fq d own ov nd n)
  | ex x => exact k
theorem wO_methN0 {m : FM} {po : M PV} {Q : DK} (h : wO NoX (mMethN cn nm m po (mPure [])) ε S Q) (hm : ∀ ps o ps', m ps = some (o, ps') → ∃ v, o = .ok v) : dMeth0 (Amb.cls cn) nm (spF m) (wO NoX po) ε S Q :=
  wO_imp (wO_objM (wL_argN (wO_call h hm))) fun x S1 ⟨⟨b, ns, ds, e1, hS, hn⟩, h⟩ => by
    subst e1
    exact ⟨b, ns, ds, rfl, hS, hn, wL_nil h⟩
def mMake (cn : Str) (m : FM) (pl : M (List PArg)) : M PV := fun ε => match pl ε with
  | none => none
  | some (.ex e, ε1) => some (.ex e, ε1)
  | some (.ok as, ε1) => match takeA as ε1 with
    | none => none
    | some (ps, ε2) => match m (.obj cn [] [] :: ps) with
      | some (.ok (.val .non), q :: ps') => match giveA as ps' ε2 with
        | none => none
        | some ε3 => some (.ok q, ε3)
      | _ => none
theorem wO_make {m : FM} {pl : M (List PArg)} {Q : DK} (h : wO NoX (mMake cn m pl) ε S Q) : dMake (Amb.cls cn) (spF m) (wL NoX pl) ε S Q := by
  obtain ⟨εp, fp, o, εp', st, e, k⟩ := h
  unfold mMake at e
  split at e
  · cases e
  · rename_i x ε1 e1
    cases e
    exact ⟨εp, fp, .ex x, _, st, e1, k⟩
  · rename_i as ε1 e1
    split at e
    · cases e
    · rename_i ps ε2 e2
      split at e
      · rename_i q ps' e3
        split at e
        · cases e
        · rename_i ε3 e4
          cases e
          refine ⟨εp, fp, .ok as, ε1, st, e1, fun S1 fp1 fq1 ds own1 ar nd1 n1 a ha => ?_⟩
          obtain ⟨f, fr, ol, own2, pm⟩ := take_ok own1 ar e2
          have nd2 := perm_nodup pm nd1
          obtain ⟨nf, nr, dfr⟩ := app_nodup nd2
          have af : a ∉ f := fun z => by
            obtain ⟨c, hc⟩ := OwnL.dom _ ol a z
            rw [ha] at hc
            cases hc
          have ar' : a ∉ fr := fun z => by
            obtain ⟨c, hc⟩ := own2.dom a z
            rw [ha] at hc
            cases hc
          obtain ⟨S1', hS1⟩ : ∃ S1', S1' = put S1 a (.gen (objK (Amb.cls cn) []) []) := ⟨_, rfl⟩
          have same : ∀ y, y ≠ a → S1' y = S1 y := fun y hy => by rw [hS1, put_ne hy]
          have hS1a : S1' a = some (.gen (objK (Amb.cls cn) []) []) := by rw [hS1, put_same]
          rw [← hS1]
          have ol' : OwnL S1' (.obj cn [] [] :: ps) (.ref a :: ds) ([a] ++ f) := ownL_cons (own_obj hS1a rfl ownL_nil) (OwnL.frame _ ol fun y hy => same y fun z => af (z ▸ hy))
          have own2' : OwnE S1' ε2 ε fr := own2.frame fun y hy => same y fun z => ar' (z ▸ hy)
          have nd3 : (([a] ++ f) ++ fr).Nodup := by
            show (a :: (f ++ fr)).Nodup
            exact List.nodup_cons.mpr ⟨fun z => (List.mem_append.mp z).elim af ar', nd2⟩
          refine ⟨_, [a] ++ f, _, _, ol', (app_nodup nd3).1, e3, fun S2 f' fq d olr ov nd4 n4 => ?_⟩
          obtain ⟨rfl, rfl⟩ := ov.val
          rw [List.append_nil] at nd4 n4
          obtain ⟨d0, r0, g1, g2, e5, rfl, oq, ol2⟩ := olr.cons
          cases e5
          refine ⟨rfl, ?_⟩
          obtain ⟨k1, k2, k3⟩ := Nx.rest nd3 n4 own2'.dom nd4
          have k2' : (g1 ++ (g2 ++ fr)).Nodup := by rwa [List.append_assoc] at k2
          obtain ⟨nq, n12, dis⟩ := app_nodup k2'
          obtain ⟨fp3, own3, nd5, sub⟩ := give_ok (own2'.frame k1) ol2 ar n12 e4
          refine k S2 fp3 g1 _ own3 oq (nodup_app nd5 nq fun y hy hb => dis y hb (sub y hy)) ?_
          have nn : Nx S1 (fp1 ++ fq1) S1' ((fp1 ++ fq1) ++ [a]) := by
            rw [hS1]
            exact nx_new ha
          refine n1.trans (nn.trans (k3.perm (fun y => ?_) fun y hy => ?_))
          · constructor
            · intro hy
              rcases List.mem_append.mp hy with z | z
              · rcases List.mem_append.mp z with z | z
                · exact List.mem_append_right _ z
                · exact List.mem_append_left _ (pm.mem_iff.mpr (List.mem_append_left _ z))
              · exact List.mem_append_left _ (pm.mem_iff.mpr (List.mem_append_right _ z))
            · intro hy
              rcases List.mem_append.mp hy with z | z
              · rcases List.mem_append.mp (pm.mem_iff.mp z) with z | z
                · exact List.mem_append_left _ (List.mem_append_right _ z)
                · exact List.mem_append_right _ z
              · exact List.mem_append_left _ (List.mem_append_left _ z)
          · rcases List.mem_append.mp hy with z | z
            · rcases List.mem_append.mp (sub y z) with z | z
              · exact List.mem_append_left _ (List.mem_append_right _ z)
              · exact List.mem_append_right _ z
            · exact List.mem_append_left _ (List.mem_append_left _ z)
      · cases e
end
section
variable [Amb] [Cbs] {X : Cx} {cn nm x : Str} {i k : Nat} {ps : List Str} {m : FM} {o e : Expr} {es : List Expr} {pos apos p : Pos} {po : M PV} {pl : M (List PArg)}
theorem fo_meth0 {pq : Sem Bool} (C : MC X.prog X.w X.K X.mg X.base k cn nm ps m) (hr : RoomG k X.A) (hc : Cls X.K (Amb.cls cn)) (ho : DE X o (dVar i))
    (ht : eval (.Call (.Attribute o nm apos) [] [] pos) X.env = (do
      let ov ← eval o X.env
      standAt apos.atName
      let (f, first) ← holding [ov] (getMethod ov nm pq)
      callWith pos f first (backTo pos (starEach [] X.env)) (backToKw pos (keywordEach [] X.env))) := by rfl) :
    FO X NoX (.Call (.Attribute o nm apos) [] [] pos) (mMeth cn i nm m (mPure [])) := by
  obtain ⟨g, fd, F, hm, hb⟩ := C.ex
  exact DE_imp (de_meth0 hc hm F hr hb ho ht) fun _ _ _ h => wO_meth0 h C.ok
theorem fo_methN0 {pq : Sem Bool} (C : MC X.prog X.w X.K X.mg X.base k cn nm ps m) (hr : RoomG k X.A) (hc : Cls X.K (Amb.cls cn)) (ho : FO X NoX o po)
    (ht : eval (.Call (.Attribute o nm apos) [] [] pos) X.env = (do
      let ov ← eval o X.env
      standAt apos.atName
      let (f, first) ← holding [ov] (getMethod ov nm pq)
      callWith pos f first (backTo pos (starEach [] X.env)) (backToKw pos (keywordEach [] X.env))) := by rfl) :
    FO X NoX (.Call (.Attribute o nm apos) [] [] pos) (mMethN cn nm m po (mPure [])) := by
  obtain ⟨g, fd, F, hm, hb⟩ := C.ex
  exact DE_imp (de_meth0 hc hm F hr hb ho ht) fun _ _ _ h => wO_methN0 h C.ok
theorem fo_make (C : KC X.prog X.w X.K X.mg X.base k cn ps m) (hr : RoomG (k + 1) X.A) (hg : Gl X cn) (ha : FLs X NoX (e :: es) pl)
    (hdb : (cn == ("__debug__" : Str)) = false := by decide) (he : starEach (e :: es) X.env = (false, eval e X.env) :: starEach es X.env := by rfl) (hpl : (backTo pos (starEach es X.env)).any (·.1) = false := by rfl) :
    FO X NoX (.Call (.Name cn p) (e :: es) [] pos) (mMake cn m pl) := by
  obtain ⟨g, fd, F, hm, hb⟩ := C.ex
  exact DE_imp (de_make hm F hr hg C.gl hb ha hdb he hpl) fun _ _ _ h => wO_make h
end
end FL

namespace FL
open PySem PySem.Spec PyProof.Rows L2 DL NdefX LamX
def fIntV : List D → Option D
  | [.str a] => if a.length ≤ 640 then (PySem.intText? a).map D.int else none
  | ds => fInt ds
@[simp] theorem fIntV_str (a : Str) : fIntV [.str a] = if a.length ≤ 640 then (PySem.intText? a).map D.int else none := rfl
@[simp] theorem fIntV_int (i : Int) : fIntV [.int i] = some (.int i) := rfl
def fStrI : List D → Option D
  | [.int i] => if i.natAbs.log2 < 1920 then some (.str (toString i)) else none
  | _ => none
@[simp] theorem fStrI_int (i : Int) : fStrI [.int i] = if i.natAbs.log2 < 1920 then some (.str (toString i)) else none := rfl
def toS : D → Option Str
  | .str a => some a
  | _ => none
@[simp] theorem toS_str (a : Str) : toS (.str a) = some a := rfl
def strsOf : List D → Option (List Str)
  | [] => some []
  | .str a :: ds => (strsOf ds).map (a :: ·)
  | _ :: _ => none
@[simp] theorem strsOf_map (ys : List Str) : strsOf (ys.map D.str) = some ys := by
  induction ys with
  | nil => rfl
  | cons y ys ih => rw [List.map_cons, strsOf, ih]; rfl
theorem strsOf_eq : ∀ {ds : List D} {ys : List Str}, strsOf ds = some ys → ds = ys.map D.str
  | [], ys, h => by cases h; rfl
  | d :: ds, ys, h => by
    cases d <;> first | (cases h; done) | skip
    obtain ⟨zs, e, rfl⟩ := Option.map_eq_some_iff.mp h
    rw [strsOf_eq e]
    rfl
def joinD (a : Str) (ds : List D) : Option D := (strsOf ds).bind fun ys => if (ys.map (·.length)).sum + ys.length * a.length ≤ 16777216 then some (.str (Txt.join a ys)) else none
theorem joinD_eq {a : Str} {ds : List D} {d : D} (h : joinD a ds = some d) : ∃ ys, ds = ys.map D.str ∧ (ys.map (·.length)).sum + ys.length * a.length ≤ 16777216 ∧ d = .str (Txt.join a ys) := by
  obtain ⟨ys, e, h⟩ := Option.bind_eq_some_iff.mp h
  split at h
  · cases h
    exact ⟨ys, strsOf_eq e, by assumption, rfl⟩
  · cases h
@[simp] theorem joinD_strs (a : Str) (ys : List Str) : joinD a (ys.map D.str) = if (ys.map (·.length)).sum + ys.length * a.length ≤ 16777216 then some (.str (Txt.join a ys)) else none := by
  unfold joinD
  rw [strsOf_map]
  rfl
def mJoinF (pa : M D) (pf : M (List D)) : M D := mBind pa fun x => mBind (mLift (toS x)) fun a => mBind pf fun ds => mLift (joinD a ds)
def mJoinL (pa : M D) (i : Nat) : M D := mBind pa fun x => mBind (mLift (toS x)) fun a => mBind (mGetL i) fun ds => mLift (joinD a ds)
@[simp] theorem mJoinF_run (pa : M D) (pf : M (List D)) (ε : PEnv) : mJoinF pa pf ε = (mBind pa fun x => mBind (mLift (toS x)) fun a => mBind pf fun ds => mLift (joinD a ds)) ε := rfl
@[simp] theorem mJoinL_run (pa : M D) (i : Nat) (ε : PEnv) : mJoinL pa i ε = (mBind pa fun x => mBind (mLift (toS x)) fun a => mBind (mGetL i) fun ds => mLift (joinD a ds)) ε := rfl
theorem toS_eq {x : D} {a : Str} (h : toS x = some a) : x = .str a := by
  cases x <;> first | (cases h; rfl) | cases h
section
variable [Amb] [Cbs] {X : Cx} {XD : XT} {o e : Expr} {pa pb : M D} {pf : M (List D)} {pos apos : Pos} {i : Nat}
theorem fc_intV : FCall X (.type "int") fIntV := by
  intro pins s σ H xs us Q I r ⟨ds, S, Q0, den, rS, ⟨d, e, q⟩, k⟩
  by_cases hs : ∃ a, ds = [.str a]
  · obtain ⟨a, rfl⟩ := hs
    rw [fIntV_str] at e
    split at e
    · obtain ⟨n, e1, rfl⟩ := Option.map_eq_some_iff.mp e
      exact dc_intS pins s σ H xs us Q I r ⟨_, S, Q0, den, rS, ⟨a, n, rfl, e1, by assumption, q⟩, k⟩
    · cases e
  · refine fc_int pins s σ H xs us Q I r ⟨ds, S, Q0, den, rS, ⟨d, ?_, q⟩, k⟩
    rw [← e]
    unfold fIntV
    split
    · exact absurd ⟨_, rfl⟩ hs
    · rfl
theorem fc_strI : FCall X (.type "str") fStrI := FCall_of dc_strI fun ds S Q d h q => by
  unfold fStrI at h
  split at h
  · split at h
    · cases h
      exact ⟨_, rfl, by assumption, q⟩
    · cases h
  · cases h
theorem fe_joinF (ho : FE X XD o pa) (he : FF X XD e pf) (hs : starEach [e] X.env = [(false, eval e X.env)] := by rfl) (hbase : attributeBase o "join" X.env (eval o X.env) = eval o X.env := by rfl) (hline : (apos.endLine == pos.line) = true := by rfl) :
    FE X XD (.Call (.Attribute o "join" apos) [e] [] pos) (mJoinF pa pf) :=
  DE_imp (de_joinF ho he hs hbase hline) fun ε S Q h => wM_imp (wM_bind h) fun x S1 h => by
    obtain ⟨a, e1, h⟩ := wM_lift (wM_bind h)
    have ex := toS_eq e1
    refine ⟨⟨a, ex⟩, wM_imp (wM_bind h) fun ds S2 h => ?_⟩
    obtain ⟨d, e2, h⟩ := wM_lift h
    obtain ⟨ys, e3, hz, rfl⟩ := joinD_eq e2
    exact ⟨a, ys, ex, e3, hz, h⟩
end
section
variable [Amb] [Cbs] {X : Cx} {XD : XT} {S : SD} {ε : ED} {Dn : DEnds} {o value : Expr} {pv : M D} {pos tpos : Pos} {cn f : Str} {i : Nat}
def mAugF (cn : Str) (i : Nat) (f : Str) (pv : M D) : M Res := mBind (mFld cn i f) fun x => mBind (mLift (toI x)) fun a => mBind pv fun y => mBind (mLift (toI y)) fun b => mPutF cn i f (.val (.int (a + b)))
theorem wS_lift {α : Type} {q : Option α} {f : α → M Res} {ms : List Nat} (h : wS XD ms (mBind (mLift q) f) Dn ε S) : ∃ a, q = some a ∧ wS XD ms (f a) Dn ε S := wM_lift (wS_bind h)
theorem wS_augF (h : wS XD [] (mAugF cn i f pv) Dn ε S) : dFldAdd (Amb.cls cn) (dVar i) (wM XD pv) f Dn ε S := by
  obtain ⟨d, ⟨b, ns, ds, e1, e2, e3⟩, h⟩ := wM_fld (wS_bind h)
  obtain ⟨a, e4, h⟩ := wS_lift h
  have ed : d = .int a := by
    cases d <;> first | (cases e4; rfl) | cases e4
  subst ed
  refine ⟨.ref b, e1, b, ns, ds, a, rfl, e2, e3, wM_imp (wS_bind h) fun y S2 h => ?_⟩
  obtain ⟨c, e5, h⟩ := wS_lift h
  have ey : y = .int c := by
    cases y <;> first | (cases e5; rfl) | cases e5
  subst ey
  obtain ⟨εp, fp, o, εp', st, e, k⟩ := h
  obtain ⟨b', ns', ds', e1', hS, hl, kk⟩ := putF_end (fv := []) st.own (by rw [List.append_nil]; exact st.nd) (by rw [List.append_nil]; exact Nx.refl) own_val e k
  rw [e1] at e1'
  cases e1'
  exact ⟨c, ns', ds', rfl, hS, hl, kk⟩
theorem fs_augF (hc : Cls X.K (Amb.cls cn)) (hn : NoAttr X.K (Amb.cls cn) f) (ho : DE X o (dVar i)) (hv : FE X XD value pv) : FS X XD (.AugAssign (.Attribute o f tpos) .Add value pos) [] (mAugF cn i f pv) :=
  DS_imp (ds_fldAdd hc hn ho hv) fun _ _ _ h => wS_augF h
end
end FL

namespace FL
open PySem PySem.Spec PyProof.Rows L2 DL NdefX LamX
section
variable [Amb] [Cbs] {S : SD} {XD : XT} {ε : ED} {cn f : Str} {i : Nat}
theorem OwnL.mod {fv : List Addr} : ∀ {ns : List Str} {ps : List PV} {ds : List D} {fq : List Addr} {f : Str} {p : PV}, OwnL S ps ds fq → (fq ++ fv).Nodup → (ns.zip ps).lookup f = some p →
    ∃ d fd, (ns.zip ds).lookup f = some d ∧ Own S p d fd ∧ fd.Nodup ∧ (∀ a ∈ fd, a ∈ fq) ∧ ∀ S' p' fd', Own S' p' d fd' → fd'.Nodup → (∀ a ∈ fd', a ∈ fd ∨ a ∈ fv) → (∀ a ∈ fq, a ∉ fd → S' a = S a) →
      ∃ fq', OwnL S' (putV f p' ns ps) ds fq' ∧ fq'.Nodup ∧ ∀ a ∈ fq', a ∈ fq ∨ a ∈ fv
  | [], ps, ds, fq, f, p, h, nd, e => by simp at e
  | g :: ns, [], ds, fq, f, p, h, nd, e => by simp at e
  | g :: ns, q :: ps, ds, fq, f, p, h, nd, e => by
    obtain ⟨d, r, f1, f2, rfl, rfl, h1, h2⟩ := h.cons
    rw [List.zip_cons_cons, List.lookup_cons] at e
    obtain ⟨n12, nv, dv⟩ := app_nodup nd
    obtain ⟨n1, n2, n3⟩ := app_nodup n12
    cases hb : f == g with
    | true =>
      rw [hb] at e
      cases e
      refine ⟨d, f1, by rw [List.zip_cons_cons, List.lookup_cons, hb], h1, n1, fun a ha => List.mem_append_left _ ha, fun S' p' fd' o' nd' sub k => ?_⟩
      have k2 : ∀ a ∈ f2, S' a = S a := fun a ha => k a (List.mem_append_right _ ha) fun z => n3 a z ha
      refine ⟨fd' ++ f2, ?_, nodup_app nd' n2 fun a ha hb => ?_, fun a ha => ?_⟩
      · rw [putV, if_pos (beq_iff_eq.mp hb).symm]
        exact ownL_cons o' (OwnL.frame ps h2 k2)
      · rcases sub a ha with z | z
        · exact n3 a z hb
        · exact dv a (List.mem_append_right _ hb) z
      · rcases List.mem_append.mp ha with z | z
        · exact (sub a z).imp (fun y => List.mem_append_left _ y) id
        · exact .inl (List.mem_append_right _ z)
    | false =>
      rw [hb] at e
      obtain ⟨d', fd, e1, o1, nd1, sub, k⟩ := OwnL.mod (fv := fv) (ns := ns) h2 (nodup_app n2 nv fun a ha hv => dv a (List.mem_append_right _ ha) hv) e
      refine ⟨d', fd, by rw [List.zip_cons_cons, List.lookup_cons, hb]; exact e1, o1, nd1, fun a ha => List.mem_append_right _ (sub a ha), fun S' p' fd' o' nd' sub' kk => ?_⟩
      obtain ⟨fq', h3, nd3, s3⟩ := k S' p' fd' o' nd' sub' fun a ha hn => kk a (List.mem_append_right _ ha) hn
      have k1 : ∀ a ∈ f1, S' a = S a := fun a ha => kk a (List.mem_append_left _ ha) fun z => n3 a ha (sub a z)
      refine ⟨f1 ++ fq', ?_, nodup_app n1 nd3 fun a ha hq => ?_, fun a ha => ?_⟩
      · rw [putV, if_neg fun z => by rw [beq_eq_false_iff_ne] at hb; exact hb z.symm]
        exact ownL_cons (Own.frame q h1 k1) h3
      · rcases s3 a hq with z | z
        · exact n3 a ha z
        · exact dv a (List.mem_append_left _ ha) z
      · rcases List.mem_append.mp ha with z | z
        · exact .inl (List.mem_append_left _ z)
        · exact (s3 a z).imp (fun y => List.mem_append_right _ y) id
theorem objK_inj {C : Addr} {ns ns' : List Str} {ds ds' : List D} (h : Cell.gen (objK C ns) ds = .gen (objK C ns') ds') : ns = ns' ∧ ds = ds' := by
  injection h with h1 h2
  refine ⟨?_, h2⟩
  have hp : (objK C ns).φ 0 (ns.map fun _ => V.non) (.ins C 0 (ns.zip (ns.map fun _ => V.non))) := ⟨0, rfl, by simp⟩
  rw [h1] at hp
  obtain ⟨dx, e, hl⟩ := hp
  injection e with _ _ e3
  have := congrArg (List.map Prod.fst) e3
  rw [List.map_fst_zip (by simp), List.map_fst_zip (by rw [hl]; exact Nat.le_refl _)] at this
  exact this
theorem infld_same {C : Addr} {S : SD} {b : Addr} {ns ns' : List Str} {ds ds' : List D} {d d' : D} {f : Str} (h : S b = some (.gen (objK C ns) ds)) (h' : S b = some (.gen (objK C ns') ds')) (e : (ns.zip ds).lookup f = some d) (e' : (ns'.zip ds').lookup f = some d') : d' = d := by
  rw [h] at h'
  obtain ⟨rfl, rfl⟩ := objK_inj (Option.some.inj h')
  rw [e] at e'
  exact (Option.some.inj e').symm
theorem obj_give {S1 : SD} {ε1 : PEnv} {b : Addr} {ns : List Str} {ps : List PV} {p : PV} {fq fp fv : List Addr} (ow : Own S (.obj cn ns ps) (.ref b) fq) (oe : OwnE S1 ε1 ε fp) (hn : ε1[i]? = some none) (he : ε[i]? = some (some (.ref b)))
    (nd : ((fq ++ fp) ++ fv).Nodup) (hS : ∀ a ∈ fq, S1 a = S a) (hl : (ns.zip ps).lookup f = some p) :
    ∃ d fd, InFld cn i f ε S d ∧ Own S p d fd ∧ fd.Nodup ∧ (∀ a ∈ fd, a ∈ fq) ∧ ∀ S2 p' fd', Own S2 p' d fd' → fd'.Nodup → (∀ a ∈ fd', a ∈ fd ∨ a ∈ fv) → (∀ a, a ∉ fd → S2 a = S1 a) →
      ∃ fp', OwnE S2 (ε1.set i (some (.obj cn ns (putV f p' ns ps)))) ε fp' ∧ fp'.Nodup ∧ ∀ a ∈ fp', a ∈ (fq ++ fp) ++ fv := by
  obtain ⟨b', ds, fo, e1, rfl, hb, hlen, ol⟩ := ow.obj
  cases e1
  obtain ⟨n1, nv, dv⟩ := app_nodup nd
  obtain ⟨nq, np, dqp⟩ := app_nodup n1
  obtain ⟨bo, no⟩ := List.nodup_cons.mp nq
  have nov : (fo ++ fv).Nodup := nodup_app no nv fun a ha hv => dv a (List.mem_append_left _ (List.mem_cons_of_mem _ ha)) hv
  obtain ⟨d, fd, e2, o2, same, sub, k⟩ := OwnL.mod (fv := fv) (ns := ns) ol nov hl
  refine ⟨d, fd, ⟨b, ns, ds, he, hb, e2⟩, o2, same, fun a ha => List.mem_cons_of_mem _ (sub a ha), fun S2 p' fd' o' nd' s' k' => ?_⟩
  obtain ⟨fq', ol2, nq', sq⟩ := k S2 p' fd' o' nd' s' fun a ha hn => (k' a hn).trans (hS a (List.mem_cons_of_mem _ ha))
  have bfd : b ∉ fd := fun z => bo (sub b z)
  have hb2 : S2 b = some (.gen (objK (Amb.cls cn) ns) ds) := by rw [k' b bfd, hS b List.mem_cons_self, hb]
  have own' : Own S2 (.obj cn ns (putV f p' ns ps)) (.ref b) (b :: fq') := own_obj hb2 (by rw [putV_len' hl]; exact hlen) ol2
  have bq : b ∉ fq' := fun z => (sq b z).elim bo fun y => dv b (List.mem_append_left _ List.mem_cons_self) y
  have oe2 := oe.frame (S' := S2) fun a ha => k' a fun z => dqp a (List.mem_cons_of_mem _ (sub a z)) ha
  obtain ⟨fp', ow', pm'⟩ := oe2.give hn he own'
  refine ⟨fp', ow', perm_nodup pm'.symm (nodup_app (List.nodup_cons.mpr ⟨bq, nq'⟩) np fun a ha hp => ?_), fun a ha => ?_⟩
  · rcases List.mem_cons.mp ha with rfl | ha
    · exact dqp _ List.mem_cons_self hp
    · rcases sq a ha with z | z
      · exact dqp a (List.mem_cons_of_mem _ z) hp
      · exact dv a (List.mem_append_right _ hp) z
  · rcases List.mem_append.mp (pm'.mem_iff.mp ha) with z | z
    · rcases List.mem_cons.mp z with rfl | z
      · exact List.mem_append_left _ (List.mem_append_left _ List.mem_cons_self)
      · rcases sq a z with y | y
        · exact List.mem_append_left _ (List.mem_append_left _ (List.mem_cons_of_mem _ y))
        · exact List.mem_append_right _ y
    · exact List.mem_append_left _ (List.mem_append_right _ z)
def mAppN (cn : Str) (i : Nat) (f : Str) (po : M PV) : M D := fun ε => match ε[i]? with
  | some (some (.obj c ns ps)) => if c = cn then match (ns.zip ps).lookup f with
    | some (.lsts qs) => if qs.length ≤ 1000000 then match po (ε.set i none) with
      | some (.ok v, ε') => match ε'[i]? with
        | some none => some (.ok .non, ε'.set i (some (.obj c ns (putV f (.lsts (qs ++ [v])) ns ps))))
        | _ => none
      | _ => none
      else none
    | _ => none
    else none
  | _ => none
theorem wM_appN {po : M PV} {Q : DK} (h : wM XD (mAppN cn i f po) ε S Q) :
    ∃ q xs, InFld cn i f ε S (.ref q) ∧ S q = some (.lst xs) ∧ xs.length ≤ 1000000 ∧ wO XD po ε S fun y S2 => S2 q = some (.lst xs) ∧ Q .non (put S2 q (.lst (xs ++ [y]))) := by
  obtain ⟨εp, fp, o, εp', st, e, k⟩ := h
  unfold mAppN at e
  split at e
  · rename_i c ns ps hd
    split at e
    · rename_i hc
      subst hc
      split at e
      · rename_i qs hl
        split at e
        · rename_i hlen
          split at e
          · rename_i v ε1 hp
            split at e
            · rename_i hn
              cases e
              obtain ⟨x, fq, fr, e1, ow, oe, pm⟩ := st.own.take hd
              have nd := perm_nodup pm st.nd
              obtain ⟨n1, n2, n3⟩ := app_nodup nd
              obtain ⟨b, ds, fo, rfl, rfl, hb, hle, ol⟩ := id ow.obj
              obtain ⟨d0, fd0, e2, o2, _, _, _⟩ := OwnL.mod (fv := []) (ns := ns) ol (by rw [List.append_nil]; exact (List.nodup_cons.mp n1).2) hl
              obtain ⟨q, xs, g0, rfl, rfl, hq, oq⟩ := o2.lsts
              refine ⟨q, xs, ⟨b, ns, ds, e1, hb, e2⟩, hq, by rw [oq.length]; exact hlen, εp.set i none, fr, .ok v, ε1, ⟨oe, n2⟩, hp, fun S1 fp1 fv y own1 ov nd1 nx => ?_⟩
              have hS : ∀ a ∈ b :: fo, S1 a = S a := fun a ha => by
                obtain ⟨c, hc⟩ := Own.dom _ ow a ha
                rw [nx.ext a c (fun z => n3 a ha z) hc, hc]
              have nd2 : (((b :: fo) ++ fp1) ++ fv).Nodup := by
                rw [List.append_assoc]
                refine nodup_app n1 nd1 fun a ha hz => ?_
                rcases nx.grow a hz with z | z
                · exact n3 a ha z
                · obtain ⟨c, hc⟩ := Own.dom _ ow a ha
                  rw [hc] at z
                  cases z
              obtain ⟨d, fd, hi, od, ndd, sub, kk⟩ := obj_give (f := f) ow own1 hn e1 nd2 hS hl
              obtain ⟨b', ns', ds', z1, z2, z3⟩ := id hi
              have ed : d = .ref q := by
                rw [e1] at z1
                cases z1
                exact infld_same hb z2 e2 z3
              subst ed
              obtain ⟨q', xs', g1, eq, rfl, hq', oq'⟩ := od.lsts
              cases eq
              rw [hq] at hq'
              cases hq'
              obtain ⟨qg, ng⟩ := List.nodup_cons.mp ndd
              have hq1 : S1 q = some (.lst xs) := by rw [hS q (sub q List.mem_cons_self), hq]
              refine ⟨hq1, ?_⟩
              have dis : ∀ a ∈ q :: g1, a ∈ fv → False := fun a ha hv => (app_nodup nd2).2.2 a (List.mem_append_left _ (sub a ha)) hv
              have same : ∀ a, a ≠ q → put S1 q (.lst (xs ++ [y])) a = S1 a := fun a ha => put_ne ha
              have oqs : OwnL S1 qs xs g1 := OwnL.frame _ oq' fun a ha => hS a (sub a (List.mem_cons_of_mem _ ha))
              have oq2 : OwnL (put S1 q (.lst (xs ++ [y]))) (qs ++ [v]) (xs ++ [y]) (g1 ++ fv) :=
                OwnL.frame _ (ownL_snoc ov oqs) fun a ha => same a fun z => by
                  subst z
                  rcases List.mem_append.mp ha with w | w
                  · exact qg w
                  · exact dis _ List.mem_cons_self w
              have o3 : Own (put S1 q (.lst (xs ++ [y]))) (.lsts (qs ++ [v])) (.ref q) (q :: (g1 ++ fv)) := own_lsts put_same oq2
              obtain ⟨fp', ow', nd', s'⟩ := kk _ _ (q :: (g1 ++ fv)) o3 (List.nodup_cons.mpr ⟨fun z => (List.mem_append.mp z).elim qg (dis q List.mem_cons_self), nodup_app ng (app_nodup nd1).2.1 fun a ha hv => dis a (List.mem_cons_of_mem _ ha) hv⟩) (fun a ha => by
                rcases List.mem_cons.mp ha with rfl | ha
                · exact .inl List.mem_cons_self
                · exact (List.mem_append.mp ha).imp (List.mem_cons_of_mem _) id) (fun a ha => same a fun z => ha (z ▸ List.mem_cons_self))
              refine k _ fp' ⟨ow', nd'⟩ ⟨fun a ha => ?_, fun a c ha hc => ?_⟩
              · rcases List.mem_append.mp (s' a ha) with z | z
                · rcases List.mem_append.mp z with z | z
                  · exact .inl (pm.mem_iff.mpr (List.mem_append_left _ z))
                  · rcases nx.grow a (List.mem_append_left _ z) with w | w
                    · exact .inl (pm.mem_iff.mpr (List.mem_append_right _ w))
                    · exact .inr w
                · rcases nx.grow a (List.mem_append_right _ z) with w | w
                  · exact .inl (pm.mem_iff.mpr (List.mem_append_right _ w))
                  · exact .inr w
              · rw [same a fun z => ha (pm.mem_iff.mpr (List.mem_append_left _ (z ▸ sub q List.mem_cons_self)))]
                exact nx.ext a c (fun z => ha (pm.mem_iff.mpr (List.mem_append_right _ z))) hc
            · cases e
          · cases e
        · cases e
      · cases e
    · cases e
  · cases e
end
end FL

namespace FL
open PySem PySem.Spec PyProof.Rows L2 DL NdefX LamX
section
variable [Amb] [Cbs] {S : SD} {XD : XT} {ε : ED} {cn f : Str} {i : Nat}
theorem ownL_last : ∀ {ps : List PV} {v : PV} {xs : List D} {fq : List Addr}, OwnL S (ps ++ [v]) xs fq → ∃ ys y g fv, xs = ys ++ [y] ∧ fq = g ++ fv ∧ OwnL S ps ys g ∧ Own S v y fv
  | [], v, xs, fq, h => by
    obtain ⟨d, r, f1, f2, rfl, rfl, h1, h2⟩ := h.cons
    obtain ⟨rfl, rfl⟩ := h2.nil
    exact ⟨[], d, [], f1, rfl, by simp, ownL_nil, h1⟩
  | p :: ps, v, xs, fq, h => by
    obtain ⟨d, r, f1, f2, rfl, rfl, h1, h2⟩ := OwnL.cons (show OwnL S (p :: (ps ++ [v])) xs fq from h)
    obtain ⟨ys, y, g, fv, rfl, rfl, h3, h4⟩ := ownL_last h2
    exact ⟨d :: ys, y, f1 ++ g, fv, rfl, by rw [List.append_assoc], ownL_cons h1 h3, h4⟩
def mLenF (cn : Str) (i : Nat) (f : Str) : M D := mFldG cn i f fun p => match p with
  | .lst ds => some (.int ds.length, .lst ds)
  | .lsts ps => some (.int ps.length, .lsts ps)
  | _ => none
theorem wM_lenF {Q : DK} (h : wM XD (mLenF cn i f) ε S Q) : ∃ q ds, InFld cn i f ε S (.ref q) ∧ S q = some (.lst ds) ∧ Q (.int ds.length) S := by
  obtain ⟨d, p, fd, a, p', hi, o, nd, e, k⟩ := wM_fldN h
  split at e
  · cases e
    obtain ⟨q, rfl, rfl, hq⟩ := o.lst
    exact ⟨q, _, hi, hq, k S [q] (own_lst hq) (by simp) Nx.refl⟩
  · cases e
    obtain ⟨q, xs, g, rfl, rfl, hq, ol⟩ := id o.lsts
    have e := ol.length
    refine ⟨q, xs, hi, hq, ?_⟩
    rw [e]
    exact k S _ o nd Nx.refl
  · cases e
def popT : PV → Option (D × PV)
  | .lsts qs => match qs.getLast? with
    | some (.lst ys) => some (.tup ys, .lsts qs.dropLast)
    | _ => none
  | _ => none
def mTupPop (cn : Str) (i : Nat) (f : Str) : M D := mFldG cn i f popT
theorem getLast_eq {α : Type} {xs : List α} {x : α} (h : xs.getLast? = some x) : xs = xs.dropLast ++ [x] := by
  obtain ⟨ys, rfl⟩ := List.getLast?_eq_some_iff.mp h
  simp
theorem wM_tupPop {Q : DK} (h : wM XD (mTupPop cn i f) ε S Q) : ∃ q xs r ys, InFld cn i f ε S (.ref q) ∧ S q = some (.lst (xs ++ [.ref r])) ∧ r ≠ q ∧ S r = some (.lst ys) ∧ Q (.tup ys) (put S q (.lst xs)) := by
  obtain ⟨d, p, fd, a, p', hi, o, nd, e, k⟩ := wM_fldN h
  unfold popT at e
  split at e
  · rename_i qs
    split at e
    · rename_i ys hy
      cases e
      obtain ⟨q, xs, g, rfl, rfl, hq, ol⟩ := o.lsts
      rw [getLast_eq hy] at ol
      obtain ⟨zs, y, g1, fv, rfl, rfl, o1, o2⟩ := ownL_last ol
      obtain ⟨r, rfl, rfl, hr⟩ := o2.lst
      obtain ⟨qg, ng⟩ := List.nodup_cons.mp nd
      have rq : r ≠ q := fun z => qg (by rw [← z]; simp)
      have same : ∀ a, a ≠ q → put S q (.lst zs) a = S a := fun a ha => put_ne ha
      refine ⟨q, zs, r, ys, hi, hq, rq, hr, k _ (q :: g1) (own_lsts put_same (OwnL.frame _ o1 fun a ha => same a fun z => qg (z ▸ List.mem_append_left _ ha))) (List.nodup_cons.mpr ⟨fun z => qg (List.mem_append_left _ z), (app_nodup ng).1⟩) ⟨fun a ha => ?_, fun a c ha hc => ?_⟩⟩
      · rcases List.mem_cons.mp ha with rfl | ha
        · exact .inl List.mem_cons_self
        · exact .inl (List.mem_cons_of_mem _ (List.mem_append_left _ ha))
      · rw [same a fun z => ha (z ▸ List.mem_cons_self)]
        exact hc
    · cases e
  · cases e
def lastL : PV → Option (Unit × PV)
  | .lsts qs => match qs.getLast? with
    | some (.lst ys) => if ys.length ≤ 1000000 then some ((), .lsts qs) else none
    | _ => none
  | _ => none
def lastA (x : D) : PV → Option (D × PV)
  | .lsts qs => match qs.getLast? with
    | some (.lst ys) => if ys.length ≤ 1000000 then some (.non, .lsts (qs.dropLast ++ [.lst (ys ++ [x])])) else none
    | _ => none
  | _ => none
def mAppLast (cn : Str) (i : Nat) (f : Str) (pr : M D) : M D := mBind (mFldG cn i f lastL) fun _ => mBind pr fun x => mFldG cn i f (lastA x)
theorem wM_last {Q : Unit → SD → Prop} (h : wM XD (mFldG cn i f lastL) ε S Q) : ∃ q xs r ys, InFld cn i f ε S (.ref q) ∧ S q = some (.lst (xs ++ [.ref r])) ∧ S r = some (.lst ys) ∧ ys.length ≤ 1000000 ∧ Q () S := by
  obtain ⟨d, p, fd, a, p', hi, o, nd, e, k⟩ := wM_fldN h
  unfold lastL at e
  split at e
  · rename_i qs
    split at e
    · rename_i ys hy
      split at e
      · rename_i hl
        cases e
        obtain ⟨q, xs, g, rfl, rfl, hq, ol⟩ := id o.lsts
        rw [getLast_eq hy] at ol
        obtain ⟨zs, y, g1, fv, rfl, rfl, o1, o2⟩ := ownL_last ol
        obtain ⟨r, rfl, rfl, hr⟩ := o2.lst
        exact ⟨q, zs, r, ys, hi, hq, hr, hl, k S _ o nd Nx.refl⟩
      · cases e
    · cases e
  · cases e
theorem wM_lastA {x : D} {Q : DK} (h : wM XD (mFldG cn i f (lastA x)) ε S Q) : ∃ q xs r ys, InFld cn i f ε S (.ref q) ∧ S q = some (.lst (xs ++ [.ref r])) ∧ S r = some (.lst ys) ∧ ys.length ≤ 1000000 ∧ Q .non (put S r (.lst (ys ++ [x]))) := by
  obtain ⟨d, p, fd, a, p', hi, o, nd, e, k⟩ := wM_fldN h
  unfold lastA at e
  split at e
  · rename_i qs
    split at e
    · rename_i ys hy
      split at e
      · rename_i hl
        cases e
        obtain ⟨q, xs, g, rfl, rfl, hq, ol⟩ := o.lsts
        rw [getLast_eq hy] at ol
        obtain ⟨zs, y, g1, fv, rfl, rfl, o1, o2⟩ := ownL_last ol
        obtain ⟨r, rfl, rfl, hr⟩ := o2.lst
        obtain ⟨qg, ng⟩ := List.nodup_cons.mp nd
        have rq : q ≠ r := fun z => qg (by rw [z]; simp)
        have rg : r ∉ g1 := fun z => (app_nodup ng).2.2 r z (by simp)
        have same : ∀ a, a ≠ r → put S r (.lst (ys ++ [x])) a = S a := fun a ha => put_ne ha
        refine ⟨q, zs, r, ys, hi, hq, hr, hl, k _ (q :: (g1 ++ [r])) (own_lsts (by rw [same q rq]; exact hq) (ownL_snoc (own_lst put_same) (OwnL.frame _ o1 fun a ha => same a fun z => rg (z ▸ ha)))) nd ⟨fun a ha => .inl ha, fun a c ha hc => ?_⟩⟩
        rw [same a fun z => ha (by rw [z]; simp)]
        exact hc
      · cases e
    · cases e
  · cases e
end
theorem atI_last {α : Type} (xs : List α) (x : α) : atI (xs ++ [x]) (-1) = some x := by
  unfold atI
  rw [List.length_append, List.length_singleton]
  have : ixN (xs.length + 1) (-1) = some xs.length := by
    unfold ixN
    simp
    omega
  rw [this]
  simp
structure FRd [Amb] [Cbs] (X : Cx) (XD : XT) (e : Expr) (p : M D) : Prop where
  ex : ∃ tr : DTE, DE X e tr ∧ ∀ ε S Q, wM XD p ε S (fun x S1 => S1 = S → Q x S1) → tr ε S Q
section
variable [Amb] [Cbs] {X : Cx} {XD : XT} {o e : Expr} {es : List Expr} {pr pb : M D} {po : M PV} {cn f : Str} {i : Nat} {pos apos fpos cpos p : Pos}
theorem fr_fld (hc : Cls X.K (Amb.cls cn)) (hn : NoAttr X.K (Amb.cls cn) f) (he : DE X e (dVar i)) (hb : attributeBase e f X.env (eval e X.env) = eval e X.env := by rfl) : FRd X XD (.Attribute e f pos) (mFld cn i f) := ⟨⟨_, de_fld hc hn he hb, fun ε S Q h => by
    obtain ⟨d, ⟨b, ns, ds, e1, e2, e3⟩, q⟩ := wM_fld h
    exact ⟨.ref b, e1, b, ns, ds, d, rfl, e2, e3, q rfl⟩⟩⟩
theorem infld_d {ε : ED} {S : SD} {d : D} {Q : DK} (h : InFld cn i f ε S d) (q : Q d S) : dFld (Amb.cls cn) (dVar i) f ε S Q := by
  obtain ⟨b, ns, ds, e1, e2, e3⟩ := h
  exact ⟨.ref b, e1, b, ns, ds, d, rfl, e2, e3, q⟩
theorem infld_one {ε : ED} {S : SD} {d d' : D} (h : InFld cn i f ε S d) (h' : InFld cn i f ε S d') : d' = d := by
  obtain ⟨b, ns, ds, e1, e2, e3⟩ := h
  obtain ⟨b', ns', ds', e1', e2', e3'⟩ := h'
  rw [e1] at e1'
  cases e1'
  exact infld_same e2 e2' e3 e3'
theorem fe_lenF (hg : Gl X "len") (hm : X.mg "len" = none) (hc : Cls X.K (Amb.cls cn)) (hn : NoAttr X.K (Amb.cls cn) f) (ho : DE X o (dVar i)) (hb : attributeBase o f X.env (eval o X.env) = eval o X.env := by rfl)
    (he : starEach [.Attribute o f fpos] X.env = (false, eval (.Attribute o f fpos) X.env) :: starEach [] X.env := by rfl) (hpl : (backTo pos (starEach [] X.env)).any (·.1) = false := by rfl) :
    FE X XD (.Call (.Name "len" p) [.Attribute o f fpos] [] pos) (mLenF cn i f) :=
  DE_imp (de_callB dc_len hg hm PySem.boot_len (da_cons (de_fld hc hn ho hb) da_nil he) (he := he) (hpl := hpl)) fun ε S Q h => by
    obtain ⟨q, ds, hi, hq, h⟩ := wM_lenF h
    refine infld_d hi ?_
    exact ⟨.ref q, rfl, .inl ⟨ds, .inr (.inr ⟨q, rfl, hq⟩), h⟩⟩
theorem fe_appN (hc : Cls X.K (Amb.cls cn)) (hn : NoAttr X.K (Amb.cls cn) f) (ho : DE X o (dVar i)) (ha : FO X XD e po) (hb : attributeBase o f X.env (eval o X.env) = eval o X.env := by rfl)
    (hbase : attributeBase (.Attribute o f fpos) "append" X.env (eval (.Attribute o f fpos) X.env) = eval (.Attribute o f fpos) X.env := by rfl)
    (hfew : ((backTo cpos (starEach [e] X.env)).all (fun x => !x.1) && (backToKw cpos (keywordEach [] X.env)).all (fun x => x.1.isSome)
      && decide (([e] : List Expr).length + ([] : List Keyword).length + (if ([] : List Keyword).isEmpty then 0 else 1) < 30)) = true := by rfl)
    (hline : (apos.endLine == cpos.line) = true := by rfl) (hs : starEach [e] X.env = (false, eval e X.env) :: starEach [] X.env := by rfl) (hplain : (backTo cpos (starEach [] X.env)).any (·.1) = false := by rfl) :
    FE X XD (.Call (.Attribute (.Attribute o f fpos) "append" apos) [e] [] cpos) (mAppN cn i f po) :=
  DE_imp (de_lm PySem.F.slot_list_append PySem.F.type_list_append dm_append (de_fld hc hn ho hb) (da_cons ha da_nil hs) hbase hfew hline hs hplain) fun ε S Q h => by
    obtain ⟨q, xs, hi, hq, hl, h⟩ := wM_appN h
    refine infld_d hi ?_
    exact ⟨⟨q, xs, rfl, hq⟩, wO_imp h fun y S2 ⟨h1, h2⟩ => ⟨q, xs, y, rfl, rfl, h1, hl, h2⟩⟩
theorem fe_tupPop (hg : Gl X "tuple") (hm : X.mg "tuple" = none) (hc : Cls X.K (Amb.cls cn)) (hn : NoAttr X.K (Amb.cls cn) f) (ho : DE X o (dVar i)) (hb : attributeBase o f X.env (eval o X.env) = eval o X.env := by rfl)
    (hbase : attributeBase (.Attribute o f fpos) "pop" X.env (eval (.Attribute o f fpos) X.env) = eval (.Attribute o f fpos) X.env := by rfl) (hline : (apos.endLine == cpos.line) = true := by rfl)
    (he : starEach [.Call (.Attribute (.Attribute o f fpos) "pop" apos) [] [] cpos] X.env = (false, eval (.Call (.Attribute (.Attribute o f fpos) "pop" apos) [] [] cpos) X.env) :: starEach [] X.env := by rfl) (hpl : (backTo pos (starEach [] X.env)).any (·.1) = false := by rfl) :
    FE X XD (.Call (.Name "tuple" p) [.Call (.Attribute (.Attribute o f fpos) "pop" apos) [] [] cpos] [] pos) (mTupPop cn i f) :=
  DE_imp (de_tupV hg hm (de_lm0 PySem.F.slot_list_pop PySem.F.type_list_pop dm_pop (de_fld hc hn ho hb) hbase hline) he hpl) fun ε S Q h => by
    obtain ⟨q, xs, r, ys, hi, hq, rq, hr, h⟩ := wM_tupPop h
    unfold dTupV dLM0
    refine infld_d hi ?_
    exact ⟨⟨q, _, rfl, hq⟩, q, xs, .ref r, rfl, rfl, hq, .inr (.inr ⟨r, ys, rfl, by rw [put_ne rq]; exact hr, h⟩)⟩
theorem fe_appLast (hu : X.A.units + 1 < cLine) {k : Nat} {p1 p2 spos : Pos} (hc : Cls X.K (Amb.cls cn)) (hn : NoAttr X.K (Amb.cls cn) f) (ho : DE X o (dVar i)) (ha : FRd X XD e pr) (hb : attributeBase o f X.env (eval o X.env) = eval o X.env := by rfl)
    (hix : PlainIx (.UnaryOp .USub (.Constant (.int 1) k p1) p2) := by intro _ _; rfl)
    (hbase : attributeBase (.Subscript (.Attribute o f fpos) (.UnaryOp .USub (.Constant (.int 1) k p1) p2) spos) "append" X.env (eval (.Subscript (.Attribute o f fpos) (.UnaryOp .USub (.Constant (.int 1) k p1) p2) spos) X.env) = eval (.Subscript (.Attribute o f fpos) (.UnaryOp .USub (.Constant (.int 1) k p1) p2) spos) X.env := by rfl)
    (hfew : ((backTo cpos (starEach [e] X.env)).all (fun x => !x.1) && (backToKw cpos (keywordEach [] X.env)).all (fun x => x.1.isSome)
      && decide (([e] : List Expr).length + ([] : List Keyword).length + (if ([] : List Keyword).isEmpty then 0 else 1) < 30)) = true := by rfl)
    (hline : (apos.endLine == cpos.line) = true := by rfl) (hs : starEach [e] X.env = (false, eval e X.env) :: starEach [] X.env := by rfl) (hplain : (backTo cpos (starEach [] X.env)).any (·.1) = false := by rfl) :
    FE X XD (.Call (.Attribute (.Subscript (.Attribute o f fpos) (.UnaryOp .USub (.Constant (.int 1) k p1) p2) spos) "append" apos) [e] [] cpos) (mAppLast cn i f pr) := by
  obtain ⟨tr, htr, rd⟩ := ha.ex
  refine DE_imp (de_lm PySem.F.slot_list_append PySem.F.type_list_append dm_append (de_ixE hu (de_fld hc hn ho hb) (de_neg de_int) hix) (da_cons htr da_nil hs) hbase hfew hline hs hplain) fun ε S Q h => ?_
  obtain ⟨q, xs, r, ys, hi, hq, hr, hl, h⟩ := wM_last (wM_bind h)
  have at1 : atI (xs ++ [D.ref r]) (-1) = some (.ref r) := atI_last xs (.ref r)
  unfold dLM dIxE dOp
  refine infld_d hi ?_
  refine ⟨1, rfl, ⟨_, hq, .ref r, at1, ⟨r, ys, rfl, hr⟩, rd ε S _ (wM_imp (wM_bind h) fun x S1 h2 e1 => ?_)⟩⟩
  rw [e1] at h2 ⊢
  obtain ⟨q', xs', r', ys', hi', hq', hr', hl', h3⟩ := wM_lastA h2
  have eq := infld_one hi hi'
  cases eq
  rw [hq] at hq'
  have e2 := List.append_inj' (Cell.lst.inj (Option.some.inj hq')) rfl
  have e3 : D.ref r = D.ref r' := by simpa using e2.2
  cases e3
  rw [hr] at hr'
  cases hr'
  exact ⟨r, ys, x, rfl, rfl, hr, hl, h3⟩
theorem fo_newLs : FO X XD (.List [] pos) (mPure (.lsts [])) :=
  DE_imp (de_new (df_lst da_nil)) fun ε S Q h => by
    obtain ⟨εp, fp, st, k⟩ := wO_pure h
    refine ⟨by simp, fun q hq => ?_⟩
    obtain ⟨f1, f2⟩ := fresh_frame (c := .lst []) hq (OwnE.dom st.own)
    exact k _ fp [q] (.ref q) (st.own.frame f1) (own_lsts put_same ownL_nil) (nodup_app st.nd (by simp) fun a ha hb => f2 ((List.mem_singleton.mp hb) ▸ ha)) (nx_new hq)
end
end FL

namespace FL
open PySem PySem.Spec PyProof.Rows L2 DL NdefX LamX
section
variable [Amb] [Cbs] {X : Cx} {XD : XT} {S : SD} {ε : ED} {i : Nat}
def mLenD (i : Nat) : M D := fun ε => match ε[i]? with
  | some (some (.dic ks _)) => some (.ok (.int ks.length), ε)
  | _ => none
@[simp] theorem mLenD_run (i : Nat) (ε : PEnv) : mLenD i ε = (match ε[i]? with
  | some (some (.dic ks _)) => some (.ok (.int ks.length), ε)
  | _ => none) := rfl
end
end FL

namespace FL
open PySem PySem.Spec PyProof.Rows L2 DL NdefX LamX
section
variable [Amb] [Cbs] {X : Cx} {XD : XT} {e st : Expr} {p3 pos : Pos} {i : Nat} {ps : M D}
def stepD (y : D) : Option Int := match y with
  | .int i => if i = 1 ∨ i = -1 then some i else none
  | _ => none
def mStepL (i : Nat) (ps : M D) : M (List D) := mBind (mGetL i) fun _ => mBind ps fun y => mBind (mLift (stepD y)) fun k => mBind (mGetL i) fun ds => mPure (stepped k ds)
@[simp] theorem mStepL_run (i : Nat) (ps : M D) (ε : PEnv) : mStepL i ps ε = (mBind (mGetL i) fun _ => mBind ps fun y => mBind (mLift (stepD y)) fun k => mBind (mGetL i) fun ds => mPure (stepped k ds)) ε := rfl
@[simp] theorem stepD_1 : stepD (.int 1) = some 1 := rfl
@[simp] theorem stepD_m1 : stepD (.int (-1)) = some (-1) := rfl
@[simp] theorem stepped_1 {α : Type} (xs : List α) : stepped 1 xs = xs := rfl
@[simp] theorem stepped_m1 {α : Type} (xs : List α) : stepped (-1) xs = xs.reverse := rfl
end
end FL

namespace FL
open PySem PySem.Spec PyProof.Rows L2 DL NdefX LamX
structure FV [Amb] [Cbs] (X : Cx) (XD : XT) (e : Expr) (p : M D) : Prop where
  ex : ∃ tr : DTE, DE X e tr ∧ ∀ ε S (R : DK), wM XD p ε S R → ∃ x, R x S ∧ ∀ S4 (Q : DK), Q x S4 → tr ε S4 Q
structure FVA [Amb] [Cbs] (X : Cx) (XD : XT) (es : List Expr) (p : M (List D)) : Prop where
  ex : ∃ tr : DTA, DA X es tr ∧ ∀ ε S (R : List D → SD → Prop), wM XD p ε S R → ∃ x, R x S ∧ ∀ S4 (Q : List D → SD → Prop), Q x S4 → tr ε S4 Q
structure FVP [Amb] [Cbs] (X : Cx) (XD : XT) (e : Option Expr) (p : M (Option Int)) : Prop where
  ex : ∃ tr : DTO, DPO X e tr ∧ ∀ ε S (R : Option Int → SD → Prop), wM XD p ε S R → ∃ x, R x S ∧ ∀ S4 (Q : Option Int → SD → Prop), Q x S4 → tr ε S4 Q
section
variable [Amb] [Cbs] {X : Cx} {XD : XT} {a b e : Expr} {es : List Expr} {lo hi : Option Expr} {pa pb : M D} {pas : M (List D)} {pl ph : M (Option Int)} {pos p2 : Pos}
theorem FV.rd (h : FV X XD e pa) : FRd X XD e pa := by
  obtain ⟨tr, h1, k1⟩ := h.ex
  refine ⟨⟨tr, h1, fun ε S Q w => ?_⟩⟩
  obtain ⟨x, q, q2⟩ := k1 ε S _ w
  exact q2 S Q (q rfl)
end
abbrev Wd [Amb] (w : World) : Prop := ∀ v, Amb.wd v ↔ v = w
def rdDn {α : Type} (g : List D → List D → Option α) : PV → Option (α × PV)
  | .dn ks ds => (g ks ds).map fun r => (r, .dn ks ds)
  | _ => none
section
variable [Amb] [Cbs] {S : SD} {XD : XT} {ε : ED} {α : Type} {cn f : Str} {i : Nat}
def inNf (neg : Bool) (y : D) (ks ds : List D) : Option D := if keyOk y = true then some (.bl (if neg then !(dnAt ks ds y).isSome else (dnAt ks ds y).isSome)) else none
def unitN (_ _ : List D) : Option Unit := some ()
def ixNf (y : D) (ks ds : List D) : Option D := if keyOk y = true then dnAt ks ds y else none
def getNf (y : D) (ks ds : List D) : Option D := if keyOk y = true then some ((dnAt ks ds y).getD (.ilst [])) else none
end
section
variable [Amb] [Cbs] {X : Cx} {XD : XT} {o a b e : Expr} {pa pb : M D} {pr : M D} {cn f : Str} {i : Nat} {pos apos fpos cpos : Pos}
end
section
variable [Amb] [Cbs] {X : Cx} {XD : XT} {a : Expr} {i : Nat} {pos : Pos}
end
section
variable [Amb] [Cbs] {X : Cx} {XD : XT} {tg l : Expr} {pa : M D} {ms : List Nat} {p pos : Pos}
end
end FL

namespace FL
open PySem PySem.Spec PyProof.Rows L2 DL NdefX LamX
section
variable [Amb] [Cbs] {S : SD} {XD : XT} {ε : ED} {cn f : Str} {i j : Nat}
end
section
variable [Amb] [Cbs] {X : Cx} {XD : XT} {o k e : Expr} {pk pv : M D} {cn f : Str} {i j : Nat} {pos apos fpos cpos spos : Pos}
end
def lookN {α : Type} : List D → List α → D → Option α
  | k :: ks, v :: vs, x => if nkD k = nkD x then some v else lookN ks vs x
  | _, _, _ => none
def repN {α : Type} : List D → List α → D → α → List α
  | k :: ks, v :: vs, x, y => if nkD k = nkD x then y :: vs else v :: repN ks vs x y
  | _, vs, _, _ => vs
def sdefA (y x : D) : PV → Option (D × PV)
  | .dnp ks ps => if keyOk y = true ∧ ks.length < 1000000 then match lookN ks ps y with
    | some (.lst xs) => if xs.length ≤ 1000000 then some (.non, .dnp ks (repN ks ps y (.lst (xs ++ [x])))) else none
    | none => some (.non, .dnp (ks ++ [y]) (ps ++ [.lst [x]]))
    | _ => none
    else none
  | _ => none
def isDnp : PV → Option (Unit × PV)
  | .dnp ks ps => some ((), .dnp ks ps)
  | _ => none
section
variable [Amb] [Cbs] {S : SD} {XD : XT} {ε : ED} {cn f : Str} {i j : Nat}
theorem OwnL.lookN : ∀ {ks : List D} {ps : List PV} {ds : List D} {fq : List Addr} {x : D} {p : PV}, OwnL S ps ds fq → fq.Nodup → FL.lookN ks ps x = some p →
    ∃ d fd, dnAt ks ds x = some d ∧ Own S p d fd ∧ fd.Nodup ∧ (∀ a ∈ fd, a ∈ fq) ∧ ∀ S' p' fd', Own S' p' d fd' → fd'.Nodup → Nx S fd S' fd' → ∃ fq', OwnL S' (repN ks ps x p') ds fq' ∧ fq'.Nodup ∧ Nx S fq S' fq'
  | [], ps, ds, fq, x, p, h, nd, e => by unfold FL.lookN at e; cases e
  | k :: ks, [], ds, fq, x, p, h, nd, e => by unfold FL.lookN at e; cases e
  | k :: ks, q :: ps, ds, fq, x, p, h, nd, e => by
    obtain ⟨d, r, f1, f2, rfl, rfl, h1, h2⟩ := h.cons
    rw [FL.lookN] at e
    obtain ⟨n1, n2, n3⟩ := app_nodup nd
    by_cases hb : nkD k = nkD x
    · rw [if_pos hb] at e
      cases e
      refine ⟨d, f1, by rw [dnAt, if_pos hb], h1, n1, fun a ha => List.mem_append_left _ ha, fun S' p' fd' o' nd' x => ?_⟩
      obtain ⟨k1, k2, k3⟩ := Nx.rest nd x (OwnL.dom ps h2) nd'
      refine ⟨fd' ++ f2, ?_, k2, k3⟩
      rw [repN, if_pos hb]
      exact ownL_cons o' (OwnL.frame ps h2 k1)
    · rw [if_neg hb] at e
      obtain ⟨d', fd, e1, o1, nd1, sub, kk⟩ := OwnL.lookN (ks := ks) h2 n2 e
      refine ⟨d', fd, by rw [dnAt, if_neg hb]; exact e1, o1, nd1, fun a ha => List.mem_append_right _ (sub a ha), fun S' p' fd' o' nd' x => ?_⟩
      obtain ⟨fq', h3, nd3, x3⟩ := kk S' p' fd' o' nd' x
      obtain ⟨k1, k2, k3⟩ := Nx.restL nd x3 (Own.dom q h1) nd3
      refine ⟨f1 ++ fq', ?_, k2, k3⟩
      rw [repN, if_neg hb]
      exact ownL_cons (Own.frame q h1 k1) h3
end
section
variable [Amb] [Cbs] {X : Cx} {XD : XT} {o k e : Expr} {pk pv : M D} {cn f : Str} {i j : Nat} {pos apos fpos cpos spos lp p1 p2 : Pos}
end
def lstsP : List PV → Option (List (List D))
  | [] => some []
  | .lst xs :: ps => (lstsP ps).map (xs :: ·)
  | _ :: _ => none
def frzDnp : PV → Option (Unit × PV)
  | .dnp ks ps => (lstsP ps).map fun xss => ((), .dn ks (xss.map D.ilst))
  | _ => none
section
variable [Amb] [Cbs] {S : SD} {XD : XT} {ε : ED} {cn f : Str} {i j : Nat}
end
end FL

namespace FL
open PySem PySem.Spec PyProof.Rows L2 DL NdefX LamX
end FL

namespace FL
open PySem PySem.Spec PyProof.Rows L2 DL NdefX LamX
def fReprL : List D → Option D
  | [.ilst ds] => if plainL ds = true ∧ (PyData.list (pys ds)).showable = true ∧ (PyData.list (pys ds)).hasDict = false ∧ (PyData.list (pys ds)).depth ≤ 62 ∧ (PyData.list (pys ds)).shown.length ≤ sizeLine then some (.str (PyData.list (pys ds)).shown) else none
  | _ => none
theorem fc_reprL [Amb] [Cbs] {X : Cx} (hu : X.A.units + 64 < cLine) (hg : X.A.guards = some []) : FCall X (.builtin "repr") fReprL := FCall_of (dc_repr hu hg) fun ds S Q d h q => by
  unfold fReprL at h
  split at h
  · rename_i ds
    split at h
    · rename_i hc
      cases h
      exact ⟨_, _, rfl, .inl ⟨hc.1, rfl⟩, ⟨_, .inr rfl⟩, hc.2, q⟩
    · cases h
  · cases h
theorem reprL_tame {ds : List D} (h : tameL ds = true) (hw : wtL ds ≤ 1000000) (hd : dpL ds ≤ 60) : fReprL [.ilst ds] = some (.str (PyData.list (pys ds)).shown) := by
  obtain ⟨h1, h2, h3, h4, h5, h6⟩ := tame_plainL ds h
  have hs : (PyData.list (pys ds)).shown.length ≤ sizeLine := by
    refine PyData.shown_fits (B := 8) (by decide) (by decide) ?_ ?_
    · simpa only [PyData.leavesShort] using h4
    · simp only [PyData.weight, h5]
      have : (2 : Nat) ^ 20 = 1048576 := by decide
      omega
  show (if _ then _ else none) = _
  rw [if_pos]
  refine ⟨h1, by simpa only [PyData.showable] using h2, by simpa only [PyData.hasDict] using h3, ?_, hs⟩
  simp only [PyData.depth, h6]
  omega
end FL

namespace FL
open PySem PySem.Spec PyProof.Rows L2 DL NdefX LamX
def fCountS (x y : D) : Option D := match x, y with
  | .str a, .str b => some (.int (PySem.Txt.count a b))
  | _, _ => none
def mCountS (pa pb : M D) : M D := mBind pa fun x => mBind (mLift (match x with | .str a => some a | _ => none)) fun _ => mBind pb fun y => mLift (fCountS x y)
@[simp] theorem mCountS_run (pa pb : M D) (ε : PEnv) : mCountS pa pb ε = (mBind pa fun x => mBind (mLift (match x with | .str a => some a | _ => none)) fun _ => mBind pb fun y => mLift (fCountS x y)) ε := rfl
@[simp] theorem fCountS_str (a b : Str) : fCountS (.str a) (.str b) = some (.int (PySem.Txt.count a b)) := rfl
section
variable [Amb] [Cbs] {X : Cx} {XD : XT} {a e : Expr} {pa pb : M D} {apos cpos : Pos}
end
end FL

namespace FL
open PySem PySem.Spec PyProof.Rows L2 DL NdefX LamX
variable [Amb] [Cbs]
def mLcOL (c : PEnv → Bool) (g : GM) (te : M PV) (vs : List Nat) : List D → List PV → PEnv → Option (List PV × PEnv)
  | [], acc => fun ε => if c ε = true then some (acc, ε) else none
  | x :: xs, acc => fun ε => if c ε = true then match g x (wipeP ε vs) with
    | none => none
    | some ε1 => match te ε1 with
      | some (.ok y, ε3) => mLcOL c g te vs xs (acc ++ [y]) (restore ε ε3 vs)
      | _ => none
    else none
def mLcO (p : M (List D)) (c : List D → PEnv → Bool) (g : GM) (te : M PV) (vs : List Nat) : M PV := fun ε => match p ε with
  | none => none
  | some (.ok ds, ε1) => if ds.length ≤ 1000000 then match mLcOL (c ds) g te vs ds [] ε1 with
    | some (ps, ε2) => some (.ok (.lsts ps), ε2)
    | none => none
    else none
  | some (.ex e, ε1) => some (.ex e, ε1)
@[simp] theorem mLcO_run (p : M (List D)) (c : List D → PEnv → Bool) (g : GM) (te : M PV) (vs : List Nat) (ε : PEnv) : mLcO p c g te vs ε = (fun ε => match p ε with
  | none => none
  | some (.ok ds, ε1) => if ds.length ≤ 1000000 then match mLcOL (c ds) g te vs ds [] ε1 with
    | some (ps, ε2) => some (.ok (.lsts ps), ε2)
    | none => none
    else none
  | some (.ex e, ε1) => some (.ex e, ε1)) ε := rfl
section
variable {XD : XT}
end
section
variable {X : Cx} {XD : XT} {elt tg iter : Expr} {scope : Scope} {own : List (Str × Nat)} {pos : Pos} {p : M (List D)} {c : List D → PEnv → Bool} {g : GM} {te : M PV} {ws : List Nat}
end
end FL

namespace FL
open PySem PySem.Spec PyProof.Rows L2 DL NdefX LamX
variable [Amb] [Cbs]
section
variable {XD : XT} {Dn : DEnds} {ms : List Nat}
end
section
variable {X : Cx} {XD : XT} {ms : List Nat}
end
end FL

namespace FL
open PySem PySem.Spec PyProof.Rows L2 DL NdefX LamX
def insIL (i y : D) (ds : List D) : Option (D × List D) := match i with
  | .int k => if 0 ≤ k ∧ k ≤ ds.length ∧ ds.length + 1 ≤ 1000000 then some (.non, insI k.toNat y ds) else none
  | _ => none
def mInsI (i : Nat) (pi pa : M D) : M D := mBind (mGetL i) fun _ => mBind pi fun k => mBind pa fun x => mModL i (insIL k x)
@[simp] theorem mInsI_run (i : Nat) (pi pa : M D) (ε : PEnv) : mInsI i pi pa ε = (mBind (mGetL i) fun _ => mBind pi fun k => mBind pa fun x => mModL i (insIL k x)) ε := rfl
@[simp] theorem insIL_int (k : Int) (y : D) (ds : List D) : insIL (.int k) y ds = if 0 ≤ k ∧ k ≤ ds.length ∧ ds.length + 1 ≤ 1000000 then some (.non, insI k.toNat y ds) else none := rfl
section
variable [Amb] [Cbs] {X : Cx} {XD : XT} {o z e : Expr} {pi pa : M D} {apos cpos : Pos} {i : Nat}
end
end FL

namespace FL
open PySem PySem.Spec PyProof.Rows L2 DL NdefX LamX
def allV : List PV → Bool
  | [] => true
  | .val _ :: ps => allV ps
  | _ :: _ => false
def mCopyD (i : Nat) : M PV := fun ε => match ε[i]? with
  | some (some (.dic ks ps)) => if allV ps = true then some (.ok (.dic ks ps), ε) else none
  | _ => none
@[simp] theorem mCopyD_run (i : Nat) (ε : PEnv) : mCopyD i ε = (fun ε => match ε[i]? with
  | some (some (.dic ks ps)) => if allV ps = true then some (.ok (.dic ks ps), ε) else none
  | _ => none) ε := rfl
section
variable [Amb] [Cbs] {X : Cx} {XD : XT} {a : Expr} {p apos : Pos} {i : Nat}
end
end FL

namespace FL
open PySem PySem.Spec PyProof.Rows L2 DL NdefX LamX
variable [Amb] [Cbs]
def two : D → Option (D × D)
  | .tup [a, b] => some (a, b)
  | _ => none
@[simp] theorem two_tup (a b : D) : two (.tup [a, b]) = some (a, b) := rfl
def mSetKT (i : Nat) (pe pi : M D) (j : Nat) : M Res := mBind pe fun v => mBind (mLift (two v)) fun ab => mBind (mIsD i) fun _ => mBind pi fun y => mBind (mLift (keyS y)) fun k => mBind (mPutK i k ab.1) fun _ => mSet j (mPure ab.2)
@[simp] theorem mSetKT_run (i : Nat) (pe pi : M D) (j : Nat) (ε : PEnv) : mSetKT i pe pi j ε = (mBind pe fun v => mBind (mLift (two v)) fun ab => mBind (mIsD i) fun _ => mBind pi fun y => mBind (mLift (keyS y)) fun k => mBind (mPutK i k ab.1) fun _ => mSet j (mPure ab.2)) ε := rfl
section
variable {X : Cx} {XD : XT} {e o i' : Expr} {pa pb : M D} {pos pos' px tpos : Pos} {i j k : Nat} {x : Str}
end
end FL

namespace FL
open PySem PySem.Spec PyProof.Rows L2 DL NdefX LamX
def putK {α : Type} (k : Key) (y : α) : List Key → List α → List α
  | [], ps => ps
  | _ :: _, [] => []
  | g :: ks, p :: ps => if g = k then y :: ps else p :: putK k y ks ps
section
variable [Amb] [Cbs] {S : SD}
variable {XD : XT} {ε : ED} {α : Type} {i : Nat} {f : Key}
def mRecG (i : Nat) (f : Key) (k : PV → Option (α × PV)) : M α := fun ε => match ε[i]? with
  | some (some (.dic ks ps)) => match dLook ks ps f with
    | some p => match k p with
      | some (a, p') => some (.ok a, ε.set i (some (.dic ks (putK f p' ks ps))))
      | none => none
    | none => none
  | _ => none
@[simp] theorem mRecG_run (i : Nat) (f : Key) (k : PV → Option (α × PV)) (ε : PEnv) : mRecG i f k ε = (fun ε => match ε[i]? with
  | some (some (.dic ks ps)) => match dLook ks ps f with
    | some p => match k p with
      | some (a, p') => some (.ok a, ε.set i (some (.dic ks (putK f p' ks ps))))
      | none => none
    | none => none
  | _ => none) ε := rfl
end
end FL

namespace FL
open PySem PySem.Spec PyProof.Rows L2 DL NdefX LamX
def rdK {α : Type} (g : List Key → List PV → Option α) : PV → Option (α × PV)
  | .dic ks ps => (g ks ps).map fun r => (r, .dic ks ps)
  | _ => none
def unitK (_ : List Key) (_ : List PV) : Option Unit := some ()
def inKk (neg : Bool) (y : D) (ks : List Key) (ps : List PV) : Option D := (keyOf y).map fun k => .bl (if neg then !(dLook ks ps k).isSome else (dLook ks ps k).isSome)
def ixKk (y : D) (ks : List Key) (ps : List PV) : Option D := match keyS y with
  | some k => optV (dLook ks ps k)
  | none => none
def setKk (y v : D) : PV → Option (Unit × PV)
  | .dic ks ps => match keyS y with
    | some k => if ks.length ≤ 1000000 ∧ allV ps = true then some ((), .dic (dPut ks ps k v).1 (dPut ks ps k v).2) else none
    | none => none
  | _ => none
def mInR (i : Nat) (f : Str) (neg : Bool) (pa : M D) : M D := mBind pa fun y => mRecG i (.inr f) (rdK (inKk neg y))
def mIxR (i : Nat) (f : Str) (pa : M D) : M D := mBind (mRecG i (.inr f) (rdK unitK)) fun _ => mBind pa fun y => mRecG i (.inr f) (rdK (ixKk y))
def mSetR (i : Nat) (f : Str) (pk pv : M D) : M Res := mBind pv fun v => mBind (mRecG i (.inr f) (rdK unitK)) fun _ => mBind pk fun y => mBind (mRecG i (.inr f) (setKk y v)) fun _ => mPure .nx
@[simp] theorem mInR_run (i : Nat) (f : Str) (neg : Bool) (pa : M D) (ε : PEnv) : mInR i f neg pa ε = (mBind pa fun y => mRecG i (.inr f) (rdK (inKk neg y))) ε := rfl
@[simp] theorem mIxR_run (i : Nat) (f : Str) (pa : M D) (ε : PEnv) : mIxR i f pa ε = (mBind (mRecG i (.inr f) (rdK unitK)) fun _ => mBind pa fun y => mRecG i (.inr f) (rdK (ixKk y))) ε := rfl
@[simp] theorem mSetR_run (i : Nat) (f : Str) (pk pv : M D) (ε : PEnv) : mSetR i f pk pv ε = (mBind pv fun v => mBind (mRecG i (.inr f) (rdK unitK)) fun _ => mBind pk fun y => mBind (mRecG i (.inr f) (setKk y v)) fun _ => mPure .nx) ε := rfl
section
variable [Amb] [Cbs] {S : SD} {XD : XT} {ε : ED} {α : Type} {i : Nat} {f : Key}
end
section
variable [Amb] [Cbs] {X : Cx} {XD : XT} {o a b c e k : Expr} {pa pb pk pv : M D} {f : Str} {i : Nat} {pos fpos spos : Pos}
end
end FL

namespace FL
open PySem PySem.Spec PyProof.Rows L2 DL NdefX LamX
section
variable [Amb] [Cbs] {S : SD} {XD : XT} {ε : ED} {α : Type} {f : Str} {i : Nat}
def mInNR (i : Nat) (f : Str) (neg : Bool) (pa : M D) : M D := mBind pa fun y => mRecG i (.inr f) (rdDn (inNf neg y))
def mIxNR (i : Nat) (f : Str) (pa : M D) : M D := mBind (mRecG i (.inr f) (rdDn unitN)) fun _ => mBind pa fun y => mRecG i (.inr f) (rdDn (ixNf y))
def mGetNR (i : Nat) (f : Str) (pa : M D) : M D := mBind (mRecG i (.inr f) (rdDn unitN)) fun _ => mBind pa fun y => mRecG i (.inr f) (rdDn (getNf y))
end
section
variable [Amb] [Cbs] {X : Cx} {XD : XT} {o c a b e : Expr} {pa pb : M D} {pr : M D} {f : Str} {i : Nat} {pos apos fpos cpos : Pos}
end
def mSdefR (i : Nat) (f : Str) (pk pv : M D) : M D := mBind (mRecG i (.inr f) isDnp) fun _ => mBind pk fun y => mBind pv fun x => mRecG i (.inr f) (sdefA y x)
section
variable [Amb] [Cbs] {S : SD} {XD : XT} {ε : ED} {f : Str} {i j : Nat}
end
section
variable [Amb] [Cbs] {X : Cx} {XD : XT} {o c k e : Expr} {pk pv : M D} {f : Str} {i j : Nat} {pos apos fpos cpos spos lp p1 p2 : Pos}
end
def mFrzK (i : Nat) (f : Str) (p : M Res) : M Res := mBind p fun r => match r with
  | .nx => mBind (mRecG i (.inr f) frzDnp) fun _ => mPure .nx
  | r => mPure r
section
variable [Amb] [Cbs] {S : SD} {XD : XT} {ε : ED} {f : Str} {i j : Nat}
end
end FL

namespace FL
open PySem PySem.Spec PyProof.Rows L2 DL NdefX LamX
def lockP (j : Nat) : M Res := fun ε => match ε[j]? with
  | some (some (.lst xs)) => some (.ok .nx, ε.set j (some (.val (.ilst xs))))
  | _ => none
def mLockV (j : Nat) (p : M Res) : M Res := mBind p fun r => match r with
  | .nx => lockP j
  | r => mPure r
section
variable [Amb] [Cbs] {S : SD} {XD : XT} {ε : ED} {j : Nat}
end
end FL

namespace FL
open PySem PySem.Spec PyProof.Rows L2 DL NdefX LamX
def mAppDL (i j : Nat) (pa : M D) : M D := mBind (mVar j) fun y => mBind (mLift (keyOf y)) fun k => mBind (mGetKL i k) fun _ => mBind (mHide i pa) fun x => mModKL i k (appL x)
@[simp] theorem mAppDL_run (i j : Nat) (pa : M D) (ε : PEnv) : mAppDL i j pa ε = (mBind (mVar j) fun y => mBind (mLift (keyOf y)) fun k => mBind (mGetKL i k) fun _ => mBind (mHide i pa) fun x => mModKL i k (appL x)) ε := rfl
section
variable [Amb] [Cbs] {X : Cx} {XD : XT} {a b e : Expr} {pa : M D} {i j : Nat} {p1 apos cpos : Pos}
end
end FL

namespace FL
open PySem PySem.Spec PyProof.Rows L2 DL NdefX LamX
def keysK (ks : List Key) (_ : List PV) : Option (List D) := some (ks.map keyD)
def mKeysF (cn : Str) (i : Nat) (f : Str) : M (List D) := mFldG cn i f (rdK keysK)
@[simp] theorem mKeysF_run (cn : Str) (i : Nat) (f : Str) (ε : PEnv) : mKeysF cn i f ε = mFldG cn i f (rdK keysK) ε := rfl
@[simp] theorem rdK_keys (ks : List Key) (ps : List PV) : rdK keysK (.dic ks ps) = some (ks.map keyD, .dic ks ps) := rfl
section
variable [Amb] [Cbs] {S : SD} {XD : XT} {ε : ED} {α : Type} {cn f : Str} {i : Nat}
end
section
variable [Amb] [Cbs] {X : Cx} {XD : XT} {o : Expr} {cn f : Str} {i : Nat} {pos fpos p : Pos}
end
end FL

namespace FL
open PySem PySem.Spec PyProof.Rows L2 DL NdefX LamX
def sdefKk (y x : D) : PV → Option (D × PV)
  | .dic ks ps => match keyOf y with
    | some k => if ks.length ≤ 1000000 then match dLook ks ps k with
      | some (.lst xs) => if xs.length ≤ 1000000 then some (.non, .dic ks (dRepl ks ps k (.lst (xs ++ [x])))) else none
      | none => some (.non, .dic (ks ++ [k]) (ps ++ [.lst [x]]))
      | _ => none
      else none
    | none => none
  | _ => none
def mSdefKF (cn : Str) (i : Nat) (f : Str) (pk pv : M D) : M D := mBind (mFldG cn i f (rdK unitK)) fun _ => mBind pk fun y => mBind pv fun x => mFldG cn i f (sdefKk y x)
@[simp] theorem mSdefKF_run (cn : Str) (i : Nat) (f : Str) (pk pv : M D) (ε : PEnv) : mSdefKF cn i f pk pv ε = (mBind (mFldG cn i f (rdK unitK)) fun _ => mBind pk fun y => mBind pv fun x => mFldG cn i f (sdefKk y x)) ε := rfl
section
variable [Amb] [Cbs] {S : SD} {XD : XT} {ε : ED} {cn f : Str} {i : Nat}
end
section
variable [Amb] [Cbs] {X : Cx} {XD : XT} {o k e : Expr} {pk pv : M D} {cn f : Str} {i j : Nat} {pos apos fpos cpos spos lp p1 p2 : Pos}
end
end FL

namespace FL
open PySem PySem.Spec PyProof.Rows L2 DL NdefX LamX
@[simp] theorem mInNR_run (i : Nat) (f : Str) (neg : Bool) (pa : M D) (ε : PEnv) : mInNR i f neg pa ε = (mBind pa fun y => mRecG i (.inr f) (rdDn (inNf neg y))) ε := rfl
@[simp] theorem mIxNR_run (i : Nat) (f : Str) (pa : M D) (ε : PEnv) : mIxNR i f pa ε = (mBind (mRecG i (.inr f) (rdDn unitN)) fun _ => mBind pa fun y => mRecG i (.inr f) (rdDn (ixNf y))) ε := rfl
@[simp] theorem mGetNR_run (i : Nat) (f : Str) (pa : M D) (ε : PEnv) : mGetNR i f pa ε = (mBind (mRecG i (.inr f) (rdDn unitN)) fun _ => mBind pa fun y => mRecG i (.inr f) (rdDn (getNf y))) ε := rfl
@[simp] theorem mSdefR_run (i : Nat) (f : Str) (pk pv : M D) (ε : PEnv) : mSdefR i f pk pv ε = (mBind (mRecG i (.inr f) isDnp) fun _ => mBind pk fun y => mBind pv fun x => mRecG i (.inr f) (sdefA y x)) ε := rfl
@[simp] theorem mFrzK_run (i : Nat) (f : Str) (p : M Res) (ε : PEnv) : mFrzK i f p ε = (mBind p fun r => match r with
  | .nx => mBind (mRecG i (.inr f) frzDnp) fun _ => mPure .nx
  | r => mPure r) ε := rfl
@[simp] theorem mLockV_run (j : Nat) (p : M Res) (ε : PEnv) : mLockV j p ε = (mBind p fun r => match r with
  | .nx => lockP j
  | r => mPure r) ε := rfl
@[simp] theorem lockP_run (j : Nat) (ε : PEnv) : lockP j ε = (match ε[j]? with
  | some (some (.lst xs)) => some (.ok .nx, ε.set j (some (.val (.ilst xs))))
  | _ => none) := rfl
end FL

namespace FL
open PySem PySem.Spec PyProof.Rows L2 DL NdefX LamX
def inGb (neg : Bool) (x : D) (ds : List D) : Option D := if okG x ds then some (.bl (if neg then !inG x ds else inG x ds)) else none
def fInG (neg : Bool) : D → D → Option D
  | x, .tup ds => inGb neg x ds
  | x, .ilst ds => inGb neg x ds
  | _, _ => none
@[simp] theorem fInG_tup (neg : Bool) (x : D) (ds : List D) : fInG neg x (.tup ds) = inGb neg x ds := rfl
@[simp] theorem fInG_ilst (neg : Bool) (x : D) (ds : List D) : fInG neg x (.ilst ds) = inGb neg x ds := rfl
section
variable [Amb] [Cbs] {X : Cx} {XD : XT} {a b : Expr} {pa : M D} {pos : Pos}
def mInLG (neg : Bool) (pa : M D) (i : Nat) : M D := mBind pa fun x => mBind (mGetL i) fun ds => mLift (inGb neg x ds)
@[simp] theorem mInLG_run (neg : Bool) (pa : M D) (i : Nat) (ε : PEnv) : mInLG neg pa i ε = (mBind pa fun x => mBind (mGetL i) fun ds => mLift (inGb neg x ds)) ε := rfl
end
end FL

namespace FL
open PySem PySem.Spec PyProof.Rows L2 DL NdefX LamX
def lockR (i : Nat) (f : Str) : M Res := fun ε => match ε[i]? with
  | some (some (.dic ks ps)) => match dLook ks ps (.inr f) with
    | some (.lst xs) => some (.ok .nx, ε.set i (some (.dic ks (putK (.inr f) (.val (.ilst xs)) ks ps))))
    | _ => none
  | _ => none
def mLockR (i : Nat) (f : Str) (p : M Res) : M Res := mBind p fun r => match r with
  | .nx => lockR i f
  | r => mPure r
@[simp] theorem mLockR_run (i : Nat) (f : Str) (p : M Res) (ε : PEnv) : mLockR i f p ε = (mBind p fun r => match r with
  | .nx => lockR i f
  | r => mPure r) ε := rfl
@[simp] theorem lockR_run (i : Nat) (f : Str) (ε : PEnv) : lockR i f ε = (match ε[i]? with
  | some (some (.dic ks ps)) => match dLook ks ps (.inr f) with
    | some (.lst xs) => some (.ok .nx, ε.set i (some (.dic ks (putK (.inr f) (.val (.ilst xs)) ks ps))))
    | _ => none
  | _ => none) := rfl
section
variable [Amb] [Cbs] {S : SD} {XD : XT} {ε : ED}
end
end FL

namespace FL
open PySem PySem.Spec PyProof.Rows L2 DL NdefX LamX
section
variable [Amb] [Cbs] {P : Program} {w : World} {K : PySem.W.Frag} {mg : Str → Option Value} {base : Heap}
end
end FL

namespace FL
open PySem PySem.Spec PyProof.Rows L2 DL NdefX LamX
variable [Amb] [Cbs]

def mCalm {α : Type} (p : M α) : M α := fun ε => match p ε with
  | some (.ok a, ε') => some (.ok a, ε')
  | _ => none
@[simp] theorem mCalm_run {α : Type} (p : M α) (ε : PEnv) : mCalm p ε = match p ε with
  | some (.ok a, ε') => some (.ok a, ε')
  | _ => none := rfl
def mRaise (pa : M D) : M Res := fun ε => match pa ε with
  | none => none
  | some (.ok c, ε') => some (.ex c, ε')
  | some (.ex e, ε') => some (.ex e, ε')
@[simp] theorem mRaise_run (pa : M D) (ε : PEnv) : mRaise pa ε = match pa ε with
  | none => none
  | some (.ok c, ε') => some (.ex c, ε')
  | some (.ex e, ε') => some (.ex e, ε') := rfl
def mTry (m : List D → Option (Out D)) (i : Nat) (pas : M (List D)) (q : M Res) : M Res := mBind pas fun ds => match m ds with
  | none => fun _ => none
  | some (.ok d) => mSet i (mPure d)
  | some (.ex _) => q
@[simp] theorem mTry_run (m : List D → Option (Out D)) (i : Nat) (pas : M (List D)) (q : M Res) (ε : PEnv) : mTry m i pas q ε = match pas ε with
  | none => none
  | some (.ok ds, ε') => (match m ds with
    | none => none
    | some (.ok d) => mSet i (mPure d) ε'
    | some (.ex _) => q ε')
  | some (.ex e, ε') => some (.ex e, ε') := by
  unfold mTry mBind
  cases pas ε with
  | none => rfl
  | some o =>
    obtain ⟨o, ε'⟩ := o
    cases o with
    | ex e => rfl
    | ok ds =>
      show (match m ds with | none => fun _ => none | some (.ok d) => mSet i (mPure d) | some (.ex _) => q) ε' = (match m ds with | none => none | some (.ok d) => mSet i (mPure d) ε' | some (.ex _) => q ε')
      cases m ds with
      | none => rfl
      | some r => cases r <;> rfl
section
variable {XD : XT} {ms ms' : List Nat} {D : DEnds} {ε : ED} {S : SD}
theorem wS_calm {p : M Res} (h : wS XD ms (mCalm p) D ε S) : wS NoX ms p D ε S := by
  obtain ⟨εp, fp, o, εp', st, e, k⟩ := h
  unfold mCalm at e
  split at e
  · rename_i a ε1 e1
    cases e
    exact ⟨εp, fp, _, _, st, e1, fun S' fp' ε' own ag => by
      have := k S' fp' ε' own ag
      cases a <;> exact this⟩
  · cases e
def spPX (m : List DL.D → Option (Out DL.D)) : DSpX := fun ds S Q X0 => ∃ o, m ds = some o ∧ match o with
  | .ok d => Q d S
  | .ex c => X0 c S
end
abbrev FSL (X : Cx) (XD : XT) (S0 : SD) (H0 : Hp) (st : Stmt) (ms : List Nat) (p : M Res) : Prop := DSL X S0 H0 st (wS XD ms p)
abbrev FSsL (X : Cx) (XD : XT) (S0 : SD) (H0 : Hp) (st : List Stmt) (ms : List Nat) (p : M Res) : Prop := DSsL X S0 H0 st (wS XD ms p)
section
variable {X : Cx} {XD : XT} {S0 : SD} {H0 : Hp} {st : Stmt} {rest : List Stmt} {ms ms' : List Nat} {p q r : M Res} {pt : M Bool} {pos : Pos}
theorem fsl_calm (h : FS X NoX st ms p) : FSL X XD S0 H0 st ms (mCalm p) := DSL_imp (dsl_of h) fun _ _ _ => wS_calm
theorem fssl_nil : FSsL X XD S0 H0 [] [] (mPure .nx) := DSsL_imp dssl_nil fun D ε S h => by
  obtain ⟨εp, fp, st, k⟩ := wS_pure h
  exact k st.nd Nx.refl
theorem fssl_one (h1 : FSL X XD S0 H0 st ms q) : FSsL X XD S0 H0 [st] ms q := dssl_one h1
theorem fssl_cons (h1 : FSL X XD S0 H0 st ms q) (h2 : FSsL X XD S0 H0 rest ms' r) : FSsL X XD S0 H0 (st :: rest) (ms ++ ms') (mSeq q r) := DSsL_imp (dssl_cons h1 h2) fun _ _ _ => wS_seq
theorem fsl_if {c : Expr} {a b : List Stmt} (hc : FT X XD c pt) (ha : FSsL X XD S0 H0 a ms q) (hb : FSsL X XD S0 H0 b ms' r) : FSL X XD S0 H0 (.If c a b pos) (ms ++ ms') (mIf pt q r) := DSL_imp (dsl_if hc ha hb) fun _ _ _ => wS_if
structure XC (P : Program) (w : World) (K : PySem.W.Frag) (mg : Str → Option Value) (base : Heap) (k : Nat) (x : Str) (ps : List Str) (cn fl : Str) (m : List D → Option (Out D)) : Prop where
  ex : ∃ f fd, FnG P w K mg base (L2.CX P w) k f fd ps (liftSpX K (Amb.cls cn) fl (spPX m)) ∧ mg x = some (.ref f) ∧ PySem.W.keepIn K (.ref f) = true ∧ Binds K fd ps []
end
section
variable {P : Program} {w : World} {K : PySem.W.Frag} {mg : Str → Option Value} {base : Heap}
def runX (n : Nat) (body : M Res) : List D → Option (Out D) := fun ds => match body (startP n (ds.map .val)) with
  | some (.ok (.rt (.val d)), _) => some (.ok d)
  | some (.ok .nx, _) => some (.ok .non)
  | some (.ex c, _) => some (.ex c)
  | _ => none
def fnX (np n : Nat) (body : M Res) : List D → Option (Out D) := fun ds => if ds.length = np then runX n body ds else none
@[simp] theorem fnX_run (np n : Nat) (body : M Res) (ds : List D) : fnX np n body ds = if ds.length = np then runX n body ds else none := rfl
theorem runX_eq (n : Nat) (body : M Res) (ds : List D) : runX n body ds = match body (startP n (ds.map .val)) with
  | some (.ok (.rt (.val d)), _) => some (.ok d)
  | some (.ok .nx, _) => some (.ok .non)
  | some (.ex c, _) => some (.ex c)
  | _ => none := rfl
theorem xcP {x qual cn fl : Str} {st : Stmt} {f : Addr} {fd : FuncData} {N ps : List Str} {k : Nat} {ms : List Nat} {body : M Res} (F : Fun K x qual st f fd) (g : mg x = some (.ref f)) (bd : Binds K fd ps []) (S : FnScope N ps (defScope st))
    (hbody : ∀ (cdv : Value) (A : Around) (outer : List Env) (s : Shared) (H : Hp) (E : XK) (S0 : SD) (H0 : Hp) (X0 : DK), RoomG k (A.deeper (envOfC qual (defScope st) s.heap.objs.size f cdv)) → WkX K (Amb.cls cn) fl S0 H0 X0 E →
      FSsL (cxOf (L2.CX P w) P w K mg base N qual (defScope st) f cdv A outer s H E) (fun e _ _ S' _ => X0 e S') S0 H0 (defBody st) ms body) :
    XC P w K mg base (k + 1) x ps cn fl (fnX ps.length N.length body) := by
  refine ⟨f, fd, fnXD F S (fun ds S Q X0 ⟨d, e, _⟩ => ?_) (fun X0 => wS (fun e _ _ S' _ => X0 e S') ms body) hbody (fun ds S1 Q X0 ⟨o, e, q⟩ => ?_), g, F.kp, bd⟩
  · unfold fnX at e
    split at e
    · assumption
    · cases e
  · unfold fnX at e
    split at e
    · have st0 : St S1 (startP N.length (ds.map .val)) (startD N ds) [] := ⟨by
        unfold startP startD
        rw [List.length_map]
        exact own_start _ (own_vals ds), List.nodup_nil⟩
      have sub : ∀ {S' : SD} {fp' : List Addr}, Nx S1 [] S' fp' → Sub S1 S' := fun n a c h => ⟨c, n.ext a c (by simp) h, Cell.le_refl c⟩
      unfold runX at e
      split at e
      · rename_i d1 ε1 e1
        cases e
        exact ⟨_, [], _, ε1, st0, e1, fun S' fp' ε'' own ag fq d ov nd2 n2 => by
          cases ov.val.1
          exact ⟨S1, sub n2, q⟩⟩
      · rename_i ε1 e1
        cases e
        exact ⟨_, [], _, ε1, st0, e1, fun S' fp' ε'' own ag nd2 n2 => ⟨S1, sub n2, q⟩⟩
      · rename_i c ε1 e1
        cases e
        exact ⟨_, [], _, ε1, st0, e1, fun S' fp' ε'' own ag nd2 n2 => ⟨S1, sub n2, q⟩⟩
      · cases e
    · cases e
end
end FL

namespace FL
open PySem PySem.Spec PyProof.Rows L2 DL NdefX LamX
variable [Amb] [Cbs]
def mTold (m : List D → Option (Out D)) (i ie j : Nat) (w : Str) (pas : M (List D)) (q : M Res) : M Res := mBind pas fun ds ε => if ie < ε.length ∧ j < ε.length then
    match m ds with
    | none => none
    | some (.ok d) => mSeq (mSet i (mPure d)) q ε
    | some (.ex c) => some (.ok (.rt (.val (.tup [.str w, c]))), ε)
  else none
@[simp] theorem mTold_run (m : List D → Option (Out D)) (i ie j : Nat) (w : Str) (pas : M (List D)) (q : M Res) (ε : PEnv) : mTold m i ie j w pas q ε = mBind pas (fun ds ε => if ie < ε.length ∧ j < ε.length then
    match m ds with
    | none => none
    | some (.ok d) => mSeq (mSet i (mPure d)) q ε
    | some (.ex c) => some (.ok (.rt (.val (.tup [.str w, c]))), ε)
  else none) ε := rfl
section
variable {XD : XT} {ms : List Nat} {D : DEnds} {ε : ED} {S : SD}
end
section
variable {X : Cx} {XD : XT}
end
end FL

namespace FL
open PySem PySem.Spec PyProof.Rows L2 DL NdefX LamX
def osL : List D → Option (List (Option Str))
  | [] => some []
  | .str x :: r => (osL r).map (some x :: ·)
  | .non :: r => (osL r).map (none :: ·)
  | _ :: _ => none
def fIndexN (x : D) : Option D := match x with
  | .tup ds => (osL ds).bind fun os => if none ∈ os then some (.int (ixNon os : Nat)) else none
  | _ => none
def mIndexNT (pa : M D) : M D := mBind pa fun x => mBind (mLift (toT x)) fun _ => mLift (fIndexN x)
@[simp] theorem mIndexNT_run (pa : M D) (ε : PEnv) : mIndexNT pa ε = (mBind pa fun x => mBind (mLift (toT x)) fun _ => mLift (fIndexN x)) ε := rfl
section
variable [Amb] [Cbs] {X : Cx} {XD : XT} {a : Expr} {pa : M D}
end
end FL

namespace FL
open PySem PySem.Spec PyProof.Rows L2 DL NdefX LamX
section
variable [Amb] [Cbs] {X : Cx} {XD : XT} {a : Expr} {p pos : Pos}
def mAllL (i : Nat) : M D := mBind (mGetL i) fun ds => mBind (mLift (bools ds)) fun bs => mPure (.bl (bs.all id))
def mAnyL (i : Nat) : M D := mBind (mGetL i) fun ds => mBind (mLift (bools ds)) fun bs => mPure (.bl (bs.any id))
@[simp] theorem mAllL_run (i : Nat) (ε : PEnv) : mAllL i ε = (mBind (mGetL i) fun ds => mBind (mLift (bools ds)) fun bs => mPure (.bl (bs.all id))) ε := rfl
@[simp] theorem mAnyL_run (i : Nat) (ε : PEnv) : mAnyL i ε = (mBind (mGetL i) fun ds => mBind (mLift (bools ds)) fun bs => mPure (.bl (bs.any id))) ε := rfl
end
section
variable [Amb] [Cbs] {X : Cx} {XD : XT} {a : Expr} {i : Nat} {pos : Pos}
end
end FL

namespace FL
open PySem PySem.Spec PyProof.Rows L2 DL NdefX LamX
def fLstrip (x y : D) : Option D := match x, y with
  | .str a, .str b => if a.length ≤ 1000000 then some (.str (PySem.Txt.lstripChars a b)) else none
  | _, _ => none
def mLstrip (pa pb : M D) : M D := mBind pa fun x => mBind (mLift (match x with | .str a => some a | _ => none)) fun _ => mBind pb fun y => mLift (fLstrip x y)
@[simp] theorem mLstrip_run (pa pb : M D) (ε : PEnv) : mLstrip pa pb ε = (mBind pa fun x => mBind (mLift (match x with | .str a => some a | _ => none)) fun _ => mBind pb fun y => mLift (fLstrip x y)) ε := rfl
section
variable [Amb] [Cbs] {X : Cx} {XD : XT} {a e : Expr} {pa pb : M D} {apos cpos : Pos}
theorem fe_lstrip (ho : FE X XD a pa) (ha : FE X XD e pb) (hbase : attributeBase a "lstrip" X.env (eval a X.env) = eval a X.env := by rfl)
    (hfew : ((backTo cpos (starEach [e] X.env)).all (fun x => !x.1) && (backToKw cpos (keywordEach [] X.env)).all (fun x => x.1.isSome)
      && decide (([e] : List Expr).length + ([] : List Keyword).length + (if ([] : List Keyword).isEmpty then 0 else 1) < 30)) = true := by rfl)
    (hline : (apos.endLine == cpos.line) = true := by rfl) (hs : starEach [e] X.env = (false, eval e X.env) :: starEach [] X.env := by rfl) (hplain : (backTo cpos (starEach [] X.env)).any (·.1) = false := by rfl) :
    FE X XD (.Call (.Attribute a "lstrip" apos) [e] [] cpos) (mLstrip pa pb) :=
  DE_imp (de_sm PySem.F.slot_str_lstrip PySem.F.type_str_lstrip dm_lstrip ho (da_cons ha da_nil hs) hbase hfew hline hs hplain) fun ε S Q h => wM_imp (wM_bind h) fun x S1 h => by
    obtain ⟨z, e1, h⟩ := wM_lift (wM_bind h)
    cases x with
    | str a =>
      refine ⟨⟨a, rfl⟩, wM_imp (wM_bind h) fun y S2 h => ?_⟩
      obtain ⟨d, e2, h⟩ := wM_lift h
      cases y with
      | str b =>
        unfold fLstrip at e2
        by_cases c : a.length ≤ 1000000
        · simp only [if_pos c] at e2
          cases e2
          exact ⟨a, b, rfl, rfl, c, h⟩
        · simp only [if_neg c] at e2
          cases e2
      | _ => cases e2
    | _ => cases e1
end
end FL

namespace FL
open PySem PySem.Spec PyProof.Rows L2 DL NdefX LamX
variable [Amb] [Cbs]
def mToldR (m : List D → Option (Out D)) (ie : Nat) (pas : M (List D)) : M Res := mBind pas fun ds ε => if ie < ε.length then
    match m ds with
    | none => none
    | some (.ok d) => some (.ok (.rt (.val (.ilst [d]))), ε)
    | some (.ex c) => some (.ok (.rt (.val (.tup [c]))), ε)
  else none
@[simp] theorem mToldR_run (m : List D → Option (Out D)) (ie : Nat) (pas : M (List D)) (ε : PEnv) : mToldR m ie pas ε = mBind pas (fun ds ε => if ie < ε.length then
    match m ds with
    | none => none
    | some (.ok d) => some (.ok (.rt (.val (.ilst [d]))), ε)
    | some (.ex c) => some (.ok (.rt (.val (.tup [c]))), ε)
  else none) ε := rfl
section
variable {XD : XT} {D : DEnds} {ε : ED} {S : SD}
theorem wS_toldR {m : List DL.D → Option (Out DL.D)} {ie : Nat} {pas : M (List DL.D)} (h : wS XD [] (mToldR m ie pas) D ε S) : dToldR (spPX m) ie (wM XD pas) D ε S := by
  refine wM_imp (wS_bind (ms := []) h) fun ds S1 h1 => ?_
  obtain ⟨εp, fp, o, εp', st, e2, k⟩ := h1
  have ln := st.own.length
  have e3 : (if ie < εp.length then (match m ds with
    | none => none
    | some (.ok d) => some (.ok (.rt (.val (.ilst [d]))), εp)
    | some (.ex c) => some (.ok (.rt (.val (.tup [c]))), εp)) else none) = some (o, εp') := e2
  by_cases hl : ie < εp.length
  · rw [if_pos hl] at e3
    refine ⟨by rw [ln]; exact hl, ?_⟩
    split at e3
    · cases e3
    · rename_i d e
      refine ⟨.ok d, e, ?_⟩
      cases e3
      exact k S1 fp ε st.own Agree.refl [] _ own_val (by rw [List.append_nil]; exact st.nd) (by rw [List.append_nil]; exact Nx.refl)
    · rename_i c e
      cases e3
      refine ⟨.ex c, e, ?_⟩
      exact k S1 fp ε st.own Agree.refl [] _ own_val (by rw [List.append_nil]; exact st.nd) (by rw [List.append_nil]; exact Nx.refl)
  · rw [if_neg hl] at e3
    cases e3
end
section
variable {X : Cx} {XD : XT}
theorem fss_toldR {k ie : Nat} {cv : Value} {ps : List Str} {m : List D → Option (Out D)} {x en ec cx fl : Str} {p cpos lpos rpos np pos pos' : Pos} {e : Expr} {es : List Expr} {pas : M (List D)} {b₀ : Stmt} {suite : List Stmt}
    (C : XC X.prog X.w X.K X.mg X.base k x ps cx fl m) (hr : RoomG k X.A) (hg : Gl X x) (hs : X.stack = X.env :: X.outer) (hf : X.env.frame = some X.env.locals) (hxx : X.ex = []) (hN : X.N.Nodup)
    (hie : X.N[ie]? = some en) (hln : X.env.kindOf en = some .local)
    (hgc : Gl X ec) (hmc : X.mg ec = some cv) (hx : PySem.W.exmOne X.K (.ref (Amb.cls cx)) cv = some true)
    (ha : ∀ (pn : List (Addr × Obj)) (xe : Value → Shared → Prop), FA (X.tr pn xe) XD (e :: es) pas) (hsu : ∀ (a : Addr) (pn : List (Addr × Obj)), PSs (X.suite a pn) (b₀ :: suite) (tKeptR X.K ie (Amb.cls cx) fl))
    (hde2 : (ec == ("__debug__" : Str)) = false := by decide)
    (hdb : (x == ("__debug__" : Str)) = false := by decide) (he : starEach (e :: es) X.env = (false, eval e X.env) :: starEach es X.env := by rfl) (hpl : (backTo cpos (starEach es X.env)).any (·.1) = false := by rfl)
    (hs2 : starEach [Expr.Call (.Name x p) (e :: es) [] cpos] X.env = (false, eval (.Call (.Name x p) (e :: es) [] cpos) X.env) :: starEach [] X.env := by rfl) :
    FSs X XD [.Try [.Return (some (.List [.Call (.Name x p) (e :: es) [] cpos] lpos)) rpos] [.ExceptHandler (some (.Name ec np)) (some en) (b₀ :: suite) pos'] [] [] pos] [] (mToldR m ie pas) := by
  obtain ⟨f, fd, F, hm, hk, hb⟩ := C.ex
  exact DSs_imp (dss_toldR hs hf hxx F hr hg hm hk hb hN hie hln ⟨hgc, hde2, .inl hmc⟩ hx ha hsu hdb he hpl hs2) fun _ _ _ => wS_toldR
end
theorem short_small : ∀ n : Nat, n ≤ 1000 → ShortI (n : Int) := fun n h => by
  have h2 : ∀ k : _root_.Fin 1001, ((k.val : Int).natAbs.log2 < 1920) ∧ (((toString (k.val : Int) : String) : Str).length ≤ 1000) := by decide +kernel
  obtain ⟨a, b⟩ := h2 ⟨n, by omega⟩
  exact ⟨a, _, rfl, b⟩
def mRaiseI (pa : M D) : M Res := fun ε => match pa ε with
  | none => none
  | some (.ok (.int i), ε') => if 0 ≤ i ∧ i ≤ 1000 then some (.ex (.int i), ε') else none
  | _ => none
@[simp] theorem mRaiseI_run (pa : M D) (ε : PEnv) : mRaiseI pa ε = match pa ε with
  | none => none
  | some (.ok (.int i), ε') => if 0 ≤ i ∧ i ≤ 1000 then some (.ex (.int i), ε') else none
  | _ => none := rfl
section
variable {D : DEnds} {ε : ED} {S : SD}
theorem wS_raiseI {pa : M DL.D} {X0 : DK} (h : wS (fun e _ _ S' _ => X0 e S') [] (mRaiseI pa) D ε S) : wM (fun e _ _ S' _ => X0 e S') pa ε S fun d S' => (∃ i, d = .int i ∧ ShortI i) ∧ X0 d S' := by
  obtain ⟨εp, fp, o, εp', st, e, k⟩ := h
  unfold mRaiseI at e
  split at e
  · cases e
  · rename_i i ε1 e1
    split at e
    · rename_i hi
      cases e
      refine ⟨εp, fp, .ok (.int i), _, st, e1, fun S1 fp1 st1 n1 => ⟨⟨i, rfl, ?_⟩, k S1 fp1 ε st1.own Agree.refl st1.nd n1⟩⟩
      obtain ⟨n, rfl⟩ : ∃ n : Nat, i = n := ⟨i.toNat, by omega⟩
      exact short_small n (by omega)
    · cases e
  · cases e
end
section
variable {X : Cx} {S0 : SD} {H0 : Hp} {pos : Pos}
theorem fsl_raiseI {x f : Str} {C : Addr} {e : Expr} {pa : M D} {E : XK} {X0 : DK} {p1 pos' : Pos} (hc : X.calm = true) (tk : Takes X (fun cls d _ H => E cls d H)) (wk : WkX X.K C f S0 H0 X0 E) (T : ExcI X.prog X.w X.K X.mg X.base x f C) (hr : RoomG 2 X.A) (hg : Gl X x)
    (he : FE X (fun e _ _ S' _ => X0 e S') e pa) (hdb : (x == ("__debug__" : Str)) = false := by decide) (hs : starEach [e] X.env = (false, eval e X.env) :: starEach [] X.env := by rfl) (hpl : (backTo pos' (starEach [] X.env)).any (·.1) = false := by rfl) :
    FSL X (fun e _ _ S' _ => X0 e S') S0 H0 (.Raise (some (.Call (.Name x p1) [e] [] pos')) none pos) [] (mRaiseI pa) := DSL_imp (dsl_raiseI hc tk wk T hr hg he hdb hs hpl) fun _ _ _ => wS_raiseI
end
end FL

namespace FL
open PySem PySem.Spec PyProof.Rows L2 DL NdefX LamX
def fReprLV : List D → Option D
  | [.ilst ds] => fReprL [.ilst ds]
  | ds => fReprV ds
theorem fc_reprLV [Amb] [Cbs] {X : Cx} (hu : X.A.units + 64 < cLine) (hg : X.A.guards = some []) : FCall X (.builtin "repr") fReprLV := by
  intro pins s σ H xs us Q I r ⟨ds, S, Q0, den, rS, ⟨d, e, q⟩, k⟩
  unfold fReprLV at e
  split at e
  · exact fc_reprL hu hg pins s σ H xs us Q I r ⟨_, S, Q0, den, rS, ⟨d, e, q⟩, k⟩
  · exact fc_reprV hu hg pins s σ H xs us Q I r ⟨_, S, Q0, den, rS, ⟨d, e, q⟩, k⟩
end FL

namespace KX
open PySem PySem.Spec PyProof.Rows L2 DL FL NdefX LamX
abbrev FUEL : Nat := 100000
def n_p_is_word : List Str := ["thing", "letter"]
def e_p_is_word_1 : M D := (mOp2 fInS (mVar 1) (mPure (.str "abcdefghijklmnopqrstuvwxyz")))
def m_p_is_word : List D → Option D := fnP 1 2
      (mSeq (mIf (mOr (mNot (mB (mCB fIsi (mCons (mVar 0) (mCons (mPure (.ty "str")) mNil))))) (mNot (mB (mChain fLe fLe (mPure (.int 1)) (mCB fLen (mCons (mVar 0) mNil)) (mPure (.int 8)))))) (mRet (mPure (.bl false))) (mPure .nx))
      (mRet (mAllF (mLc (mItS (mVar 0)) cYes (gN 1) (mPure true) e_p_is_word_1 [1]))))
def n_p_stretch_of : List Str := ["text", "place", "signs", "end"]
def b_p_stretch_of_1 : M Res := (mSet 3 (mOp2 fAddI (mVar 3) (mPure (.int 1))))
def m_p_stretch_of : List D → Option D := fnP 3 4
      (mSeq (mSet 3 (mVar 1))
      (mSeq (mWhile (mAnd (mB (mOp2 fLt (mVar 3) (mCB fLen (mCons (mVar 0) mNil)))) (mB (mOp2 fInS (mIx (mVar 0) (mVar 3)) (mVar 2)))) b_p_stretch_of_1 FUEL)
      (mRet (mSlS (mVar 0) (mPart (mVar 1)) (mPart (mVar 3))))))
def n_p_is_number : List Str := ["figures"]
def m_p_is_number : List D → Option D := fnP 1 1
      (mRet (mAndV (mChain fLe fLe (mPure (.int 1)) (mCB fLen (mCons (mVar 0) mNil)) (mPure (.int 3))) (mOrT (mOp2 (fEq false) (mVar 0) (mPure (.str "0"))) (mOp2 (fEq true) (mIx (mVar 0) (mPure (.int 0))) (mPure (.str "0"))))))
def n_p_TermReader___init__ : List Str := ["self", "text"]
def m_p_TermReader___init__ : FM := fnF 2 [0] 2
      (mSeq (mSetF "TermReader" 0 "text" (mVar 1))
      (mSeq (mSetF "TermReader" 0 "spot" (mPure (.int 0)))
      (mSeq (mSetFO "TermReader" 0 "begun" (mPure (.lsts [])))
      (mSetF "TermReader" 0 "ended" (mPure .non)))))
def n_p_TermReader_close : List Str := ["self"]
def m_p_TermReader_close : FM := fnF 1 [0] 1
      (mSeq (mSetF "TermReader" 0 "ended" (mTupPop "TermReader" 0 "begun"))
      (mAugF "TermReader" 0 "spot" (mPure (.int 1))))
def n_p_TermReader_begin : List Str := ["self", "figures", "word"]
def m_p_TermReader_begin : FM := fnF 1 [0] 3
      (mSeq (mIf (mB (mOp2 (fEq false) (mIx (mFld "TermReader" 0 "text") (mFld "TermReader" 0 "spot")) (mPure (.str "#")))) (mSeq (mSet 1 (mCallP m_p_stretch_of (mCons (mFld "TermReader" 0 "text") (mCons (mOp2 fAdd (mFld "TermReader" 0 "spot") (mPure (.int 1))) (mCons (mPure (.str "0123456789")) mNil)))))
      (mSeq (mIf (mNot (mB (mCallP m_p_is_number (mCons (mVar 1) mNil)))) (mRet (mPure (.bl false))) (mPure .nx))
      (mSeq (mAugF "TermReader" 0 "spot" (mOp2 fAdd (mPure (.int 1)) (mCB fLen (mCons (mVar 1) mNil))))
      (mSeq (mSetF "TermReader" 0 "ended" (mCB fIntV (mCons (mVar 1) mNil)))
      (mRet (mPure (.bl true))))))) (mPure .nx))
      (mSeq (mSet 2 (mCallP m_p_stretch_of (mCons (mFld "TermReader" 0 "text") (mCons (mFld "TermReader" 0 "spot") (mCons (mPure (.str "abcdefghijklmnopqrstuvwxyz")) mNil)))))
      (mSeq (mIf (mNot (mB (mCallP m_p_is_word (mCons (mVar 2) mNil)))) (mRet (mPure (.bl false))) (mPure .nx))
      (mSeq (mAugF "TermReader" 0 "spot" (mCB fLen (mCons (mVar 2) mNil)))
      (mSeq (mIf (mB (mOp2 (fEq true) (mSlS (mFld "TermReader" 0 "text") (mPart (mFld "TermReader" 0 "spot")) (mPart (mOp2 fAdd (mFld "TermReader" 0 "spot") (mPure (.int 1))))) (mPure (.str "(")))) (mSeq (mSetF "TermReader" 0 "ended" (mVar 2))
      (mRet (mPure (.bl true)))) (mPure .nx))
      (mSeq (mDrop (mAppN "TermReader" 0 "begun" (mMap .lst (mLst (mCons (mVar 2) mNil)))))
      (mSeq (mAugF "TermReader" 0 "spot" (mPure (.int 1)))
      (mSeq (mIf (mB (mOp2 (fEq false) (mSlS (mFld "TermReader" 0 "text") (mPart (mFld "TermReader" 0 "spot")) (mPart (mOp2 fAdd (mFld "TermReader" 0 "spot") (mPure (.int 1))))) (mPure (.str ")")))) (mDrop (mV (mMeth "TermReader" 0 "close" m_p_TermReader_close (mPure [])))) (mPure .nx))
      (mRet (mPure (.bl true)))))))))))
def n_p_TermReader_go_on : List Str := ["self"]
def m_p_TermReader_go_on : FM := fnF 1 [0] 1
      (mSeq (mIf (mB (mOp2 (fEq false) (mLenF "TermReader" 0 "begun") (mPure (.int 0)))) (mRet (mPure (.bl false))) (mPure .nx))
      (mSeq (mDrop (mAppLast "TermReader" 0 "begun" (mFld "TermReader" 0 "ended")))
      (mSeq (mIf (mB (mOp2 (fEq false) (mIx (mFld "TermReader" 0 "text") (mFld "TermReader" 0 "spot")) (mPure (.str ")")))) (mSeq (mDrop (mV (mMeth "TermReader" 0 "close" m_p_TermReader_close (mPure []))))
      (mRet (mPure (.bl true)))) (mPure .nx))
      (mSeq (mSetF "TermReader" 0 "ended" (mPure .non))
      (mSeq (mAugF "TermReader" 0 "spot" (mPure (.int 2)))
      (mRet (mOp2 (fEq false) (mSlS (mFld "TermReader" 0 "text") (mPart (mOp2 fSub (mFld "TermReader" 0 "spot") (mPure (.int 2)))) (mPart (mFld "TermReader" 0 "spot"))) (mPure (.str ", ")))))))))
def n_p_TermReader_whole_term : List Str := ["self", "fine"]
def b_p_TermReader_whole_term_1 : M Res := (mSeq (mSet 1 (mIf (mB (mIsN (mFld "TermReader" 0 "ended"))) (mV (mMeth "TermReader" 0 "begin" m_p_TermReader_begin (mPure []))) (mV (mMeth "TermReader" 0 "go_on" m_p_TermReader_go_on (mPure [])))))
      (mIf (mNot (mB (mVar 1))) (mRet (mPure .non)) (mPure .nx)))
def m_p_TermReader_whole_term : FM := fnF 1 [0] 2
      (mSeq (mWhile (mB (mOp2 fLt (mFld "TermReader" 0 "spot") (mCB fLen (mCons (mFld "TermReader" 0 "text") mNil)))) b_p_TermReader_whole_term_1 FUEL)
      (mRet (mIf (mB (mOp2 (fEq false) (mLenF "TermReader" 0 "begun") (mPure (.int 0)))) (mFld "TermReader" 0 "ended") (mPure .non))))
def n_p_term_in : List Str := ["text"]
def m_p_term_in : List D → Option D := fnP 1 1
      (mRet (mV (mMethN "TermReader" "whole_term" m_p_TermReader_whole_term (mMake "TermReader" m_p_TermReader___init__ (mArgV (mVar 0) (mPure []))) (mPure []))))
def n_p_read_term : List Str := ["text", "term"]
def m_p_read_term : List D → Option (Out D) := fnX 1 2
      (mSeq (mIf (mNot (mB (mCB fIsi (mCons (mVar 0) (mCons (mPure (.ty "str")) mNil))))) (mRaiseI (mPure (.int 0))) (mPure .nx))
      (mSeq (mCalm (mSet 1 (mCallP m_p_term_in (mCons (mVar 0) mNil))))
      (mSeq (mIf (mB (mIsN (mVar 1))) (mRaiseI (mPure (.int 0))) (mPure .nx))
      (mCalm (mRet (mVar 1))))))
def n_l_hand : List Str := ["_law_script", "_law_k", "_law_cell", "_law_great"]
def m_l_hand : FM := fnF 2 [] 4
      (mSeq (mSet 2 (mPure (.int 0)))
      (mSeq (mIf (mB (mOp2 fLt (mVar 1) (mCB fLen (mCons (mVar 0) mNil)))) (mSet 2 (mIx (mVar 0) (mVar 1))) (mPure .nx))
      (mSeq (mSet 3 (mOp2 fMul (mOp2 fMod (mVar 2) (mOp2 fMul (mOp2 fPow (mPure (.int 10)) (mPure (.int 60))) (mOp2 fPow (mPure (.int 10)) (mPure (.int 30))))) (mCB fInt (mCons (mOp2 fGe (mVar 2) (mOp2 fPow (mPure (.int 10)) (mPure (.int 18)))) mNil))))
      (mRetO (mMap .lst (mLst (mCons (mVar 3) (mCons (mOp2 fMod (mOp2 fAdd (mOp2 fAdd (mOp2 fMod (mVar 2) (mPure (.int 2305843009213693951))) (mOp2 fMul (mPure (.int 7919)) (mVar 1))) (mPure (.int 3))) (mPure (.int 2305843009213693951))) (mCons (mPure (.int 0)) mNil)))))))))
def n_l_take : List Str := ["_law_hand_here", "_law_many", "_law_digit", "_law_mixed"]
def m_l_take : FM := fnF 2 [0] 4
      (mSeq (mIf (mB (mOp2 fGt (mIxL 0 (mPure (.int 0))) (mPure (.int 0)))) (mSeq (mSet 2 (mOp2 fMod (mIxL 0 (mPure (.int 0))) (mVar 1)))
      (mSeq (mSetIx 0 (mOp2 fDiv (mIxL 0 (mPure (.int 0))) (mVar 1)) (mPure (.int 0)))
      (mRet (mVar 2)))) (mPure .nx))
      (mSeq (mSetIx 0 (mOp2 fAdd (mIxL 0 (mPure (.int 2))) (mPure (.int 1))) (mPure (.int 2)))
      (mSeq (mSet 3 (mOp2 fMod (mOp2 fMul (mOp2 fAdd (mOp2 fAdd (mIxL 0 (mPure (.int 1))) (mOp2 fMul (mOp2 fMul (mPure (.int 65537)) (mIxL 0 (mPure (.int 2)))) (mIxL 0 (mPure (.int 2))))) (mPure (.int 11))) (mPure (.int 48271))) (mPure (.int 2305843009213693921))))
      (mSeq (mSet 3 (mOp2 fMod (mOp2 fMul (mVar 3) (mOp2 fAdd (mOp2 fMod (mVar 3) (mPure (.int 1000003))) (mOp2 fMul (mPure (.int 99991)) (mIxL 0 (mPure (.int 2)))))) (mPure (.int 2305843009213693907))))
      (mRet (mOp2 fMod (mOp2 fAdd (mOp2 fDiv (mVar 3) (mPure (.int 97))) (mOp2 fDiv (mVar 3) (mPure (.int 1000033)))) (mVar 1)))))))
def n_l_pick : List Str := ["_law_hand_here", "_law_some"]
def m_l_pick : FM := fnF 2 [0, 1] 2
      (mRet (mIxA 1 (mV (mCall m_l_take (mArgS 0 (mArgV (mLenA 1) (mPure [])))))))
def n_l_words : List Str := ["_law_hand_here", "_law_many", "_law_letters", "_law_first", "_law_step", "_law_found", "_law_k", "_law_letter"]
def b_l_words_1 : M Res := (mSeq (mSet 7 (mIx (mVar 2) (mOp2 fMod (mOp2 fAdd (mVar 3) (mOp2 fMul (mVar 4) (mVar 6))) (mPure (.int 26)))))
      (mIf (mB (mOp2 fLt (mVar 6) (mPure (.int 26)))) (mDrop (mAppL 5 (mOp2 fMul (mVar 7) (mOp2 fAdd (mPure (.int 1)) (mOp2 fMod (mOp2 fAdd (mOp2 fMul (mVar 6) (mVar 6)) (mVar 3)) (mPure (.int 4))))))) (mDrop (mAppL 5 (mOp2 fAdd (mVar 7) (mPure (.str "xyz")))))))
def m_l_words : FM := fnF 2 [0] 8
      (mSeq (mSet 2 (mPure (.str "abcdefghijklmnopqrstuvwxyz")))
      (mSeq (mPar [3, 4] (mArgV (mV (mCall m_l_take (mArgS 0 (mArgV (mPure (.int 26)) (mPure []))))) (mArgV (mV (mCall m_l_pick (mArgS 0 (mArgN (mMap .lst (mLst (mCons (mPure (.int 1)) (mCons (mPure (.int 3)) (mCons (mPure (.int 5)) (mCons (mPure (.int 7)) (mCons (mPure (.int 9)) (mCons (mPure (.int 11)) mNil)))))))) (mPure []))))) (mPure []))))
      (mSeq (mSetO 5 (mMap .lst (mLst mNil)))
      (mSeq (mFor (mRng1 (mCons (mVar 1) mNil)) cYes (gN 6) b_l_words_1)
      (mRetV 5)))))
def n_l_size : List Str := ["_law_hand_here", "_law_few", "_law_most"]
def m_l_size : FM := fnF 3 [0] 3
      (mRet (mOp2 fAdd (mPure (.int 1)) (mV (mCall m_l_take (mArgS 0 (mArgV (mIxF (mLst (mCons (mVar 1) (mCons (mVar 1) (mCons (mVar 1) (mCons (mVar 1) (mCons (mVar 1) (mCons (mVar 1) (mCons (mVar 1) (mCons (mVar 2) mNil))))))))) (mV (mCall m_l_take (mArgS 0 (mArgV (mPure (.int 8)) (mPure [])))))) (mPure [])))))))
def n_l_plains : List Str := ["_law_hand_here", "_law_words_here", "_law_found", "_law_k", "_law_name", "_law_turn"]
def e_l_plains_1 : M D := (mPopL 1)
def b_l_plains_1 : M Res := (mSeq (mSet 4 (mPopL 1))
      (mDrop (mAppL 2 (mTup (mCons (mVar 4) (mCons (mTupF (mLc (mRng1 (mCons (mV (mCall m_l_size (mArgS 0 (mArgV (mPure (.int 3)) (mArgV (mPure (.int 5)) (mPure [])))))) mNil)) cYes (gN 5) (mPure true) e_l_plains_1 [5])) mNil))))))
def m_l_plains : FM := fnF 2 [0, 1] 6
      (mSeq (mSetO 2 (mMap .lst (mLst mNil)))
      (mSeq (mFor (mRng1 (mCons (mV (mCall m_l_size (mArgS 0 (mArgV (mPure (.int 2)) (mArgV (mPure (.int 3)) (mPure [])))))) mNil)) cYes (gN 3) b_l_plains_1)
      (mRet (mTupL 2))))
def n_l_makers : List Str := ["_law_hand_here", "_law_words_here", "_law_plains_here", "_law_names", "_law_plain", "_law_found", "_law_turn", "_law_k", "_law_sorts"]
def e_l_makers_1 : M D := (mIx (mVar 4) (mPure (.int 0)))
def e_l_makers_2 : M D := (mV (mCall m_l_pick (mArgS 0 (mArgS 3 (mPure [])))))
def e_l_makers_3 : M D := (mV (mCall m_l_pick (mArgS 0 (mArgS 3 (mPure [])))))
def b_l_makers_1 : M Res := (mSeq (mSetO 8 (mIxO (mArgN (mMap .lst (mLst (mCons (mPure (.str "thing")) mNil))) (mArgN (mMap .lst (mLst (mCons (mPure (.str "thing")) mNil))) (mArgN (mMap .lst (mLst (mCons (mPure (.str "thing")) (mCons (mPure (.str "thing")) mNil)))) (mArgN (mMap .lst (mLst mNil)) (mPure []))))) (mV (mCall m_l_take (mArgS 0 (mArgV (mPure (.int 4)) (mPure [])))))))
      (mSeq (mSetO 8 (mMap .lst (mCatVF 8 (mLc (mRng1 (mCons (mCB fMin (mCons (mOp2 fSub (mPure (.int 3)) (mLenL 8)) (mCons (mV (mCall m_l_take (mArgS 0 (mArgV (mPure (.int 2)) (mPure []))))) mNil))) mNil)) cYes (gN 6) (mPure true) e_l_makers_3 [6]))))
      (mSeq (mIf (mB (mOp2 (fEq false) (mV (mCall m_l_take (mArgS 0 (mArgV (mPure (.int 3)) (mPure []))))) (mPure (.int 0)))) (mSetO 8 (mMap .lst (mRevL 8))) (mPure .nx))
      (mDrop (mAppL 5 (mTup (mCons (mPopL 1) (mCons (mTupL 8) mNil))))))))
def m_l_makers : FM := fnF 3 [0, 1] 9
      (mSeq (mSetO 3 (mMap .lst (mLc (mItT (mVar 2)) cYes (gN 4) (mPure true) e_l_makers_1 [4])))
      (mSeq (mSetO 5 (mMap .lst (mLst (mCons (mTup (mCons (mPopL 1) (mCons (mTupF (mLc (mRng1 (mCons (mV (mCall m_l_take (mArgS 0 (mArgV (mPure (.int 2)) (mPure []))))) mNil)) cYes (gN 6) (mPure true) e_l_makers_2 [6])) mNil))) mNil))))
      (mSeq (mFor (mRng1 (mCons (mOp2 fSub (mV (mCall m_l_size (mArgS 0 (mArgV (mPure (.int 3)) (mArgV (mPure (.int 5)) (mPure [])))))) (mPure (.int 1))) mNil)) cYes (gN 7) b_l_makers_1)
      (mSeq (mIf (mB (mOp2 (fEq false) (mV (mCall m_l_take (mArgS 0 (mArgV (mPure (.int 3)) (mPure []))))) (mPure (.int 0)))) (mSetO 5 (mMap .lst (mRevL 5))) (mPure .nx))
      (mRet (mTupL 5))))))
def n_l_askings : List Str := ["_law_hand_here", "_law_words_here", "_law_plains_here", "_law_many", "_law_names", "_law_plain", "_law_found", "_law_k", "_law_sorts"]
def e_l_askings_1 : M D := (mIx (mVar 5) (mPure (.int 0)))
def b_l_askings_1 : M Res := (mSeq (mSet 8 (mTup (mCons (mPure (.str "thing")) mNil)))
      (mSeq (mIf (mB (mOp2 (fEq false) (mV (mCall m_l_take (mArgS 0 (mArgV (mPure (.int 3)) (mPure []))))) (mPure (.int 0)))) (mSet 8 (mTup (mCons (mPure (.str "thing")) (mCons (mV (mCall m_l_pick (mArgS 0 (mArgS 4 (mPure []))))) mNil)))) (mPure .nx))
      (mDrop (mAppL 6 (mTup (mCons (mPopL 1) (mCons (mVar 8) mNil)))))))
def m_l_askings : FM := fnF 4 [0, 1] 9
      (mSeq (mSetO 4 (mMap .lst (mLc (mItT (mVar 2)) cYes (gN 5) (mPure true) e_l_askings_1 [5])))
      (mSeq (mSetO 6 (mMap .lst (mLst mNil)))
      (mSeq (mFor (mRng1 (mCons (mVar 3) mNil)) cYes (gN 7) b_l_askings_1)
      (mRetV 6))))
def n_l_bare_kind : List Str := ["_law_hand_here", "_law_many", "_law_words_here", "_law_plains_here", "_law_makers_here", "_law_asks", "_law_name", "_law_sorts", "_law_changes"]
def b_l_bare_kind_1 : M Res := (mDrop (mAppL 5 (mTup (mCons (mVar 6) (mCons (mVar 7) (mCons (mIx (mV (mCall m_l_pick (mArgS 0 (mArgV (mVar 3) (mPure []))))) (mPure (.int 0))) mNil))))))
def m_l_bare_kind : FM := fnF 2 [0] 9
      (mSeq (mSetO 2 (mCall m_l_words (mArgS 0 (mArgV (mPure (.int 40)) (mPure [])))))
      (mSeq (mSet 3 (mV (mCall m_l_plains (mArgS 0 (mArgS 2 (mPure []))))))
      (mSeq (mPar [4, 5] (mArgV (mV (mCall m_l_makers (mArgS 0 (mArgS 2 (mArgV (mVar 3) (mPure [])))))) (mArgN (mMap .lst (mLst mNil)) (mPure []))))
      (mSeq (mFor (mItO (mCall m_l_askings (mArgS 0 (mArgS 2 (mArgV (mVar 3) (mArgV (mV (mCall m_l_size (mArgS 0 (mArgV (mPure (.int 2)) (mArgV (mPure (.int 4)) (mPure [])))))) (mPure []))))))) cYes (gTup 2 (gCons (gN 6) (gCons (gN 7) gNil))) b_l_bare_kind_1)
      (mSeq (mSetO 8 (mCall m_l_askings (mArgS 0 (mArgS 2 (mArgV (mVar 3) (mArgV (mV (mCall m_l_take (mArgS 0 (mArgV (mOp2 fAdd (mVar 1) (mPure (.int 1))) (mPure []))))) (mPure [])))))))
      (mRet (mTup (mCons (mVar 3) (mCons (mVar 4) (mCons (mTupL 5) (mCons (mTupL 8) (mCons (mTup mNil) mNil))))))))))))
def n_l_open_term : List Str := ["_law_hand_here", "_law_kind", "_law_sorts", "_law_sort", "_law_left", "_law_same", "_law_at", "_law_one", "_law_rows", "_law_row", "_law_parts"]
def t_l_open_term_1 (m_l_open_term : FM) : M Bool := (mB (mOp2 (fEq false) (mVar 7) (mVar 3)))
def e_l_open_term_1 (m_l_open_term : FM) : M D := (mVar 6)
def t_l_open_term_2 (m_l_open_term : FM) : M Bool := (mB (mOp2 (fEq false) (mIx (mVar 9) (mPure (.int 2))) (mVar 3)))
def e_l_open_term_2 (m_l_open_term : FM) : M D := (mVar 9)
def t_l_open_term_3 (m_l_open_term : FM) : M Bool := (mB (mOp2 (fIn true) (mPure (.str "thing")) (mIx (mVar 9) (mPure (.int 1)))))
def e_l_open_term_3 (m_l_open_term : FM) : M D := (mVar 9)
def b_l_open_term_1 (m_l_open_term : FM) : M Res := (mSet 10 (mOp2 fAdd (mVar 10) (mTup (mCons (mV (mCall m_l_open_term (mArgS 0 (mArgV (mVar 1) (mArgV (mVar 2) (mArgV (mVar 7) (mArgS 4 (mPure [])))))))) mNil))))
def m_l_open_term : Nat → FM
  | 0 => fun _ => none
  | n + 1 => fnF 5 [0, 4] 11
      (mSeq (mSetIx 4 (mOp2 fSub (mIxL 4 (mPure (.int 0))) (mPure (.int 1))) (mPure (.int 0)))
      (mSeq (mSetO 5 (mMap .lst (mLc (mEnT (mCons (mVar 2) mNil)) cYes (gTup 2 (gCons (gN 6) (gCons (gN 7) gNil))) (t_l_open_term_1 (m_l_open_term n)) (e_l_open_term_1 (m_l_open_term n)) [6, 7])))
      (mSeq (mIf (mAnd (mB (mNilL true 5)) (mOr (mB (mOp2 fLt (mIxL 4 (mPure (.int 0))) (mPure (.int 0)))) (mB (mOp2 (fEq false) (mV (mCall m_l_take (mArgS 0 (mArgV (mPure (.int 3)) (mPure []))))) (mPure (.int 0)))))) (mRet (mV (mCall m_l_pick (mArgS 0 (mArgS 5 (mPure [])))))) (mPure .nx))
      (mSeq (mSetO 8 (mMap .lst (mCatFF (mListV (mIx (mVar 1) (mPure (.int 1)))) (mRepF (mListV (mIx (mVar 1) (mPure (.int 3)))) (mPure (.int 2))))))
      (mSeq (mIf (mB (mOp2 (fEq true) (mVar 3) (mPure (.str "thing")))) (mSeq (mSetO 8 (mMap .lst (mLc (mItT (mIx (mVar 1) (mPure (.int 2)))) cYes (gN 9) (t_l_open_term_2 (m_l_open_term n)) (e_l_open_term_2 (m_l_open_term n)) [9])))
      (mIf (mOr (mB (mNilL false 8)) (mOr (mB (mOp2 fLt (mIxL 4 (mPure (.int 0))) (mPure (.int 0)))) (mB (mOp2 (fEq false) (mV (mCall m_l_take (mArgS 0 (mArgV (mPure (.int 3)) (mPure []))))) (mPure (.int 0)))))) (mRet (mV (mCall m_l_pick (mArgS 0 (mArgV (mIxDict (mIx (mVar 1) (mPure (.int 0))) (mVar 3)) (mPure [])))))) (mPure .nx))) (mIf (mB (mOp2 fLt (mIxL 4 (mPure (.int 0))) (mPure (.int 0)))) (mSetO 8 (mMap .lst (mLc (mItT (mIx (mVar 1) (mPure (.int 1)))) cYes (gN 9) (t_l_open_term_3 (m_l_open_term n)) (e_l_open_term_3 (m_l_open_term n)) [9]))) (mPure .nx)))
      (mSeq (mSet 9 (mV (mCall m_l_pick (mArgS 0 (mArgS 8 (mPure []))))))
      (mSeq (mSet 10 (mTup (mCons (mIx (mVar 9) (mPure (.int 0))) mNil)))
      (mSeq (mFor (mItT (mIx (mVar 9) (mPure (.int 1)))) cYes (gN 7) (b_l_open_term_1 (m_l_open_term n)))
      (mRet (mVar 10))))))))))
def n_l_sorts_drawn : List Str := ["_law_hand_here", "_law_kind", "_law_most", "_law_row", "_law_k"]
def e_l_sorts_drawn_1 : M D := (mIx (mVar 3) (mPure (.int 0)))
def e_l_sorts_drawn_2 : M D := (mV (mCall m_l_pick (mArgS 0 (mArgN (mMap .lst (mCatFF (mLst (mCons (mPure (.str "thing")) mNil)) (mLc (mItT (mIx (mVar 1) (mPure (.int 0)))) cYes (gN 3) (mPure true) e_l_sorts_drawn_1 [3]))) (mPure [])))))
def m_l_sorts_drawn : FM := fnF 3 [0] 5
      (mRet (mTupF (mLc (mRng1 (mCons (mV (mCall m_l_take (mArgS 0 (mArgV (mOp2 fAdd (mVar 2) (mPure (.int 1))) (mPure []))))) mNil)) cYes (gN 4) (mPure true) e_l_sorts_drawn_2 [4])))
def n_l_written : List Str := ["_law_term", "_law_part"]
def e_l_written_1 (m_l_written : List D → Option D) : M D := (mCallP m_l_written (mCons (mVar 1) mNil))
def m_l_written : Nat → List D → Option D
  | 0 => fun _ => none
  | n + 1 => fnP 1 2
      (mSeq (mIf (mB (mCB fIsi (mCons (mVar 0) (mCons (mPure (.ty "tuple")) mNil)))) (mRet (mOp2 fAdd (mOp2 fAdd (mOp2 fAdd (mIx (mVar 0) (mPure (.int 0))) (mPure (.str "("))) (mJoinF (mPure (.str ", ")) (mLc (mItT (mSlT (mVar 0) (mPart (mPure (.int 1))) mNoPart)) cYes (gN 1) (mPure true) (e_l_written_1 (m_l_written n)) [1]))) (mPure (.str ")")))) (mPure .nx))
      (mRet (mIf (mB (mCB fIsi (mCons (mVar 0) (mCons (mPure (.ty "str")) mNil)))) (mVar 0) (mOp2 fAdd (mPure (.str "#")) (mCB fStrI (mCons (mVar 0) mNil))))))
def n_l_term_at : List Str := ["_law_text", "_law_signs", "_law_figures", "_law_word", "_law_rest", "_law_call", "_law_turn", "_law_found"]
def b_l_term_at_1 (m_l_term_at : List D → Option D) : M Res := (mSeq (mSet 7 (mCallP m_l_term_at (mCons (mVar 4) mNil)))
      (mSeq (mIf (mB (mIsN (mVar 7))) (mRet (mPure .non)) (mPure .nx))
      (mSeq (mPar [5, 4] (mArgV (mOp2 fAdd (mVar 5) (mTup (mCons (mIx (mVar 7) (mPure (.int 0))) mNil))) (mArgV (mIx (mVar 7) (mPure (.int 1))) (mPure []))))
      (mSeq (mIf (mB (mOp2 (fEq false) (mSlS (mVar 4) mNoPart (mPart (mPure (.int 1)))) (mPure (.str ")")))) (mRet (mTup (mCons (mVar 5) (mCons (mSlS (mVar 4) (mPart (mPure (.int 1))) mNoPart) mNil)))) (mPure .nx))
      (mSeq (mIf (mB (mOp2 (fEq true) (mSlS (mVar 4) mNoPart (mPart (mPure (.int 2)))) (mPure (.str ", ")))) (mRet (mPure .non)) (mPure .nx))
      (mSet 4 (mSlS (mVar 4) (mPart (mPure (.int 2))) mNoPart)))))))
def m_l_term_at : Nat → List D → Option D
  | 0 => fun _ => none
  | n + 1 => fnP 1 8
      (mSeq (mSet 1 (mPure (.str "abcdefghijklmnopqrstuvwxyz")))
      (mSeq (mIf (mB (mOp2 (fEq false) (mSlS (mVar 0) mNoPart (mPart (mPure (.int 1)))) (mPure (.str "#")))) (mSeq (mSet 2 (mSlS (mVar 0) (mPart (mPure (.int 1))) (mPart (mOp2 fSub (mCB fLen (mCons (mVar 0) mNil)) (mCB fLen (mCons (mLstrip (mSlS (mVar 0) (mPart (mPure (.int 1))) mNoPart) (mPure (.str "0123456789"))) mNil))))))
      (mSeq (mIf (mOr (mB (mOp2 (fEq false) (mVar 2) (mPure (.str "")))) (mOr (mB (mOp2 fGt (mCB fLen (mCons (mVar 2) mNil)) (mPure (.int 3)))) (mAnd (mB (mOp2 (fEq true) (mVar 2) (mPure (.str "0")))) (mB (mOp2 (fEq false) (mIx (mVar 2) (mPure (.int 0))) (mPure (.str "0"))))))) (mRet (mPure .non)) (mPure .nx))
      (mRet (mTup (mCons (mCB fIntV (mCons (mVar 2) mNil)) (mCons (mSlS (mVar 0) (mPart (mOp2 fAdd (mPure (.int 1)) (mCB fLen (mCons (mVar 2) mNil)))) mNoPart) mNil)))))) (mPure .nx))
      (mSeq (mSet 3 (mSlS (mVar 0) mNoPart (mPart (mOp2 fSub (mCB fLen (mCons (mVar 0) mNil)) (mCB fLen (mCons (mLstrip (mVar 0) (mVar 1)) mNil))))))
      (mSeq (mSet 4 (mSlS (mVar 0) (mPart (mCB fLen (mCons (mVar 3) mNil))) mNoPart))
      (mSeq (mIf (mNot (mB (mChain fLe fLe (mPure (.int 1)) (mCB fLen (mCons (mVar 3) mNil)) (mPure (.int 8))))) (mRet (mPure .non)) (mPure .nx))
      (mSeq (mIf (mB (mOp2 (fEq true) (mSlS (mVar 4) mNoPart (mPart (mPure (.int 1)))) (mPure (.str "(")))) (mRet (mTup (mCons (mVar 3) (mCons (mVar 4) mNil)))) (mPure .nx))
      (mSeq (mPar [5, 4] (mArgV (mTup (mCons (mVar 3) mNil)) (mArgV (mSlS (mVar 4) (mPart (mPure (.int 1))) mNoPart) (mPure []))))
      (mSeq (mIf (mB (mOp2 (fEq false) (mSlS (mVar 4) mNoPart (mPart (mPure (.int 1)))) (mPure (.str ")")))) (mRet (mTup (mCons (mVar 5) (mCons (mSlS (mVar 4) (mPart (mPure (.int 1))) mNoPart) mNil)))) (mPure .nx))
      (mSeq (mFor (mRng1 (mCons (mCB fLen (mCons (mVar 4) mNil)) mNil)) cYes (gN 6) (b_l_term_at_1 (m_l_term_at n)))
      (mRet (mPure .non)))))))))))
def n_l_term_of : List Str := ["_law_text", "_law_found"]
def m_l_term_of : List D → Option D := fnP 1 2
      (mSeq (mSet 1 (mCallP (m_l_term_at 60) (mCons (mVar 0) mNil)))
      (mRet (mFrz (mIf (mAnd (mB (mNotN (mVar 1))) (mB (mOp2 (fEq false) (mIx (mVar 1) (mPure (.int 1))) (mPure (.str ""))))) (mLst (mCons (mIx (mVar 1) (mPure (.int 0))) mNil)) (mLst mNil)))))
def n_l_text_bent : List Str := ["_law_hand_here", "_law_text", "_law_turn", "_law_at", "_law_signs", "_law_sign"]
def b_l_text_bent_1 : M Res := (mSeq (mSet 3 (mV (mCall m_l_take (mArgS 0 (mArgV (mOp2 fAdd (mCB fLen (mCons (mVar 1) mNil)) (mPure (.int 1))) (mPure []))))))
      (mSeq (mSetO 4 (mMap .lst (mLst (mCons (mPure (.str "")) (mCons (mPure (.str " ")) (mCons (mPure (.str ",")) (mCons (mPure (.str "(")) (mCons (mPure (.str ")")) (mCons (mPure (.str "#")) (mCons (mPure (.str "a")) (mCons (mPure (.str "z")) (mCons (mPure (.str "0")) (mCons (mPure (.str "12")) (mCons (mPure (.str ", ")) (mCons (mPure (.str "A")) (mCons (mPure (.str "-")) (mCons (mPure (.str "()")) (mCons (mPure (.str "thing")) (mCons (mPure (.str "\n")) (mCons (mPure (.str "=")) mNil))))))))))))))))))))
      (mSeq (mSet 5 (mV (mCall m_l_pick (mArgS 0 (mArgS 4 (mPure []))))))
      (mSet 1 (mOp2 fAdd (mOp2 fAdd (mSlS (mVar 1) mNoPart (mPart (mVar 3))) (mVar 5)) (mSlS (mVar 1) (mPart (mOp2 fAdd (mVar 3) (mV (mCall m_l_take (mArgS 0 (mArgV (mPure (.int 3)) (mPure []))))))) mNoPart))))))
def m_l_text_bent : FM := fnF 2 [0] 6
      (mSeq (mFor (mRng1 (mCons (mOp2 fAdd (mPure (.int 1)) (mV (mCall m_l_take (mArgS 0 (mArgV (mPure (.int 2)) (mPure [])))))) mNil)) cYes (gN 2) b_l_text_bent_1)
      (mRet (mVar 1)))
def n_l_told : List Str := ["_law_text", "error"]
def m_l_told : List D → Option D := fnP 1 2
      (mToldR m_p_read_term 1 (mCons (mVar 0) mNil))
def n_l_right : List Str := ["_law_text", "_law_due"]
def m_l_right : List D → Option D := fnP 1 2
      (mSeq (mSet 1 (mOrL (mCallP m_l_term_of (mCons (mVar 0) mNil)) (mTup (mCons (mPure (.int 0)) mNil))))
      (mRet (mOp2 (fEq false) (mCB fReprLV (mCons (mCallP m_l_told (mCons (mVar 0) mNil)) mNil)) (mCB fReprLV (mCons (mVar 1) mNil)))))
def n_law : List Str := ["_law_script", "_law_edges", "_law_k", "_law_hand_here", "_law_kind", "_law_turn", "_law_sorts", "_law_sort", "_law_row", "_law_text", "_law_some", "_law_again", "_law_one", "_law_signs", "_law_sign", "_law_thing"]
def e_law_1 : M D := (mIx (mVar 8) (mPure (.int 0)))
def e_law_2 : M D := (mV (mCall m_l_text_bent (mArgS 3 (mArgV (mVar 9) (mPure [])))))
def e_law_3 : M D := (mCallP m_l_right (mCons (mVar 12) mNil))
def b_law_1 : M Res := (mSeq (mSet 6 (mV (mCall m_l_sorts_drawn (mArgS 3 (mArgV (mVar 4) (mArgV (mPure (.int 12)) (mPure [])))))))
      (mSeq (mSet 7 (mV (mCall m_l_pick (mArgS 3 (mArgN (mMap .lst (mCatFF (mLst (mCons (mPure (.str "thing")) (mCons (mPure (.str "thing")) mNil))) (mLc (mItT (mIx (mVar 4) (mPure (.int 0)))) cYes (gN 8) (mPure true) e_law_1 [8]))) (mPure []))))))
      (mSeq (mSet 9 (mCallP (m_l_written 60) (mCons (mV (mCall (m_l_open_term 60) (mArgS 3 (mArgV (mVar 4) (mArgV (mVar 6) (mArgV (mVar 7) (mArgN (mMap .lst (mLst (mCons (mV (mCall m_l_take (mArgS 3 (mArgV (mPure (.int 9)) (mPure []))))) mNil))) (mPure [])))))))) mNil)))
      (mSeq (mSetO 10 (mMap .lst (mCatFF (mLst (mCons (mVar 9) mNil)) (mLc (mRng1 (mCons (mPure (.int 8)) mNil)) cYes (gN 11) (mPure true) e_law_2 [11]))))
      (mIf (mNot (mB (mAllF (mLc (mGetL 10) (cSlot 10) (gN 12) (mPure true) e_law_3 [12])))) (mRet (mPure (.bl false))) (mPure .nx))))))
def b_law_2 : M Res := (mSeq (mSetO 3 (mCall m_l_hand (mArgV (mVar 0) (mArgV (mVar 2) (mPure [])))))
      (mSeq (mSet 4 (mV (mCall m_l_bare_kind (mArgS 3 (mArgV (mPure (.int 3)) (mPure []))))))
      (mFor (mRng1 (mCons (mPure (.int 4)) mNil)) cYes (gN 5) b_law_1)))
def b_law_3 : M Res := (mSetO 1 (mMap .lst (mCatVF 1 (mLst (mCons (mOp2 fAdd (mPure (.str "#")) (mVar 14)) (mCons (mOp2 fAdd (mPure (.str "#1")) (mVar 14)) (mCons (mOp2 fAdd (mPure (.str "a")) (mVar 14)) (mCons (mOp2 fAdd (mVar 14) (mPure (.str "a"))) (mCons (mOp2 fAdd (mOp2 fAdd (mPure (.str "a(")) (mVar 14)) (mPure (.str ")"))) (mCons (mOp2 fAdd (mOp2 fAdd (mPure (.str "a(b")) (mVar 14)) (mPure (.str " c)"))) mNil))))))))))
def e_law_4 : M D := (mCallP m_l_right (mCons (mVar 12) mNil))
def e_law_5 : M D := (mOp2 (fEq false) (mCallP m_l_told (mCons (mVar 15) mNil)) (mTup (mCons (mPure (.int 0)) mNil)))
def m_law : List D → Option D := fnP 1 16
      (mSeq (mSetO 1 (mMap .lst (mLst (mCons (mPure (.str "")) (mCons (mPure (.str " ")) (mCons (mPure (.str "#")) (mCons (mPure (.str "#0")) (mCons (mPure (.str "#00")) (mCons (mPure (.str "#01")) (mCons (mPure (.str "#999")) (mCons (mPure (.str "#1000")) (mCons (mPure (.str "#-1")) (mCons (mPure (.str "a")) (mCons (mPure (.str "abcdefgh")) (mCons (mPure (.str "abcdefghi")) (mCons (mPure (.str "a()")) (mCons (mPure (.str "a( )")) mNil)))))))))))))))))
      (mSeq (mSetO 1 (mMap .lst (mCatVF 1 (mLst (mCons (mPure (.str "a(b,c)")) (mCons (mPure (.str "a(b, c)")) (mCons (mPure (.str "a(b,  c)")) (mCons (mPure (.str "a(b, c")) (mCons (mPure (.str "a(b, c))")) (mCons (mPure (.str "a(, b)")) (mCons (mPure (.str "a(b, )")) (mCons (mPure (.str "()")) (mCons (mPure (.str "(a)")) (mCons (mPure (.str "a()()")) mNil))))))))))))))
      (mSeq (mSetO 1 (mMap .lst (mCatVF 1 (mLst (mCons (mPure (.str "a() ")) (mCons (mPure (.str "#1()")) mNil))))))
      (mSeq (mFor (mRng1 (mCons (mCB fMax (mCons (mPure (.int 2)) (mCons (mCB fMin (mCons (mPure (.int 4)) (mCons (mCB fLen (mCons (mVar 0) mNil)) mNil))) mNil))) mNil)) cYes (gN 2) b_law_2)
      (mSeq (mSet 13 (mPure (.str " !\"#$&'()*+,-./0123456789:;<=>?@")))
      (mSeq (mSet 13 (mOp2 fAdd (mVar 13) (mPure (.str "ABCDEFGHIJKLMNOPQRSTUVWXYZ[\\]^_`abcdefghijklmnopqrstuvwxyz{|}~\n	"))))
      (mSeq (mFor (mItS (mVar 13)) cYes (gN 14) b_law_3)
      (mSeq (mIf (mNot (mB (mAllF (mLc (mGetL 1) (cSlot 1) (gN 12) (mPure true) e_law_4 [12])))) (mRet (mPure (.bl false))) (mPure .nx))
      (mRet (mAllF (mLc (mLst (mCons (mPure .non) (mCons (mPure (.int 0)) (mCons (mPure (.bl true)) (mCons (mTup (mCons (mPure (.str "a")) mNil)) (mCons (mFrz (mLst (mCons (mPure (.str "a")) mNil))) (mCons (mPure .edic) (mCons (mTup mNil) (mCons (mPure (.int 5)) mNil))))))))) cYes (gN 15) (mPure true) e_law_5 [15])))))))))))
end KX

namespace KX
open PySem PySem.Spec PyProof.Rows L2 DL FL NdefX LamX
def topS (i : Nat) : Stmt := PySem.Challenge.pw_lawkinds_k73_texts_of_no_terms.main.body.getD i (.Pass ⟨0, 0, 0, 0⟩)
def clsS (i j : Nat) : Stmt := match topS i with
  | .ClassDef _ _ _ b _ _ _ _ _ _ _ => b.getD j (.Pass ⟨0, 0, 0, 0⟩)
  | s => s
def nmT : Nat → Nat → Str := fun a b => ""
variable [Amb]
abbrev s_x_NoText : Stmt := clsS 4 0
theorem sc_x_NoText : FnScope ["self", "row"] ["self", "row"] (defScope s_x_NoText) :=
  ⟨rfl, rfl, rfl, by decide +kernel, rfl, by decide +kernel, by decide +kernel⟩
theorem c_x_NoText {P : Program} {w : World} {K : PySem.W.Frag} {mg : Str → Option Value} {base : Heap} {C CB fI : Addr} {fd : FuncData} (Fn : Fun K "__init__" "NoText.__init__" s_x_NoText fI fd) (gl : mg "NoText" = some (.ref C)) (oc : OexC K C) (hno : PySem.W.findIn K (.ref C) "row" = some none) (hi : PySem.W.findIn K (.ref C) "__init__" = some (some (.ref fI))) (ht : PySem.W.isFn K (.ref fI) = true) (bd : Binds K fd ["self", "row"] [])
    (gb : mg "KindError" = some (.ref CB)) (rd : ClX.CRead K CB (.type "type")) (vi : PySem.W.findCls K (.ref CB) (.type "type") "__init__" = some (.val (.builtin "ValueError.__init__"))) (mstr : mg "str" = none) : ExcI P w K mg base "NoText" "row" C :=
  excI Fn gl oc hno hi ht bd sc_x_NoText (by decide) fun cdv A outer s H E hr =>
    pss_cons (ps_expr (pe_keinit (by rfl) gb rd vi (pa_cons (pe_var rfl (.inl rfl)) (pa_cons (pe_op op_add_str pe_str (pe_callTy call_str_int (by rfl) mstr PyProof.Rows.Boot.«str» (pa_cons (pe_var rfl (.inl rfl)) pa_nil))) pa_nil)))) (pss_one (ps_ost (pe_var rfl (.inl rfl)) (pe_var rfl (.inl rfl))))
abbrev s_p_is_word : Stmt := topS 10
theorem sc_p_is_word : FnScope n_p_is_word ["thing"] (defScope s_p_is_word) :=
  ⟨rfl, rfl, rfl, by decide +kernel, rfl, by decide +kernel, by decide +kernel⟩
theorem c_p_is_word {P : Program} {w : World} {K : PySem.W.Frag} {mg : Str → Option Value} {base : Heap} {f : Addr} {fd : FuncData} (Fn : Fun K "is_word" "is_word" s_p_is_word f fd) (g : mg "is_word" = some (.ref f)) (bd : Binds K fd ["thing"] []) (B : BI mg) {tk_LETTERS : Tok} (T_LETTERS : mg "LETTERS" = some (.str "abcdefghijklmnopqrstuvwxyz" tk_LETTERS)) {tk_MOST_LETTERS : Tok} (T_MOST_LETTERS : mg "MOST_LETTERS" = some (.int 8 tk_MOST_LETTERS)) :
    DC P w K mg base 1 "is_word" ["thing"] (spP m_p_is_word) := by
  exact dcP Fn g bd sc_p_is_word (fun cdv A outer s H E hr => by
    have hv := hr.u64
    have hu := hr.hu
    exact (fss_cons (fs_if (ft_w (fw_or (ft_not (ft_val (fe_callB fc_isi (by rfl) (B.all "isinstance" (by decide)) PyProof.Rows.boot_isinstance (fa_cons (fe_var 0) (fa_cons (fe_c (de_gtype (by rfl) (B.all "str" (by decide)) PyProof.Rows.boot_str)) fa_nil))))) (fw_or1 (ft_not (ft_chain fo_le fo_le (fe_c de_int) (fe_callB fc_len (by rfl) (B.all "len" (by decide)) PySem.boot_len (fa_cons (fe_var 0) fa_nil)) (fe_c (de_gint (by rfl) T_MOST_LETTERS))))))) (fss_one (fs_ret (fe_c de_bl))) fss_nil)
      (fss_one (fs_ret (fe_allF rfl (by rfl) (B.all "all" (by decide)) (ff_lc rfl sc_p_is_word.nd (fi_str (fe_var 0)) (own := [("letter", 1)]) (show BlkOk n_p_is_word (defScope s_p_is_word) _ _ from ⟨rfl, by decide +kernel, by decide +kernel, by decide +kernel, by decide +kernel⟩) (fun _ _ _ _ _ => (fg_name (i := 1) sc_p_is_word.nd rfl (.inl rfl))) (fun _ _ _ _ _ => fts_nil) (fun _ _ _ _ _ => (fe_cmp fo_inS (fe_var 1) (fe_c (de_gstr (by rfl) T_LETTERS))))))))))
abbrev s_p_stretch_of : Stmt := topS 14
theorem sc_p_stretch_of : FnScope n_p_stretch_of ["text", "place", "signs"] (defScope s_p_stretch_of) :=
  ⟨rfl, rfl, rfl, by decide +kernel, rfl, by decide +kernel, by decide +kernel⟩
theorem c_p_stretch_of {P : Program} {w : World} {K : PySem.W.Frag} {mg : Str → Option Value} {base : Heap} {f : Addr} {fd : FuncData} (Fn : Fun K "stretch_of" "stretch_of" s_p_stretch_of f fd) (g : mg "stretch_of" = some (.ref f)) (bd : Binds K fd ["text", "place", "signs"] []) (B : BI mg) :
    DC P w K mg base 1 "stretch_of" ["text", "place", "signs"] (spP m_p_stretch_of) := by
  exact dcP Fn g bd sc_p_stretch_of (fun cdv A outer s H E hr => by
    have hv := hr.u64
    have hu := hr.hu
    exact (fss_cons (fs_set (i := 3) sc_p_stretch_of.nd rfl (.inl rfl) (fe_var 1))
      (fss_cons (fs_while FUEL PassesOwn.never (ft_w (fw_and (ft_cmp fo_lt (fe_var 3) (fe_callB fc_len (by rfl) (B.all "len" (by decide)) PySem.boot_len (fa_cons (fe_var 0) fa_nil))) (fw_and1 (ft_cmp fo_inS (fe_ix hu (fe_var 0) (fe_var 3)) (fe_var 2))))) (fss_one (fs_aug (i := 3) sc_p_stretch_of.nd rfl (.inl rfl) (fe_c de_int))))
      (fss_one (fs_ret (fe_slS (fe_var 0) (fpo_some (fe_var 1)) (fpo_some (fe_var 3))))))))
abbrev s_p_is_number : Stmt := topS 15
theorem sc_p_is_number : FnScope n_p_is_number ["figures"] (defScope s_p_is_number) :=
  ⟨rfl, rfl, rfl, by decide +kernel, rfl, by decide +kernel, by decide +kernel⟩
theorem c_p_is_number {P : Program} {w : World} {K : PySem.W.Frag} {mg : Str → Option Value} {base : Heap} {f : Addr} {fd : FuncData} (Fn : Fun K "is_number" "is_number" s_p_is_number f fd) (g : mg "is_number" = some (.ref f)) (bd : Binds K fd ["figures"] []) (B : BI mg) {tk_MOST_FIGURES : Tok} (T_MOST_FIGURES : mg "MOST_FIGURES" = some (.int 3 tk_MOST_FIGURES)) :
    DC P w K mg base 1 "is_number" ["figures"] (spP m_p_is_number) := by
  exact dcP Fn g bd sc_p_is_number (fun cdv A outer s H E hr => by
    have hv := hr.u64
    have hu := hr.hu
    exact (fss_one (fs_ret (fe_and (fe_chain fo_le fo_le (fe_c de_int) (fe_callB fc_len (by rfl) (B.all "len" (by decide)) PySem.boot_len (fa_cons (fe_var 0) fa_nil)) (fe_c (de_gint (by rfl) T_MOST_FIGURES))) (fe_one (fe_orT (fe_cmp (fo_eq hv) (fe_var 0) (fe_c de_str)) (fe_one (fe_cmp (fo_ne hv) (fe_ix hu (fe_var 0) (fe_c de_int)) (fe_c de_str)))))))))
abbrev s_p_TermReader___init__ : Stmt := clsS 16 0
theorem sc_p_TermReader___init__ : FnScope n_p_TermReader___init__ ["self", "text"] (defScope s_p_TermReader___init__) :=
  ⟨rfl, rfl, rfl, by decide +kernel, rfl, by decide +kernel, by decide +kernel⟩
theorem c_p_TermReader___init__ {P : Program} {w : World} {K : PySem.W.Frag} {mg : Str → Option Value} {base : Heap} {f : Addr} {fd : FuncData} (Fn : Fun K "__init__" "TermReader.__init__" s_p_TermReader___init__ f fd) (g : Mk K (Amb.cls "TermReader") f) (gl : mg "TermReader" = some (.ref (Amb.cls "TermReader"))) (bd : Binds K fd ["self", "text"] []) (B : BI mg) (KC_TermReader : Cls K (Amb.cls "TermReader")) (NA_TermReader_text : NoAttr K (Amb.cls "TermReader") "text") (NA_TermReader_spot : NoAttr K (Amb.cls "TermReader") "spot") (NA_TermReader_begun : NoAttr K (Amb.cls "TermReader") "begun") (NA_TermReader_ended : NoAttr K (Amb.cls "TermReader") "ended") :
    KC P w K mg base 1 "TermReader" ["self", "text"] m_p_TermReader___init__ := by
  refine kcF (io := [0]) Fn g gl bd sc_p_TermReader___init__ ?hio (fun cdv A outer s H E hr => by
    have hv := hr.u64
    have hu := hr.hu
    exact (fss_cons (fs_fld KC_TermReader NA_TermReader_text (de_var 0) (fe_var 1))
      (fss_cons (fs_fld KC_TermReader NA_TermReader_spot (de_var 0) (fe_c de_int))
      (fss_cons (fs_fldO KC_TermReader NA_TermReader_begun (de_var 0) fo_newLs)
      (fss_one (fs_fld KC_TermReader NA_TermReader_ended (de_var 0) (fe_c de_non)))))))
  case hio => decide
abbrev s_p_TermReader_begin : Stmt := clsS 16 1
theorem sc_p_TermReader_begin : FnScope n_p_TermReader_begin ["self"] (defScope s_p_TermReader_begin) :=
  ⟨rfl, rfl, rfl, by decide +kernel, rfl, by decide +kernel, by decide +kernel⟩
theorem c_p_TermReader_begin {P : Program} {w : World} {K : PySem.W.Frag} {mg : Str → Option Value} {base : Heap} {f : Addr} {fd : FuncData} (Fn : Fun K "begin" "TermReader.begin" s_p_TermReader_begin f fd) (g : Meth K (Amb.cls "TermReader") "begin" f) (bd : Binds K fd ["self"] []) (B : BI mg) (KC_TermReader : Cls K (Amb.cls "TermReader")) (NA_TermReader_text : NoAttr K (Amb.cls "TermReader") "text") (NA_TermReader_spot : NoAttr K (Amb.cls "TermReader") "spot") (NA_TermReader_begun : NoAttr K (Amb.cls "TermReader") "begun") (NA_TermReader_ended : NoAttr K (Amb.cls "TermReader") "ended") (C_p_stretch_of : DC P w K mg base 1 "stretch_of" ["text", "place", "signs"] (spP m_p_stretch_of)) (C_p_is_number : DC P w K mg base 1 "is_number" ["figures"] (spP m_p_is_number)) (C_p_is_word : DC P w K mg base 1 "is_word" ["thing"] (spP m_p_is_word)) (C_p_TermReader_close : MC P w K mg base 1 "TermReader" "close" ["self"] m_p_TermReader_close) {tk_FIGURES : Tok} (T_FIGURES : mg "FIGURES" = some (.str "0123456789" tk_FIGURES)) {tk_LETTERS : Tok} (T_LETTERS : mg "LETTERS" = some (.str "abcdefghijklmnopqrstuvwxyz" tk_LETTERS)) :
    MC P w K mg base 2 "TermReader" "begin" ["self"] m_p_TermReader_begin := by
  refine mcF (io := [0]) Fn g bd sc_p_TermReader_begin ?hio (fun cdv A outer s H E hr => by
    have hv := hr.u64
    have hu := hr.hu
    exact (fss_cons (fs_if (ft_cmp (fo_eq hv) (fe_ix hu (fe_fld KC_TermReader NA_TermReader_text (de_var 0)) (fe_fld KC_TermReader NA_TermReader_spot (de_var 0))) (fe_c de_str)) (fss_cons (fs_set (i := 1) sc_p_TermReader_begin.nd rfl (.inl rfl) (fe_callP C_p_stretch_of (hr.mono (by decide)) (by rfl) (fa_cons (fe_fld KC_TermReader NA_TermReader_text (de_var 0)) (fa_cons (fe_bin fo_add (fe_fld KC_TermReader NA_TermReader_spot (de_var 0)) (fe_c de_int)) (fa_cons (fe_c (de_gstr (by rfl) T_FIGURES)) fa_nil)))))
      (fss_cons (fs_if (ft_not (ft_val (fe_callP C_p_is_number (hr.mono (by decide)) (by rfl) (fa_cons (fe_var 1) fa_nil)))) (fss_one (fs_ret (fe_c de_bl))) fss_nil)
      (fss_cons (fs_augF KC_TermReader NA_TermReader_spot (de_var 0) (fe_bin fo_add (fe_c de_int) (fe_callB fc_len (by rfl) (B.all "len" (by decide)) PySem.boot_len (fa_cons (fe_var 1) fa_nil))))
      (fss_cons (fs_fld KC_TermReader NA_TermReader_ended (de_var 0) (fe_callTy fc_intV (by rfl) (B.all "int" (by decide)) PyProof.Rows.boot_int (fa_cons (fe_var 1) fa_nil)))
      (fss_one (fs_ret (fe_c de_bl))))))) fss_nil)
      (fss_cons (fs_set (i := 2) sc_p_TermReader_begin.nd rfl (.inl rfl) (fe_callP C_p_stretch_of (hr.mono (by decide)) (by rfl) (fa_cons (fe_fld KC_TermReader NA_TermReader_text (de_var 0)) (fa_cons (fe_fld KC_TermReader NA_TermReader_spot (de_var 0)) (fa_cons (fe_c (de_gstr (by rfl) T_LETTERS)) fa_nil)))))
      (fss_cons (fs_if (ft_not (ft_val (fe_callP C_p_is_word (hr.mono (by decide)) (by rfl) (fa_cons (fe_var 2) fa_nil)))) (fss_one (fs_ret (fe_c de_bl))) fss_nil)
      (fss_cons (fs_augF KC_TermReader NA_TermReader_spot (de_var 0) (fe_callB fc_len (by rfl) (B.all "len" (by decide)) PySem.boot_len (fa_cons (fe_var 2) fa_nil)))
      (fss_cons (fs_if (ft_cmp (fo_ne hv) (fe_slS (fe_fld KC_TermReader NA_TermReader_text (de_var 0)) (fpo_some (fe_fld KC_TermReader NA_TermReader_spot (de_var 0))) (fpo_some (fe_bin fo_add (fe_fld KC_TermReader NA_TermReader_spot (de_var 0)) (fe_c de_int)))) (fe_c de_str)) (fss_cons (fs_fld KC_TermReader NA_TermReader_ended (de_var 0) (fe_var 2))
      (fss_one (fs_ret (fe_c de_bl)))) fss_nil)
      (fss_cons (fs_expr (fe_appN KC_TermReader NA_TermReader_begun (de_var 0) (fo_new (ff_lst (fa_cons (fe_var 2) fa_nil)))))
      (fss_cons (fs_augF KC_TermReader NA_TermReader_spot (de_var 0) (fe_c de_int))
      (fss_cons (fs_if (ft_cmp (fo_eq hv) (fe_slS (fe_fld KC_TermReader NA_TermReader_text (de_var 0)) (fpo_some (fe_fld KC_TermReader NA_TermReader_spot (de_var 0))) (fpo_some (fe_bin fo_add (fe_fld KC_TermReader NA_TermReader_spot (de_var 0)) (fe_c de_int)))) (fe_c de_str)) (fss_one (fs_expr (fe_V (fo_meth0 C_p_TermReader_close (hr.mono (by decide)) KC_TermReader (de_var 0))))) fss_nil)
      (fss_one (fs_ret (fe_c de_bl))))))))))))
  case hio => decide
abbrev s_p_TermReader_close : Stmt := clsS 16 2
theorem sc_p_TermReader_close : FnScope n_p_TermReader_close ["self"] (defScope s_p_TermReader_close) :=
  ⟨rfl, rfl, rfl, by decide +kernel, rfl, by decide +kernel, by decide +kernel⟩
theorem c_p_TermReader_close {P : Program} {w : World} {K : PySem.W.Frag} {mg : Str → Option Value} {base : Heap} {f : Addr} {fd : FuncData} (Fn : Fun K "close" "TermReader.close" s_p_TermReader_close f fd) (g : Meth K (Amb.cls "TermReader") "close" f) (bd : Binds K fd ["self"] []) (B : BI mg) (KC_TermReader : Cls K (Amb.cls "TermReader")) (NA_TermReader_text : NoAttr K (Amb.cls "TermReader") "text") (NA_TermReader_spot : NoAttr K (Amb.cls "TermReader") "spot") (NA_TermReader_begun : NoAttr K (Amb.cls "TermReader") "begun") (NA_TermReader_ended : NoAttr K (Amb.cls "TermReader") "ended") :
    MC P w K mg base 1 "TermReader" "close" ["self"] m_p_TermReader_close := by
  refine mcF (io := [0]) Fn g bd sc_p_TermReader_close ?hio (fun cdv A outer s H E hr => by
    have hv := hr.u64
    have hu := hr.hu
    exact (fss_cons (fs_fld KC_TermReader NA_TermReader_ended (de_var 0) (fe_tupPop (by rfl) (B.all "tuple" (by decide)) KC_TermReader NA_TermReader_begun (de_var 0)))
      (fss_one (fs_augF KC_TermReader NA_TermReader_spot (de_var 0) (fe_c de_int)))))
  case hio => decide
abbrev s_p_TermReader_go_on : Stmt := clsS 16 3
theorem sc_p_TermReader_go_on : FnScope n_p_TermReader_go_on ["self"] (defScope s_p_TermReader_go_on) :=
  ⟨rfl, rfl, rfl, by decide +kernel, rfl, by decide +kernel, by decide +kernel⟩
theorem c_p_TermReader_go_on {P : Program} {w : World} {K : PySem.W.Frag} {mg : Str → Option Value} {base : Heap} {f : Addr} {fd : FuncData} (Fn : Fun K "go_on" "TermReader.go_on" s_p_TermReader_go_on f fd) (g : Meth K (Amb.cls "TermReader") "go_on" f) (bd : Binds K fd ["self"] []) (B : BI mg) (KC_TermReader : Cls K (Amb.cls "TermReader")) (NA_TermReader_text : NoAttr K (Amb.cls "TermReader") "text") (NA_TermReader_spot : NoAttr K (Amb.cls "TermReader") "spot") (NA_TermReader_begun : NoAttr K (Amb.cls "TermReader") "begun") (NA_TermReader_ended : NoAttr K (Amb.cls "TermReader") "ended") (C_p_TermReader_close : MC P w K mg base 1 "TermReader" "close" ["self"] m_p_TermReader_close) :
    MC P w K mg base 2 "TermReader" "go_on" ["self"] m_p_TermReader_go_on := by
  refine mcF (io := [0]) Fn g bd sc_p_TermReader_go_on ?hio (fun cdv A outer s H E hr => by
    have hv := hr.u64
    have hu := hr.hu
    exact (fss_cons (fs_if (ft_cmp (fo_eq hv) (fe_lenF (by rfl) (B.all "len" (by decide)) KC_TermReader NA_TermReader_begun (de_var 0)) (fe_c de_int)) (fss_one (fs_ret (fe_c de_bl))) fss_nil)
      (fss_cons (fs_expr (fe_appLast hu KC_TermReader NA_TermReader_begun (de_var 0) (fr_fld KC_TermReader NA_TermReader_ended (de_var 0))))
      (fss_cons (fs_if (ft_cmp (fo_eq hv) (fe_ix hu (fe_fld KC_TermReader NA_TermReader_text (de_var 0)) (fe_fld KC_TermReader NA_TermReader_spot (de_var 0))) (fe_c de_str)) (fss_cons (fs_expr (fe_V (fo_meth0 C_p_TermReader_close (hr.mono (by decide)) KC_TermReader (de_var 0))))
      (fss_one (fs_ret (fe_c de_bl)))) fss_nil)
      (fss_cons (fs_fld KC_TermReader NA_TermReader_ended (de_var 0) (fe_c de_non))
      (fss_cons (fs_augF KC_TermReader NA_TermReader_spot (de_var 0) (fe_c de_int))
      (fss_one (fs_ret (fe_cmp (fo_eq hv) (fe_slS (fe_fld KC_TermReader NA_TermReader_text (de_var 0)) (fpo_some (fe_bin fo_sub (fe_fld KC_TermReader NA_TermReader_spot (de_var 0)) (fe_c de_int))) (fpo_some (fe_fld KC_TermReader NA_TermReader_spot (de_var 0)))) (fe_c de_str))))))))))
  case hio => decide
abbrev s_p_TermReader_whole_term : Stmt := clsS 16 4
theorem sc_p_TermReader_whole_term : FnScope n_p_TermReader_whole_term ["self"] (defScope s_p_TermReader_whole_term) :=
  ⟨rfl, rfl, rfl, by decide +kernel, rfl, by decide +kernel, by decide +kernel⟩
theorem c_p_TermReader_whole_term {P : Program} {w : World} {K : PySem.W.Frag} {mg : Str → Option Value} {base : Heap} {f : Addr} {fd : FuncData} (Fn : Fun K "whole_term" "TermReader.whole_term" s_p_TermReader_whole_term f fd) (g : Meth K (Amb.cls "TermReader") "whole_term" f) (bd : Binds K fd ["self"] []) (B : BI mg) (KC_TermReader : Cls K (Amb.cls "TermReader")) (NA_TermReader_text : NoAttr K (Amb.cls "TermReader") "text") (NA_TermReader_spot : NoAttr K (Amb.cls "TermReader") "spot") (NA_TermReader_begun : NoAttr K (Amb.cls "TermReader") "begun") (NA_TermReader_ended : NoAttr K (Amb.cls "TermReader") "ended") (C_p_TermReader_begin : MC P w K mg base 2 "TermReader" "begin" ["self"] m_p_TermReader_begin) (C_p_TermReader_go_on : MC P w K mg base 2 "TermReader" "go_on" ["self"] m_p_TermReader_go_on) :
    MC P w K mg base 3 "TermReader" "whole_term" ["self"] m_p_TermReader_whole_term := by
  refine mcF (io := [0]) Fn g bd sc_p_TermReader_whole_term ?hio (fun cdv A outer s H E hr => by
    have hv := hr.u64
    have hu := hr.hu
    exact (fss_cons (fs_while FUEL PassesOwn.never (ft_cmp fo_lt (fe_fld KC_TermReader NA_TermReader_spot (de_var 0)) (fe_callB fc_len (by rfl) (B.all "len" (by decide)) PySem.boot_len (fa_cons (fe_fld KC_TermReader NA_TermReader_text (de_var 0)) fa_nil))) (fss_cons (fs_set (i := 1) sc_p_TermReader_whole_term.nd rfl (.inl rfl) (fe_if (ft_isN (fe_fld KC_TermReader NA_TermReader_ended (de_var 0))) (fe_V (fo_meth0 C_p_TermReader_begin (hr.mono (by decide)) KC_TermReader (de_var 0))) (fe_V (fo_meth0 C_p_TermReader_go_on (hr.mono (by decide)) KC_TermReader (de_var 0)))))
      (fss_one (fs_if (ft_not (ft_val (fe_var 1))) (fss_one (fs_ret (fe_c de_non))) fss_nil))))
      (fss_one (fs_ret (fe_if (ft_cmp (fo_eq hv) (fe_lenF (by rfl) (B.all "len" (by decide)) KC_TermReader NA_TermReader_begun (de_var 0)) (fe_c de_int)) (fe_fld KC_TermReader NA_TermReader_ended (de_var 0)) (fe_c de_non))))))
  case hio => decide
abbrev s_p_term_in : Stmt := topS 17
theorem sc_p_term_in : FnScope n_p_term_in ["text"] (defScope s_p_term_in) :=
  ⟨rfl, rfl, rfl, by decide +kernel, rfl, by decide +kernel, by decide +kernel⟩
theorem c_p_term_in {P : Program} {w : World} {K : PySem.W.Frag} {mg : Str → Option Value} {base : Heap} {f : Addr} {fd : FuncData} (Fn : Fun K "term_in" "term_in" s_p_term_in f fd) (g : mg "term_in" = some (.ref f)) (bd : Binds K fd ["text"] []) (B : BI mg) (KC_TermReader : Cls K (Amb.cls "TermReader")) (NA_TermReader_text : NoAttr K (Amb.cls "TermReader") "text") (NA_TermReader_spot : NoAttr K (Amb.cls "TermReader") "spot") (NA_TermReader_begun : NoAttr K (Amb.cls "TermReader") "begun") (NA_TermReader_ended : NoAttr K (Amb.cls "TermReader") "ended") (C_p_TermReader_whole_term : MC P w K mg base 3 "TermReader" "whole_term" ["self"] m_p_TermReader_whole_term) (C_p_TermReader___init__ : KC P w K mg base 1 "TermReader" ["self", "text"] m_p_TermReader___init__) :
    DC P w K mg base 4 "term_in" ["text"] (spP m_p_term_in) := by
  exact dcP Fn g bd sc_p_term_in (fun cdv A outer s H E hr => by
    have hv := hr.u64
    have hu := hr.hu
    exact (fss_one (fs_ret (fe_V (fo_methN0 C_p_TermReader_whole_term (hr.mono (by decide)) KC_TermReader (fo_make C_p_TermReader___init__ (hr.mono (by decide)) (by rfl) (fl_v (fe_var 0) fl_nil)))))))
abbrev s_p_read_term : Stmt := topS 18
theorem sc_p_read_term : FnScope n_p_read_term ["text"] (defScope s_p_read_term) :=
  ⟨rfl, rfl, rfl, by decide +kernel, rfl, by decide +kernel, by decide +kernel⟩
theorem c_p_read_term {P : Program} {w : World} {K : PySem.W.Frag} {mg : Str → Option Value} {base : Heap} {f : Addr} {fd : FuncData} (Fn : Fun K "read_term" "read_term" s_p_read_term f fd) (g : mg "read_term" = some (.ref f)) (bd : Binds K fd ["text"] []) (B : BI mg) (XD_NoText : ExcI P w K mg base "NoText" "row" (Amb.cls "NoText")) (C_p_term_in : DC P w K mg base 4 "term_in" ["text"] (spP m_p_term_in)) :
    XC P w K mg base 5 "read_term" ["text"] "NoText" "row" m_p_read_term := by
  exact xcP Fn g bd sc_p_read_term (fun cdv A outer s H E S0 H0 X0 hr wk => by
    have hv := hr.u64
    have hu := hr.hu
    exact (fssl_cons (fsl_if (ft_not (ft_val (fe_callB fc_isi (by rfl) (B.all "isinstance" (by decide)) PyProof.Rows.boot_isinstance (fa_cons (fe_var 0) (fa_cons (fe_c (de_gtype (by rfl) (B.all "str" (by decide)) PyProof.Rows.boot_str)) fa_nil))))) (fssl_one (fsl_raiseI rfl (takes_of rfl rfl rfl rfl) wk XD_NoText (hr.mono (by decide)) (by rfl) (fe_c de_int))) fssl_nil)
      (fssl_cons (fsl_calm (fs_set (i := 1) sc_p_read_term.nd rfl (.inl rfl) (fe_callP C_p_term_in (hr.mono (by decide)) (by rfl) (fa_cons (fe_var 0) fa_nil))))
      (fssl_cons (fsl_if (ft_isN (fe_var 1)) (fssl_one (fsl_raiseI rfl (takes_of rfl rfl rfl rfl) wk XD_NoText (hr.mono (by decide)) (by rfl) (fe_c de_int))) fssl_nil)
      (fssl_one (fsl_calm (fs_ret (fe_var 1))))))))
abbrev s_l_hand : Stmt := topS 20
theorem sc_l_hand : FnScope n_l_hand ["_law_script", "_law_k"] (defScope s_l_hand) :=
  ⟨rfl, rfl, rfl, by decide +kernel, rfl, by decide +kernel, by decide +kernel⟩
theorem c_l_hand {P : Program} {w : World} {K : PySem.W.Frag} {mg : Str → Option Value} {base : Heap} {f : Addr} {fd : FuncData} (Fn : Fun K "_law_hand" "_law_hand" s_l_hand f fd) (g : mg "_law_hand" = some (.ref f)) (bd : Binds K fd ["_law_script", "_law_k"] []) (B : BI mg) :
    FC P w K mg base 1 "_law_hand" ["_law_script", "_law_k"] m_l_hand := by
  refine dcF (io := []) Fn g bd sc_l_hand ?hio (fun cdv A outer s H E hr => by
    have hv := hr.u64
    have hu := hr.hu
    exact (fss_cons (fs_set (i := 2) sc_l_hand.nd rfl (.inl rfl) (fe_c de_int))
      (fss_cons (fs_if (ft_cmp fo_lt (fe_var 1) (fe_callB fc_len (by rfl) (B.all "len" (by decide)) PySem.boot_len (fa_cons (fe_var 0) fa_nil))) (fss_one (fs_set (i := 2) sc_l_hand.nd rfl (.inl rfl) (fe_ix hu (fe_var 0) (fe_var 1)))) fss_nil)
      (fss_cons (fs_set (i := 3) sc_l_hand.nd rfl (.inl rfl) (fe_bin fo_mul (fe_bin fo_mod (fe_var 2) (fe_bin fo_mul (fe_bin fo_pow (fe_c de_int) (fe_c de_int)) (fe_bin fo_pow (fe_c de_int) (fe_c de_int)))) (fe_callTy fc_int (by rfl) (B.all "int" (by decide)) PyProof.Rows.boot_int (fa_cons (fe_cmp fo_ge (fe_var 2) (fe_bin fo_pow (fe_c de_int) (fe_c de_int))) fa_nil))))
      (fss_one (fs_retO (fo_new (ff_lst (fa_cons (fe_var 3) (fa_cons (fe_bin fo_mod (fe_bin fo_add (fe_bin fo_add (fe_bin fo_mod (fe_var 2) (fe_c de_int)) (fe_bin fo_mul (fe_c de_int) (fe_var 1))) (fe_c de_int)) (fe_c de_int)) (fa_cons (fe_c de_int) fa_nil)))))))))))
  case hio => decide
abbrev s_l_take : Stmt := topS 21
theorem sc_l_take : FnScope n_l_take ["_law_hand_here", "_law_many"] (defScope s_l_take) :=
  ⟨rfl, rfl, rfl, by decide +kernel, rfl, by decide +kernel, by decide +kernel⟩
theorem c_l_take {P : Program} {w : World} {K : PySem.W.Frag} {mg : Str → Option Value} {base : Heap} {f : Addr} {fd : FuncData} (Fn : Fun K "_law_take" "_law_take" s_l_take f fd) (g : mg "_law_take" = some (.ref f)) (bd : Binds K fd ["_law_hand_here", "_law_many"] []) (B : BI mg) :
    FC P w K mg base 1 "_law_take" ["_law_hand_here", "_law_many"] m_l_take := by
  refine dcF (io := [0]) Fn g bd sc_l_take ?hio (fun cdv A outer s H E hr => by
    have hv := hr.u64
    have hu := hr.hu
    exact (fss_cons (fs_if (ft_cmp fo_gt (fe_ixL hu (de_var 0) (fe_c de_int)) (fe_c de_int)) (fss_cons (fs_set (i := 2) sc_l_take.nd rfl (.inl rfl) (fe_bin fo_mod (fe_ixL hu (de_var 0) (fe_c de_int)) (fe_var 1)))
      (fss_cons (fs_setIx hu (fe_bin fo_div (fe_ixL hu (de_var 0) (fe_c de_int)) (fe_var 1)) (de_var 0) (fe_c de_int))
      (fss_one (fs_ret (fe_var 2))))) fss_nil)
      (fss_cons (fs_setIx hu (fe_bin fo_add (fe_ixL hu (de_var 0) (fe_c de_int)) (fe_c de_int)) (de_var 0) (fe_c de_int))
      (fss_cons (fs_set (i := 3) sc_l_take.nd rfl (.inl rfl) (fe_bin fo_mod (fe_bin fo_mul (fe_bin fo_add (fe_bin fo_add (fe_ixL hu (de_var 0) (fe_c de_int)) (fe_bin fo_mul (fe_bin fo_mul (fe_c de_int) (fe_ixL hu (de_var 0) (fe_c de_int))) (fe_ixL hu (de_var 0) (fe_c de_int)))) (fe_c de_int)) (fe_c de_int)) (fe_c de_int)))
      (fss_cons (fs_set (i := 3) sc_l_take.nd rfl (.inl rfl) (fe_bin fo_mod (fe_bin fo_mul (fe_var 3) (fe_bin fo_add (fe_bin fo_mod (fe_var 3) (fe_c de_int)) (fe_bin fo_mul (fe_c de_int) (fe_ixL hu (de_var 0) (fe_c de_int))))) (fe_c de_int)))
      (fss_one (fs_ret (fe_bin fo_mod (fe_bin fo_add (fe_bin fo_div (fe_var 3) (fe_c de_int)) (fe_bin fo_div (fe_var 3) (fe_c de_int))) (fe_var 1)))))))))
  case hio => decide
abbrev s_l_pick : Stmt := topS 22
theorem sc_l_pick : FnScope n_l_pick ["_law_hand_here", "_law_some"] (defScope s_l_pick) :=
  ⟨rfl, rfl, rfl, by decide +kernel, rfl, by decide +kernel, by decide +kernel⟩
theorem c_l_pick {P : Program} {w : World} {K : PySem.W.Frag} {mg : Str → Option Value} {base : Heap} {f : Addr} {fd : FuncData} (Fn : Fun K "_law_pick" "_law_pick" s_l_pick f fd) (g : mg "_law_pick" = some (.ref f)) (bd : Binds K fd ["_law_hand_here", "_law_some"] []) (B : BI mg) (C_l_take : FC P w K mg base 1 "_law_take" ["_law_hand_here", "_law_many"] m_l_take) :
    FC P w K mg base 2 "_law_pick" ["_law_hand_here", "_law_some"] m_l_pick := by
  refine dcF (io := [0, 1]) Fn g bd sc_l_pick ?hio (fun cdv A outer s H E hr => by
    have hv := hr.u64
    have hu := hr.hu
    exact (fss_one (fs_ret (fe_ixA hu (de_var 1) (fe_call C_l_take (hr.mono (by decide)) (by rfl) (fl_s (de_var 0) (fl_v (fe_lenA (by rfl) (B.all "len" (by decide)) (de_var 1)) fl_nil)))))))
  case hio => decide
abbrev s_l_words : Stmt := topS 23
theorem sc_l_words : FnScope n_l_words ["_law_hand_here", "_law_many"] (defScope s_l_words) :=
  ⟨rfl, rfl, rfl, by decide +kernel, rfl, by decide +kernel, by decide +kernel⟩
theorem c_l_words {P : Program} {w : World} {K : PySem.W.Frag} {mg : Str → Option Value} {base : Heap} {f : Addr} {fd : FuncData} (Fn : Fun K "_law_words" "_law_words" s_l_words f fd) (g : mg "_law_words" = some (.ref f)) (bd : Binds K fd ["_law_hand_here", "_law_many"] []) (B : BI mg) (C_l_take : FC P w K mg base 1 "_law_take" ["_law_hand_here", "_law_many"] m_l_take) (C_l_pick : FC P w K mg base 2 "_law_pick" ["_law_hand_here", "_law_some"] m_l_pick) :
    FC P w K mg base 3 "_law_words" ["_law_hand_here", "_law_many"] m_l_words := by
  refine dcF (io := [0]) Fn g bd sc_l_words ?hio (fun cdv A outer s H E hr => by
    have hv := hr.u64
    have hu := hr.hu
    exact (fss_cons (fs_set (i := 2) sc_l_words.nd rfl (.inl rfl) (fe_c de_str))
      (fss_cons (fs_par2 (i := 3) (j := 4) rfl sc_l_words.nd (fl_v (fe_call C_l_take (hr.mono (by decide)) (by rfl) (fl_s (de_var 0) (fl_v (fe_c de_int) fl_nil))) (fl_v (fe_call C_l_pick (hr.mono (by decide)) (by rfl) (fl_s (de_var 0) (fl_n (fo_new (ff_lst (fa_cons (fe_c de_int) (fa_cons (fe_c de_int) (fa_cons (fe_c de_int) (fa_cons (fe_c de_int) (fa_cons (fe_c de_int) (fa_cons (fe_c de_int) fa_nil)))))))) fl_nil))) fl_nil)))
      (fss_cons (fs_setO (i := 5) sc_l_words.nd rfl (.inl rfl) (fo_new (ff_lst fa_nil)))
      (fss_cons (fs_for PassesOwn.never rfl (fi_range1 (by rfl) (B.all "range" (by decide)) (fa_cons (fe_var 1) fa_nil)) (fg_name (i := 6) sc_l_words.nd rfl (.inl rfl)) (fss_cons (fs_set (i := 7) sc_l_words.nd rfl (.inl rfl) (fe_ix hu (fe_var 2) (fe_bin fo_mod (fe_bin fo_add (fe_var 3) (fe_bin fo_mul (fe_var 4) (fe_var 6))) (fe_c de_int))))
      (fss_one (fs_if (ft_cmp fo_lt (fe_var 6) (fe_c de_int)) (fss_one (fs_expr (fe_append (de_var 5) (fe_bin fo_mul (fe_var 7) (fe_bin fo_add (fe_c de_int) (fe_bin fo_mod (fe_bin fo_add (fe_bin fo_mul (fe_var 6) (fe_var 6)) (fe_var 3)) (fe_c de_int))))))) (fss_one (fs_expr (fe_append (de_var 5) (fe_bin fo_add (fe_var 7) (fe_c de_str)))))))))
      (fss_one (fs_retV (de_var 5))))))))
  case hio => decide
abbrev s_l_size : Stmt := topS 24
theorem sc_l_size : FnScope n_l_size ["_law_hand_here", "_law_few", "_law_most"] (defScope s_l_size) :=
  ⟨rfl, rfl, rfl, by decide +kernel, rfl, by decide +kernel, by decide +kernel⟩
theorem c_l_size {P : Program} {w : World} {K : PySem.W.Frag} {mg : Str → Option Value} {base : Heap} {f : Addr} {fd : FuncData} (Fn : Fun K "_law_size" "_law_size" s_l_size f fd) (g : mg "_law_size" = some (.ref f)) (bd : Binds K fd ["_law_hand_here", "_law_few", "_law_most"] []) (B : BI mg) (C_l_take : FC P w K mg base 1 "_law_take" ["_law_hand_here", "_law_many"] m_l_take) :
    FC P w K mg base 2 "_law_size" ["_law_hand_here", "_law_few", "_law_most"] m_l_size := by
  refine dcF (io := [0]) Fn g bd sc_l_size ?hio (fun cdv A outer s H E hr => by
    have hv := hr.u64
    have hu := hr.hu
    exact (fss_one (fs_ret (fe_bin fo_add (fe_c de_int) (fe_call C_l_take (hr.mono (by decide)) (by rfl) (fl_s (de_var 0) (fl_v (fe_ixF (ff_lst (fa_cons (fe_var 1) (fa_cons (fe_var 1) (fa_cons (fe_var 1) (fa_cons (fe_var 1) (fa_cons (fe_var 1) (fa_cons (fe_var 1) (fa_cons (fe_var 1) (fa_cons (fe_var 2) fa_nil))))))))) (fe_call C_l_take (hr.mono (by decide)) (by rfl) (fl_s (de_var 0) (fl_v (fe_c de_int) fl_nil)))) fl_nil)))))))
  case hio => decide
abbrev s_l_plains : Stmt := topS 25
theorem sc_l_plains : FnScope n_l_plains ["_law_hand_here", "_law_words_here"] (defScope s_l_plains) :=
  ⟨rfl, rfl, rfl, by decide +kernel, rfl, by decide +kernel, by decide +kernel⟩
theorem c_l_plains {P : Program} {w : World} {K : PySem.W.Frag} {mg : Str → Option Value} {base : Heap} {f : Addr} {fd : FuncData} (Fn : Fun K "_law_plains" "_law_plains" s_l_plains f fd) (g : mg "_law_plains" = some (.ref f)) (bd : Binds K fd ["_law_hand_here", "_law_words_here"] []) (B : BI mg) (C_l_size : FC P w K mg base 2 "_law_size" ["_law_hand_here", "_law_few", "_law_most"] m_l_size) :
    FC P w K mg base 3 "_law_plains" ["_law_hand_here", "_law_words_here"] m_l_plains := by
  refine dcF (io := [0, 1]) Fn g bd sc_l_plains ?hio (fun cdv A outer s H E hr => by
    have hv := hr.u64
    have hu := hr.hu
    exact (fss_cons (fs_setO (i := 2) sc_l_plains.nd rfl (.inl rfl) (fo_new (ff_lst fa_nil)))
      (fss_cons (fs_for PassesOwn.never rfl (fi_range1 (by rfl) (B.all "range" (by decide)) (fa_cons (fe_call C_l_size (hr.mono (by decide)) (by rfl) (fl_s (de_var 0) (fl_v (fe_c de_int) (fl_v (fe_c de_int) fl_nil)))) fa_nil)) (fg_name (i := 3) sc_l_plains.nd rfl (.inl rfl)) (fss_cons (fs_set (i := 4) sc_l_plains.nd rfl (.inl rfl) (fe_pop (de_var 1)))
      (fss_one (fs_expr (fe_append (de_var 2) (fe_tup (fa_cons (fe_var 4) (fa_cons (fe_tupF (by rfl) (B.all "tuple" (by decide)) (ff_lc rfl sc_l_plains.nd (fi_range1 (by rfl) (B.all "range" (by decide)) (fa_cons (fe_call C_l_size (hr.mono (by decide)) (by rfl) (fl_s (de_var 0) (fl_v (fe_c de_int) (fl_v (fe_c de_int) fl_nil)))) fa_nil)) (own := [("_law_turn", 5)]) (show BlkOk n_l_plains (defScope s_l_plains) _ _ from ⟨rfl, by decide +kernel, by decide +kernel, by decide +kernel, by decide +kernel⟩) (fun _ _ _ _ _ => (fg_name (i := 5) sc_l_plains.nd rfl (.inl rfl))) (fun _ _ _ _ _ => fts_nil) (fun _ _ _ _ _ => (fe_pop (de_var 1))))) fa_nil))))))))
      (fss_one (fs_ret (fe_tupL (by rfl) (B.all "tuple" (by decide)) (de_var 2)))))))
  case hio => decide
abbrev s_l_makers : Stmt := topS 26
theorem sc_l_makers : FnScope n_l_makers ["_law_hand_here", "_law_words_here", "_law_plains_here"] (defScope s_l_makers) :=
  ⟨rfl, rfl, rfl, by decide +kernel, rfl, by decide +kernel, by decide +kernel⟩
theorem c_l_makers {P : Program} {w : World} {K : PySem.W.Frag} {mg : Str → Option Value} {base : Heap} {f : Addr} {fd : FuncData} (Fn : Fun K "_law_makers" "_law_makers" s_l_makers f fd) (g : mg "_law_makers" = some (.ref f)) (bd : Binds K fd ["_law_hand_here", "_law_words_here", "_law_plains_here"] []) (B : BI mg) (C_l_take : FC P w K mg base 1 "_law_take" ["_law_hand_here", "_law_many"] m_l_take) (C_l_pick : FC P w K mg base 2 "_law_pick" ["_law_hand_here", "_law_some"] m_l_pick) (C_l_size : FC P w K mg base 2 "_law_size" ["_law_hand_here", "_law_few", "_law_most"] m_l_size) :
    FC P w K mg base 3 "_law_makers" ["_law_hand_here", "_law_words_here", "_law_plains_here"] m_l_makers := by
  refine dcF (io := [0, 1]) Fn g bd sc_l_makers ?hio (fun cdv A outer s H E hr => by
    have hv := hr.u64
    have hu := hr.hu
    exact (fss_cons (fs_setO (i := 3) sc_l_makers.nd rfl (.inr rfl) (fo_new (ff_lc rfl sc_l_makers.nd (fi_tup (fe_var 2)) (own := [("_law_plain", 4)]) (show BlkOk n_l_makers (defScope s_l_makers) _ _ from ⟨rfl, by decide +kernel, by decide +kernel, by decide +kernel, by decide +kernel⟩) (fun _ _ _ _ _ => (fg_name (i := 4) sc_l_makers.nd rfl (.inl rfl))) (fun _ _ _ _ _ => fts_nil) (fun _ _ _ _ _ => (fe_ix hu (fe_var 4) (fe_c de_int))))))
      (fss_cons (fs_setO (i := 5) sc_l_makers.nd rfl (.inl rfl) (fo_new (ff_lst (fa_cons (fe_tup (fa_cons (fe_pop (de_var 1)) (fa_cons (fe_tupF (by rfl) (B.all "tuple" (by decide)) (ff_lc rfl sc_l_makers.nd (fi_range1 (by rfl) (B.all "range" (by decide)) (fa_cons (fe_call C_l_take (hr.mono (by decide)) (by rfl) (fl_s (de_var 0) (fl_v (fe_c de_int) fl_nil))) fa_nil)) (own := [("_law_turn", 6)]) (show BlkOk n_l_makers (defScope s_l_makers) _ _ from ⟨rfl, by decide +kernel, by decide +kernel, by decide +kernel, by decide +kernel⟩) (fun _ _ _ _ _ => (fg_name (i := 6) sc_l_makers.nd rfl (.inl rfl))) (fun _ _ _ _ _ => fts_nil) (fun _ _ _ _ _ => (fe_call C_l_pick (hr.mono (by decide)) (by rfl) (fl_s (de_var 0) (fl_s (de_var 3) fl_nil)))))) fa_nil))) fa_nil))))
      (fss_cons (fs_for PassesOwn.never rfl (fi_range1 (by rfl) (B.all "range" (by decide)) (fa_cons (fe_bin fo_sub (fe_call C_l_size (hr.mono (by decide)) (by rfl) (fl_s (de_var 0) (fl_v (fe_c de_int) (fl_v (fe_c de_int) fl_nil)))) (fe_c de_int)) fa_nil)) (fg_name (i := 7) sc_l_makers.nd rfl (.inl rfl)) (fss_cons (fs_setO (i := 8) sc_l_makers.nd rfl (.inl rfl) (fo_ixO (fl_n (fo_new (ff_lst (fa_cons (fe_c de_str) fa_nil))) (fl_n (fo_new (ff_lst (fa_cons (fe_c de_str) fa_nil))) (fl_n (fo_new (ff_lst (fa_cons (fe_c de_str) (fa_cons (fe_c de_str) fa_nil)))) (fl_n (fo_new (ff_lst fa_nil)) fl_nil)))) (fe_call C_l_take (hr.mono (by decide)) (by rfl) (fl_s (de_var 0) (fl_v (fe_c de_int) fl_nil)))))
      (fss_cons (fs_setO (i := 8) sc_l_makers.nd rfl (.inl rfl) (fo_new (ff_catVF (de_var 8) (ff_lc rfl sc_l_makers.nd (fi_range1 (by rfl) (B.all "range" (by decide)) (fa_cons (fe_callB (fc_min rfl) (by rfl) (B.all "min" (by decide)) PyProof.Rows.boot_min (fa_cons (fe_bin fo_sub (fe_c de_int) (fe_lenL (by rfl) (B.all "len" (by decide)) (de_var 8))) (fa_cons (fe_call C_l_take (hr.mono (by decide)) (by rfl) (fl_s (de_var 0) (fl_v (fe_c de_int) fl_nil))) fa_nil))) fa_nil)) (own := [("_law_turn", 6)]) (show BlkOk n_l_makers (defScope s_l_makers) _ _ from ⟨rfl, by decide +kernel, by decide +kernel, by decide +kernel, by decide +kernel⟩) (fun _ _ _ _ _ => (fg_name (i := 6) sc_l_makers.nd rfl (.inl rfl))) (fun _ _ _ _ _ => fts_nil) (fun _ _ _ _ _ => (fe_call C_l_pick (hr.mono (by decide)) (by rfl) (fl_s (de_var 0) (fl_s (de_var 3) fl_nil))))))))
      (fss_cons (fs_if (ft_cmp (fo_eq hv) (fe_call C_l_take (hr.mono (by decide)) (by rfl) (fl_s (de_var 0) (fl_v (fe_c de_int) fl_nil))) (fe_c de_int)) (fss_one (fs_setO (i := 8) sc_l_makers.nd rfl (.inl rfl) (fo_new (ff_revL (de_var 8))))) fss_nil)
      (fss_one (fs_expr (fe_append (de_var 5) (fe_tup (fa_cons (fe_pop (de_var 1)) (fa_cons (fe_tupL (by rfl) (B.all "tuple" (by decide)) (de_var 8)) fa_nil))))))))))
      (fss_cons (fs_if (ft_cmp (fo_eq hv) (fe_call C_l_take (hr.mono (by decide)) (by rfl) (fl_s (de_var 0) (fl_v (fe_c de_int) fl_nil))) (fe_c de_int)) (fss_one (fs_setO (i := 5) sc_l_makers.nd rfl (.inl rfl) (fo_new (ff_revL (de_var 5))))) fss_nil)
      (fss_one (fs_ret (fe_tupL (by rfl) (B.all "tuple" (by decide)) (de_var 5)))))))))
  case hio => decide
abbrev s_l_askings : Stmt := topS 27
theorem sc_l_askings : FnScope n_l_askings ["_law_hand_here", "_law_words_here", "_law_plains_here", "_law_many"] (defScope s_l_askings) :=
  ⟨rfl, rfl, rfl, by decide +kernel, rfl, by decide +kernel, by decide +kernel⟩
theorem c_l_askings {P : Program} {w : World} {K : PySem.W.Frag} {mg : Str → Option Value} {base : Heap} {f : Addr} {fd : FuncData} (Fn : Fun K "_law_askings" "_law_askings" s_l_askings f fd) (g : mg "_law_askings" = some (.ref f)) (bd : Binds K fd ["_law_hand_here", "_law_words_here", "_law_plains_here", "_law_many"] []) (B : BI mg) (C_l_take : FC P w K mg base 1 "_law_take" ["_law_hand_here", "_law_many"] m_l_take) (C_l_pick : FC P w K mg base 2 "_law_pick" ["_law_hand_here", "_law_some"] m_l_pick) :
    FC P w K mg base 3 "_law_askings" ["_law_hand_here", "_law_words_here", "_law_plains_here", "_law_many"] m_l_askings := by
  refine dcF (io := [0, 1]) Fn g bd sc_l_askings ?hio (fun cdv A outer s H E hr => by
    have hv := hr.u64
    have hu := hr.hu
    exact (fss_cons (fs_setLc (i := 4) rfl sc_l_askings.nd rfl rfl (sw_true rfl rfl rfl rfl) (fi_tup (fe_var 2)) (own := [("_law_plain", 5)]) (show BlkOk n_l_askings (defScope s_l_askings) _ _ from ⟨rfl, by decide +kernel, by decide +kernel, by decide +kernel, by decide +kernel⟩) (fun _ _ _ _ _ => (fg_name (i := 5) sc_l_askings.nd rfl (.inl rfl))) (fun _ _ _ _ _ => fts_nil) (fun _ _ _ _ _ => (fe_ix hu (fe_var 5) (fe_c de_int))))
      (fss_cons (fs_setO (i := 6) sc_l_askings.nd rfl (.inl rfl) (fo_new (ff_lst fa_nil)))
      (fss_cons (fs_for PassesOwn.never rfl (fi_range1 (by rfl) (B.all "range" (by decide)) (fa_cons (fe_var 3) fa_nil)) (fg_name (i := 7) sc_l_askings.nd rfl (.inl rfl)) (fss_cons (fs_set (i := 8) sc_l_askings.nd rfl (.inl rfl) (fe_tup (fa_cons (fe_c de_str) fa_nil)))
      (fss_cons (fs_if (ft_cmp (fo_eq hv) (fe_call C_l_take (hr.mono (by decide)) (by rfl) (fl_s (de_var 0) (fl_v (fe_c de_int) fl_nil))) (fe_c de_int)) (fss_one (fs_set (i := 8) sc_l_askings.nd rfl (.inl rfl) (fe_tup (fa_cons (fe_c de_str) (fa_cons (fe_call C_l_pick (hr.mono (by decide)) (by rfl) (fl_s (de_var 0) (fl_s (de_var 4) fl_nil))) fa_nil))))) fss_nil)
      (fss_one (fs_expr (fe_append (de_var 6) (fe_tup (fa_cons (fe_pop (de_var 1)) (fa_cons (fe_var 8) fa_nil)))))))))
      (fss_one (fs_retV (de_var 6)))))))
  case hio => decide
abbrev s_l_bare_kind : Stmt := topS 28
theorem sc_l_bare_kind : FnScope n_l_bare_kind ["_law_hand_here", "_law_many"] (defScope s_l_bare_kind) :=
  ⟨rfl, rfl, rfl, by decide +kernel, rfl, by decide +kernel, by decide +kernel⟩
theorem c_l_bare_kind {P : Program} {w : World} {K : PySem.W.Frag} {mg : Str → Option Value} {base : Heap} {f : Addr} {fd : FuncData} (Fn : Fun K "_law_bare_kind" "_law_bare_kind" s_l_bare_kind f fd) (g : mg "_law_bare_kind" = some (.ref f)) (bd : Binds K fd ["_law_hand_here", "_law_many"] []) (B : BI mg) (C_l_words : FC P w K mg base 3 "_law_words" ["_law_hand_here", "_law_many"] m_l_words) (C_l_plains : FC P w K mg base 3 "_law_plains" ["_law_hand_here", "_law_words_here"] m_l_plains) (C_l_makers : FC P w K mg base 3 "_law_makers" ["_law_hand_here", "_law_words_here", "_law_plains_here"] m_l_makers) (C_l_askings : FC P w K mg base 3 "_law_askings" ["_law_hand_here", "_law_words_here", "_law_plains_here", "_law_many"] m_l_askings) (C_l_size : FC P w K mg base 2 "_law_size" ["_law_hand_here", "_law_few", "_law_most"] m_l_size) (C_l_pick : FC P w K mg base 2 "_law_pick" ["_law_hand_here", "_law_some"] m_l_pick) (C_l_take : FC P w K mg base 1 "_law_take" ["_law_hand_here", "_law_many"] m_l_take) :
    FC P w K mg base 4 "_law_bare_kind" ["_law_hand_here", "_law_many"] m_l_bare_kind := by
  refine dcF (io := [0]) Fn g bd sc_l_bare_kind ?hio (fun cdv A outer s H E hr => by
    have hv := hr.u64
    have hu := hr.hu
    exact (fss_cons (fs_setO (i := 2) sc_l_bare_kind.nd rfl (.inl rfl) (fo_call C_l_words (hr.mono (by decide)) (by rfl) (fl_s (de_var 0) (fl_v (fe_c de_int) fl_nil))))
      (fss_cons (fs_set (i := 3) sc_l_bare_kind.nd rfl (.inl rfl) (fe_call C_l_plains (hr.mono (by decide)) (by rfl) (fl_s (de_var 0) (fl_s (de_var 2) fl_nil))))
      (fss_cons (fs_par2 (i := 4) (j := 5) rfl sc_l_bare_kind.nd (fl_v (fe_call C_l_makers (hr.mono (by decide)) (by rfl) (fl_s (de_var 0) (fl_s (de_var 2) (fl_v (fe_var 3) fl_nil)))) (fl_n (fo_new (ff_lst fa_nil)) fl_nil)))
      (fss_cons (fs_for PassesOwn.never rfl (fi_own (fo_call C_l_askings (hr.mono (by decide)) (by rfl) (fl_s (de_var 0) (fl_s (de_var 2) (fl_v (fe_var 3) (fl_v (fe_call C_l_size (hr.mono (by decide)) (by rfl) (fl_s (de_var 0) (fl_v (fe_c de_int) (fl_v (fe_c de_int) fl_nil)))) fl_nil)))))) (fg_tup rfl (fgs_cons (fg_name (i := 6) sc_l_bare_kind.nd rfl (.inl rfl)) (fgs_cons (fg_name (i := 7) sc_l_bare_kind.nd rfl (.inl rfl)) fgs_nil))) (fss_one (fs_expr (fe_append (de_var 5) (fe_tup (fa_cons (fe_var 6) (fa_cons (fe_var 7) (fa_cons (fe_ix hu (fe_call C_l_pick (hr.mono (by decide)) (by rfl) (fl_s (de_var 0) (fl_v (fe_var 3) fl_nil))) (fe_c de_int)) fa_nil))))))))
      (fss_cons (fs_setO (i := 8) sc_l_bare_kind.nd rfl (.inl rfl) (fo_call C_l_askings (hr.mono (by decide)) (by rfl) (fl_s (de_var 0) (fl_s (de_var 2) (fl_v (fe_var 3) (fl_v (fe_call C_l_take (hr.mono (by decide)) (by rfl) (fl_s (de_var 0) (fl_v (fe_bin fo_add (fe_var 1) (fe_c de_int)) fl_nil))) fl_nil))))))
      (fss_one (fs_ret (fe_tup (fa_cons (fe_var 3) (fa_cons (fe_var 4) (fa_cons (fe_tupL (by rfl) (B.all "tuple" (by decide)) (de_var 5)) (fa_cons (fe_tupL (by rfl) (B.all "tuple" (by decide)) (de_var 8)) (fa_cons (fe_tup fa_nil) fa_nil))))))))))))))
  case hio => decide
abbrev s_l_open_term : Stmt := topS 29
theorem sc_l_open_term : FnScope n_l_open_term ["_law_hand_here", "_law_kind", "_law_sorts", "_law_sort", "_law_left"] (defScope s_l_open_term) :=
  ⟨rfl, rfl, rfl, by decide +kernel, rfl, by decide +kernel, by decide +kernel⟩
theorem c_l_open_term {P : Program} {w : World} {K : PySem.W.Frag} {mg : Str → Option Value} {base : Heap} {f : Addr} {fd : FuncData} (Fn : Fun K "_law_open_term" "_law_open_term" s_l_open_term f fd) (g : mg "_law_open_term" = some (.ref f)) (bd : Binds K fd ["_law_hand_here", "_law_kind", "_law_sorts", "_law_sort", "_law_left"] []) (B : BI mg) (C_l_take : FC P w K mg base 1 "_law_take" ["_law_hand_here", "_law_many"] m_l_take) (C_l_pick : FC P w K mg base 2 "_law_pick" ["_law_hand_here", "_law_some"] m_l_pick) :
    ∀ n, FC P w K mg base (2 + n) "_law_open_term" ["_law_hand_here", "_law_kind", "_law_sorts", "_law_sort", "_law_left"] (m_l_open_term n)
  | 0 => ⟨(DC.no g Fn.kp bd _).imp (fun _ _ _ ⟨_, _, _, _, _, _, e, _⟩ => nomatch e), fun _ _ _ e => nomatch e⟩
  | n + 1 => by
    have C_l_open_term := c_l_open_term (P := P) (w := w) (base := base) Fn g bd B C_l_take C_l_pick n
    refine dcF (io := [0, 4]) Fn g bd sc_l_open_term ?hio (fun cdv A outer s H E hr => by
    have hv := hr.u64
    have hu := hr.hu
    exact (fss_cons (fs_setIx hu (fe_bin fo_sub (fe_ixL hu (de_var 4) (fe_c de_int)) (fe_c de_int)) (de_var 4) (fe_c de_int))
      (fss_cons (fs_setLc (i := 5) rfl sc_l_open_term.nd rfl rfl (sw_true rfl rfl rfl rfl) (fi_enT (by rfl) (B.all "enumerate" (by decide)) (fa_cons (fe_var 2) fa_nil)) (own := [("_law_at", 6), ("_law_one", 7)]) (show BlkOk n_l_open_term (defScope s_l_open_term) _ _ from ⟨rfl, by decide +kernel, by decide +kernel, by decide +kernel, by decide +kernel⟩) (fun _ _ _ _ _ => (fg_tup rfl (fgs_cons (fg_name (i := 6) sc_l_open_term.nd rfl (.inl rfl)) (fgs_cons (fg_name (i := 7) sc_l_open_term.nd rfl (.inl rfl)) fgs_nil)))) (fun _ _ _ _ _ => (fts_one (ft_cmp (fo_eq hv) (fe_var 7) (fe_var 3)))) (fun _ _ _ _ _ => (fe_var 6)))
      (fss_cons (fs_if (ft_w (fw_and (ft_nilN hu (de_var 5)) (fw_and1 (ft_w (fw_or (ft_cmp fo_lt (fe_ixL hu (de_var 4) (fe_c de_int)) (fe_c de_int)) (fw_or1 (ft_cmp (fo_eq hv) (fe_call C_l_take (hr.mono (by first | exact Nat.le_refl _ | exact Nat.le_trans (by decide : _ ≤ 2) (Nat.le_add_right _ _))) (by rfl) (fl_s (de_var 0) (fl_v (fe_c de_int) fl_nil))) (fe_c de_int)))))))) (fss_one (fs_ret (fe_call C_l_pick (hr.mono (by first | exact Nat.le_refl _ | exact Nat.le_trans (by decide : _ ≤ 2) (Nat.le_add_right _ _))) (by rfl) (fl_s (de_var 0) (fl_s (de_var 5) fl_nil))))) fss_nil)
      (fss_cons (fs_setO (i := 8) sc_l_open_term.nd rfl (.inl rfl) (fo_new (ff_catFF (ff_listV (by rfl) (B.all "list" (by decide)) (fe_ix hu (fe_var 1) (fe_c de_int))) (ff_repF (ff_listV (by rfl) (B.all "list" (by decide)) (fe_ix hu (fe_var 1) (fe_c de_int))) (fe_c de_int)))))
      (fss_cons (fs_if (ft_cmp (fo_ne hv) (fe_var 3) (fe_c de_str)) (fss_cons (fs_setLc (i := 8) rfl sc_l_open_term.nd rfl rfl (sw_true rfl rfl rfl rfl) (fi_tup (fe_ix hu (fe_var 1) (fe_c de_int))) (own := [("_law_row", 9)]) (show BlkOk n_l_open_term (defScope s_l_open_term) _ _ from ⟨rfl, by decide +kernel, by decide +kernel, by decide +kernel, by decide +kernel⟩) (fun _ _ _ _ _ => (fg_name (i := 9) sc_l_open_term.nd rfl (.inl rfl))) (fun _ _ _ _ _ => (fts_one (ft_cmp (fo_eq hv) (fe_ix hu (fe_var 9) (fe_c de_int)) (fe_var 3)))) (fun _ _ _ _ _ => (fe_var 9)))
      (fss_one (fs_if (ft_w (fw_or (ft_nilE hu (de_var 8)) (fw_or (ft_cmp fo_lt (fe_ixL hu (de_var 4) (fe_c de_int)) (fe_c de_int)) (fw_or1 (ft_cmp (fo_eq hv) (fe_call C_l_take (hr.mono (by first | exact Nat.le_refl _ | exact Nat.le_trans (by decide : _ ≤ 2) (Nat.le_add_right _ _))) (by rfl) (fl_s (de_var 0) (fl_v (fe_c de_int) fl_nil))) (fe_c de_int)))))) (fss_one (fs_ret (fe_call C_l_pick (hr.mono (by first | exact Nat.le_refl _ | exact Nat.le_trans (by decide : _ ≤ 2) (Nat.le_add_right _ _))) (by rfl) (fl_s (de_var 0) (fl_v (fe_ixDict hu rfl (by rfl) (B.all "dict" (by decide)) (fe_ix hu (fe_var 1) (fe_c de_int)) (fe_var 3)) fl_nil))))) fss_nil))) (fss_one (fs_if (ft_cmp fo_lt (fe_ixL hu (de_var 4) (fe_c de_int)) (fe_c de_int)) (fss_one (fs_setLc (i := 8) rfl sc_l_open_term.nd rfl rfl (sw_true rfl rfl rfl rfl) (fi_tup (fe_ix hu (fe_var 1) (fe_c de_int))) (own := [("_law_row", 9)]) (show BlkOk n_l_open_term (defScope s_l_open_term) _ _ from ⟨rfl, by decide +kernel, by decide +kernel, by decide +kernel, by decide +kernel⟩) (fun _ _ _ _ _ => (fg_name (i := 9) sc_l_open_term.nd rfl (.inl rfl))) (fun _ _ _ _ _ => (fts_one (ft_cmp (fo_notIn hu) (fe_c de_str) (fe_ix hu (fe_var 9) (fe_c de_int))))) (fun _ _ _ _ _ => (fe_var 9)))) fss_nil)))
      (fss_cons (fs_set (i := 9) sc_l_open_term.nd rfl (.inl rfl) (fe_call C_l_pick (hr.mono (by first | exact Nat.le_refl _ | exact Nat.le_trans (by decide : _ ≤ 2) (Nat.le_add_right _ _))) (by rfl) (fl_s (de_var 0) (fl_s (de_var 8) fl_nil))))
      (fss_cons (fs_set (i := 10) sc_l_open_term.nd rfl (.inl rfl) (fe_tup (fa_cons (fe_ix hu (fe_var 9) (fe_c de_int)) fa_nil)))
      (fss_cons (fs_for PassesOwn.never rfl (fi_tup (fe_ix hu (fe_var 9) (fe_c de_int))) (fg_name (i := 7) sc_l_open_term.nd rfl (.inl rfl)) (fss_one (fs_set (i := 10) sc_l_open_term.nd rfl (.inl rfl) (fe_bin fo_add (fe_var 10) (fe_tup (fa_cons (fe_call C_l_open_term (hr.mono (by first | exact Nat.le_refl _ | exact Nat.le_trans (by decide : _ ≤ 2) (Nat.le_add_right _ _))) (by rfl) (fl_s (de_var 0) (fl_v (fe_var 1) (fl_v (fe_var 2) (fl_v (fe_var 7) (fl_s (de_var 4) fl_nil)))))) fa_nil))))))
      (fss_one (fs_ret (fe_var 10))))))))))))
    case hio => decide
abbrev s_l_sorts_drawn : Stmt := topS 30
theorem sc_l_sorts_drawn : FnScope n_l_sorts_drawn ["_law_hand_here", "_law_kind", "_law_most"] (defScope s_l_sorts_drawn) :=
  ⟨rfl, rfl, rfl, by decide +kernel, rfl, by decide +kernel, by decide +kernel⟩
theorem c_l_sorts_drawn {P : Program} {w : World} {K : PySem.W.Frag} {mg : Str → Option Value} {base : Heap} {f : Addr} {fd : FuncData} (Fn : Fun K "_law_sorts_drawn" "_law_sorts_drawn" s_l_sorts_drawn f fd) (g : mg "_law_sorts_drawn" = some (.ref f)) (bd : Binds K fd ["_law_hand_here", "_law_kind", "_law_most"] []) (B : BI mg) (C_l_take : FC P w K mg base 1 "_law_take" ["_law_hand_here", "_law_many"] m_l_take) (C_l_pick : FC P w K mg base 2 "_law_pick" ["_law_hand_here", "_law_some"] m_l_pick) :
    FC P w K mg base 3 "_law_sorts_drawn" ["_law_hand_here", "_law_kind", "_law_most"] m_l_sorts_drawn := by
  refine dcF (io := [0]) Fn g bd sc_l_sorts_drawn ?hio (fun cdv A outer s H E hr => by
    have hv := hr.u64
    have hu := hr.hu
    exact (fss_one (fs_ret (fe_tupF (by rfl) (B.all "tuple" (by decide)) (ff_lc rfl sc_l_sorts_drawn.nd (fi_range1 (by rfl) (B.all "range" (by decide)) (fa_cons (fe_call C_l_take (hr.mono (by decide)) (by rfl) (fl_s (de_var 0) (fl_v (fe_bin fo_add (fe_var 2) (fe_c de_int)) fl_nil))) fa_nil)) (own := [("_law_k", 4)]) (show BlkOk n_l_sorts_drawn (defScope s_l_sorts_drawn) _ _ from ⟨rfl, by decide +kernel, by decide +kernel, by decide +kernel, by decide +kernel⟩) (fun _ _ _ _ _ => (fg_name (i := 4) sc_l_sorts_drawn.nd rfl (.inl rfl))) (fun _ _ _ _ _ => fts_nil) (fun _ _ _ _ _ => (fe_call C_l_pick (hr.mono (by decide)) (by rfl) (fl_s (de_var 0) (fl_n (fo_new (ff_catFF (ff_lst (fa_cons (fe_c de_str) fa_nil)) (ff_lc rfl sc_l_sorts_drawn.nd (fi_tup (fe_ix hu (fe_var 1) (fe_c de_int))) (own := [("_law_row", 3)]) (blk_by (by kernel_rfl)) (fun _ _ _ _ _ => (fg_name (i := 3) sc_l_sorts_drawn.nd rfl (.inl rfl))) (fun _ _ _ _ _ => fts_nil) (fun _ _ _ _ _ => (fe_ix hu (fe_var 3) (fe_c de_int)))))) fl_nil)))))))))
  case hio => decide
abbrev s_l_written : Stmt := topS 31
theorem sc_l_written : FnScope n_l_written ["_law_term"] (defScope s_l_written) :=
  ⟨rfl, rfl, rfl, by decide +kernel, rfl, by decide +kernel, by decide +kernel⟩
theorem c_l_written {P : Program} {w : World} {K : PySem.W.Frag} {mg : Str → Option Value} {base : Heap} {f : Addr} {fd : FuncData} (Fn : Fun K "_law_written" "_law_written" s_l_written f fd) (g : mg "_law_written" = some (.ref f)) (bd : Binds K fd ["_law_term"] []) (B : BI mg) :
    ∀ n, DC P w K mg base (0 + n) "_law_written" ["_law_term"] (spP (m_l_written n))
  | 0 => DC.no g Fn.kp bd _ |>.imp (fun _ _ _ ⟨_, e, _⟩ => nomatch e)
  | n + 1 => by
    have C_l_written := c_l_written (P := P) (w := w) (base := base) Fn g bd B n
    exact dcP Fn g bd sc_l_written (fun cdv A outer s H E hr => by
    have hv := hr.u64
    have hu := hr.hu
    exact (fss_cons (fs_if (ft_val (fe_callB fc_isi (by rfl) (B.all "isinstance" (by decide)) PyProof.Rows.boot_isinstance (fa_cons (fe_var 0) (fa_cons (fe_c (de_gtype (by rfl) (B.all "tuple" (by decide)) PyProof.Rows.boot_tuple)) fa_nil)))) (fss_one (fs_ret (fe_bin fo_add (fe_bin fo_add (fe_bin fo_add (fe_ix hu (fe_var 0) (fe_c de_int)) (fe_c de_str)) (fe_joinF (fe_c de_str) (ff_lc rfl sc_l_written.nd (fi_tup (fe_slT (fe_var 0) (fpo_some (fe_c de_int)) fpo_none)) (own := [("_law_part", 1)]) (show BlkOk n_l_written (defScope s_l_written) _ _ from ⟨rfl, by decide +kernel, by decide +kernel, by decide +kernel, by decide +kernel⟩) (fun _ _ _ _ _ => (fg_name (i := 1) sc_l_written.nd rfl (.inl rfl))) (fun _ _ _ _ _ => fts_nil) (fun _ _ _ _ _ => (fe_callP C_l_written (hr.mono (by first | exact Nat.le_refl _ | exact Nat.le_trans (by decide : _ ≤ 0) (Nat.le_add_right _ _))) (by rfl) (fa_cons (fe_var 1) fa_nil)))))) (fe_c de_str)))) fss_nil)
      (fss_one (fs_ret (fe_if (ft_val (fe_callB fc_isi (by rfl) (B.all "isinstance" (by decide)) PyProof.Rows.boot_isinstance (fa_cons (fe_var 0) (fa_cons (fe_c (de_gtype (by rfl) (B.all "str" (by decide)) PyProof.Rows.boot_str)) fa_nil)))) (fe_var 0) (fe_bin fo_add (fe_c de_str) (fe_callTy fc_strI (by rfl) (B.all "str" (by decide)) PyProof.Rows.boot_str (fa_cons (fe_var 0) fa_nil))))))))
abbrev s_l_term_at : Stmt := topS 32
theorem sc_l_term_at : FnScope n_l_term_at ["_law_text"] (defScope s_l_term_at) :=
  ⟨rfl, rfl, rfl, by decide +kernel, rfl, by decide +kernel, by decide +kernel⟩
theorem c_l_term_at {P : Program} {w : World} {K : PySem.W.Frag} {mg : Str → Option Value} {base : Heap} {f : Addr} {fd : FuncData} (Fn : Fun K "_law_term_at" "_law_term_at" s_l_term_at f fd) (g : mg "_law_term_at" = some (.ref f)) (bd : Binds K fd ["_law_text"] []) (B : BI mg) :
    ∀ n, DC P w K mg base (0 + n) "_law_term_at" ["_law_text"] (spP (m_l_term_at n))
  | 0 => DC.no g Fn.kp bd _ |>.imp (fun _ _ _ ⟨_, e, _⟩ => nomatch e)
  | n + 1 => by
    have C_l_term_at := c_l_term_at (P := P) (w := w) (base := base) Fn g bd B n
    exact dcP Fn g bd sc_l_term_at (fun cdv A outer s H E hr => by
    have hv := hr.u64
    have hu := hr.hu
    exact (fss_cons (fs_set (i := 1) sc_l_term_at.nd rfl (.inl rfl) (fe_c de_str))
      (fss_cons (fs_if (ft_cmp (fo_eq hv) (fe_slS (fe_var 0) fpo_none (fpo_some (fe_c de_int))) (fe_c de_str)) (fss_cons (fs_set (i := 2) sc_l_term_at.nd rfl (.inl rfl) (fe_slS (fe_var 0) (fpo_some (fe_c de_int)) (fpo_some (fe_bin fo_sub (fe_callB fc_len (by rfl) (B.all "len" (by decide)) PySem.boot_len (fa_cons (fe_var 0) fa_nil)) (fe_callB fc_len (by rfl) (B.all "len" (by decide)) PySem.boot_len (fa_cons (fe_lstrip (fe_slS (fe_var 0) (fpo_some (fe_c de_int)) fpo_none) (fe_c de_str)) fa_nil))))))
      (fss_cons (fs_if (ft_w (fw_or (ft_cmp (fo_eq hv) (fe_var 2) (fe_c de_str)) (fw_or (ft_cmp fo_gt (fe_callB fc_len (by rfl) (B.all "len" (by decide)) PySem.boot_len (fa_cons (fe_var 2) fa_nil)) (fe_c de_int)) (fw_or1 (ft_w (fw_and (ft_cmp (fo_ne hv) (fe_var 2) (fe_c de_str)) (fw_and1 (ft_cmp (fo_eq hv) (fe_ix hu (fe_var 2) (fe_c de_int)) (fe_c de_str))))))))) (fss_one (fs_ret (fe_c de_non))) fss_nil)
      (fss_one (fs_ret (fe_tup (fa_cons (fe_callTy fc_intV (by rfl) (B.all "int" (by decide)) PyProof.Rows.boot_int (fa_cons (fe_var 2) fa_nil)) (fa_cons (fe_slS (fe_var 0) (fpo_some (fe_bin fo_add (fe_c de_int) (fe_callB fc_len (by rfl) (B.all "len" (by decide)) PySem.boot_len (fa_cons (fe_var 2) fa_nil)))) fpo_none) fa_nil))))))) fss_nil)
      (fss_cons (fs_set (i := 3) sc_l_term_at.nd rfl (.inl rfl) (fe_slS (fe_var 0) fpo_none (fpo_some (fe_bin fo_sub (fe_callB fc_len (by rfl) (B.all "len" (by decide)) PySem.boot_len (fa_cons (fe_var 0) fa_nil)) (fe_callB fc_len (by rfl) (B.all "len" (by decide)) PySem.boot_len (fa_cons (fe_lstrip (fe_var 0) (fe_var 1)) fa_nil))))))
      (fss_cons (fs_set (i := 4) sc_l_term_at.nd rfl (.inl rfl) (fe_slS (fe_var 0) (fpo_some (fe_callB fc_len (by rfl) (B.all "len" (by decide)) PySem.boot_len (fa_cons (fe_var 3) fa_nil))) fpo_none))
      (fss_cons (fs_if (ft_not (ft_chain fo_le fo_le (fe_c de_int) (fe_callB fc_len (by rfl) (B.all "len" (by decide)) PySem.boot_len (fa_cons (fe_var 3) fa_nil)) (fe_c de_int))) (fss_one (fs_ret (fe_c de_non))) fss_nil)
      (fss_cons (fs_if (ft_cmp (fo_ne hv) (fe_slS (fe_var 4) fpo_none (fpo_some (fe_c de_int))) (fe_c de_str)) (fss_one (fs_ret (fe_tup (fa_cons (fe_var 3) (fa_cons (fe_var 4) fa_nil))))) fss_nil)
      (fss_cons (fs_par2 (i := 5) (j := 4) rfl sc_l_term_at.nd (fl_v (fe_tup (fa_cons (fe_var 3) fa_nil)) (fl_v (fe_slS (fe_var 4) (fpo_some (fe_c de_int)) fpo_none) fl_nil)))
      (fss_cons (fs_if (ft_cmp (fo_eq hv) (fe_slS (fe_var 4) fpo_none (fpo_some (fe_c de_int))) (fe_c de_str)) (fss_one (fs_ret (fe_tup (fa_cons (fe_var 5) (fa_cons (fe_slS (fe_var 4) (fpo_some (fe_c de_int)) fpo_none) fa_nil))))) fss_nil)
      (fss_cons (fs_for PassesOwn.never rfl (fi_range1 (by rfl) (B.all "range" (by decide)) (fa_cons (fe_callB fc_len (by rfl) (B.all "len" (by decide)) PySem.boot_len (fa_cons (fe_var 4) fa_nil)) fa_nil)) (fg_name (i := 6) sc_l_term_at.nd rfl (.inl rfl)) (fss_cons (fs_set (i := 7) sc_l_term_at.nd rfl (.inl rfl) (fe_callP C_l_term_at (hr.mono (by first | exact Nat.le_refl _ | exact Nat.le_trans (by decide : _ ≤ 0) (Nat.le_add_right _ _))) (by rfl) (fa_cons (fe_var 4) fa_nil)))
      (fss_cons (fs_if (ft_isN (fe_var 7)) (fss_one (fs_ret (fe_c de_non))) fss_nil)
      (fss_cons (fs_par2 (i := 5) (j := 4) rfl sc_l_term_at.nd (fl_v (fe_bin fo_add (fe_var 5) (fe_tup (fa_cons (fe_ix hu (fe_var 7) (fe_c de_int)) fa_nil))) (fl_v (fe_ix hu (fe_var 7) (fe_c de_int)) fl_nil)))
      (fss_cons (fs_if (ft_cmp (fo_eq hv) (fe_slS (fe_var 4) fpo_none (fpo_some (fe_c de_int))) (fe_c de_str)) (fss_one (fs_ret (fe_tup (fa_cons (fe_var 5) (fa_cons (fe_slS (fe_var 4) (fpo_some (fe_c de_int)) fpo_none) fa_nil))))) fss_nil)
      (fss_cons (fs_if (ft_cmp (fo_ne hv) (fe_slS (fe_var 4) fpo_none (fpo_some (fe_c de_int))) (fe_c de_str)) (fss_one (fs_ret (fe_c de_non))) fss_nil)
      (fss_one (fs_set (i := 4) sc_l_term_at.nd rfl (.inl rfl) (fe_slS (fe_var 4) (fpo_some (fe_c de_int)) fpo_none)))))))))
      (fss_one (fs_ret (fe_c de_non)))))))))))))
abbrev s_l_term_of : Stmt := topS 33
theorem sc_l_term_of : FnScope n_l_term_of ["_law_text"] (defScope s_l_term_of) :=
  ⟨rfl, rfl, rfl, by decide +kernel, rfl, by decide +kernel, by decide +kernel⟩
theorem c_l_term_of {P : Program} {w : World} {K : PySem.W.Frag} {mg : Str → Option Value} {base : Heap} {f : Addr} {fd : FuncData} (Fn : Fun K "_law_term_of" "_law_term_of" s_l_term_of f fd) (g : mg "_law_term_of" = some (.ref f)) (bd : Binds K fd ["_law_text"] []) (B : BI mg) (C_l_term_at : DC P w K mg base 60 "_law_term_at" ["_law_text"] (spP (m_l_term_at 60))) :
    DC P w K mg base 61 "_law_term_of" ["_law_text"] (spP m_l_term_of) := by
  exact dcP Fn g bd sc_l_term_of (fun cdv A outer s H E hr => by
    have hv := hr.u64
    have hu := hr.hu
    exact (fss_cons (fs_set (i := 1) sc_l_term_of.nd rfl (.inl rfl) (fe_callP C_l_term_at (hr.mono (by decide)) (by rfl) (fa_cons (fe_var 0) fa_nil)))
      (fss_one (fs_ret (fe_frz (ff_if (ft_w (fw_and (ft_notN (fe_var 1)) (fw_and1 (ft_cmp (fo_eq hv) (fe_ix hu (fe_var 1) (fe_c de_int)) (fe_c de_str))))) (ff_lst (fa_cons (fe_ix hu (fe_var 1) (fe_c de_int)) fa_nil)) (ff_lst fa_nil)))))))
abbrev s_l_text_bent : Stmt := topS 34
theorem sc_l_text_bent : FnScope n_l_text_bent ["_law_hand_here", "_law_text"] (defScope s_l_text_bent) :=
  ⟨rfl, rfl, rfl, by decide +kernel, rfl, by decide +kernel, by decide +kernel⟩
theorem c_l_text_bent {P : Program} {w : World} {K : PySem.W.Frag} {mg : Str → Option Value} {base : Heap} {f : Addr} {fd : FuncData} (Fn : Fun K "_law_text_bent" "_law_text_bent" s_l_text_bent f fd) (g : mg "_law_text_bent" = some (.ref f)) (bd : Binds K fd ["_law_hand_here", "_law_text"] []) (B : BI mg) (C_l_take : FC P w K mg base 1 "_law_take" ["_law_hand_here", "_law_many"] m_l_take) (C_l_pick : FC P w K mg base 2 "_law_pick" ["_law_hand_here", "_law_some"] m_l_pick) :
    FC P w K mg base 3 "_law_text_bent" ["_law_hand_here", "_law_text"] m_l_text_bent := by
  refine dcF (io := [0]) Fn g bd sc_l_text_bent ?hio (fun cdv A outer s H E hr => by
    have hv := hr.u64
    have hu := hr.hu
    exact (fss_cons (fs_for PassesOwn.never rfl (fi_range1 (by rfl) (B.all "range" (by decide)) (fa_cons (fe_bin fo_add (fe_c de_int) (fe_call C_l_take (hr.mono (by decide)) (by rfl) (fl_s (de_var 0) (fl_v (fe_c de_int) fl_nil)))) fa_nil)) (fg_name (i := 2) sc_l_text_bent.nd rfl (.inl rfl)) (fss_cons (fs_set (i := 3) sc_l_text_bent.nd rfl (.inl rfl) (fe_call C_l_take (hr.mono (by decide)) (by rfl) (fl_s (de_var 0) (fl_v (fe_bin fo_add (fe_callB fc_len (by rfl) (B.all "len" (by decide)) PySem.boot_len (fa_cons (fe_var 1) fa_nil)) (fe_c de_int)) fl_nil))))
      (fss_cons (fs_setO (i := 4) sc_l_text_bent.nd rfl (.inl rfl) (fo_new (ff_lst (fa_cons (fe_c de_str) (fa_cons (fe_c de_str) (fa_cons (fe_c de_str) (fa_cons (fe_c de_str) (fa_cons (fe_c de_str) (fa_cons (fe_c de_str) (fa_cons (fe_c de_str) (fa_cons (fe_c de_str) (fa_cons (fe_c de_str) (fa_cons (fe_c de_str) (fa_cons (fe_c de_str) (fa_cons (fe_c de_str) (fa_cons (fe_c de_str) (fa_cons (fe_c de_str) (fa_cons (fe_c de_str) (fa_cons (fe_c de_str) (fa_cons (fe_c de_str) fa_nil))))))))))))))))))))
      (fss_cons (fs_set (i := 5) sc_l_text_bent.nd rfl (.inl rfl) (fe_call C_l_pick (hr.mono (by decide)) (by rfl) (fl_s (de_var 0) (fl_s (de_var 4) fl_nil))))
      (fss_one (fs_set (i := 1) sc_l_text_bent.nd rfl (.inl rfl) (fe_bin fo_add (fe_bin fo_add (fe_slS (fe_var 1) fpo_none (fpo_some (fe_var 3))) (fe_var 5)) (fe_slS (fe_var 1) (fpo_some (fe_bin fo_add (fe_var 3) (fe_call C_l_take (hr.mono (by decide)) (by rfl) (fl_s (de_var 0) (fl_v (fe_c de_int) fl_nil))))) fpo_none))))))))
      (fss_one (fs_ret (fe_var 1)))))
  case hio => decide
abbrev s_l_told : Stmt := topS 35
theorem sc_l_told : FnScope n_l_told ["_law_text"] (defScope s_l_told) :=
  ⟨rfl, rfl, rfl, by decide +kernel, rfl, by decide +kernel, by decide +kernel⟩
theorem c_l_told {P : Program} {w : World} {K : PySem.W.Frag} {mg : Str → Option Value} {base : Heap} {f : Addr} {fd : FuncData} (Fn : Fun K "_law_told" "_law_told" s_l_told f fd) (g : mg "_law_told" = some (.ref f)) (bd : Binds K fd ["_law_text"] []) (B : BI mg) {cn_NoLine cn_NoStep cn_Stuck cn_TooMany : Addr} (GN_NoLine : mg "NoLine" = some (.ref cn_NoLine)) (GN_NoStep : mg "NoStep" = some (.ref cn_NoStep)) (GN_Stuck : mg "Stuck" = some (.ref cn_Stuck)) (GN_TooMany : mg "TooMany" = some (.ref cn_TooMany)) (TK_NoText : ToldD K (Amb.cls "NoText") "row" [.ref cn_NoLine, .ref cn_NoStep, .ref cn_Stuck, .ref cn_TooMany]) (XD_NoText : ExcI P w K mg base "NoText" "row" (Amb.cls "NoText")) {cv_KindError : Value} (GE_KindError : mg "KindError" = some cv_KindError) (XM_NoText_KindError : PySem.W.exmOne K (.ref (Amb.cls "NoText")) cv_KindError = some true) (C_p_read_term : XC P w K mg base 5 "read_term" ["text"] "NoText" "row" m_p_read_term) :
    DC P w K mg base 6 "_law_told" ["_law_text"] (spP m_l_told) := by
  exact dcP Fn g bd sc_l_told (fun cdv A outer s H E hr => by
    have hv := hr.u64
    have hu := hr.hu
    exact (fss_toldR C_p_read_term (hr.mono (by decide)) (by rfl) rfl rfl rfl sc_l_told.nd (ie := 1) rfl (by rfl) (by rfl) GE_KindError XM_NoText_KindError (fun _ _ => (fa_cons (fe_var 0) fa_nil))
      (fun a pn => pss_keptR (C := Amb.cls "NoText") (cs := [.ref cn_NoLine, .ref cn_NoStep, .ref cn_Stuck, .ref cn_TooMany]) (us := [.ref cn_NoLine, .ref cn_NoStep, .ref cn_Stuck, .ref cn_TooMany]) rfl (.inl rfl) (by decide) (by decide) TK_NoText (by rfl) (B.all "isinstance" (by decide)) (by rfl) XD_NoText.gl (by decide) (pa_cons (pe_glob (v := .ref cn_NoLine) (by rfl) GN_NoLine rfl) (pa_cons (pe_glob (v := .ref cn_NoStep) (by rfl) GN_NoStep rfl) (pa_cons (pe_glob (v := .ref cn_Stuck) (by rfl) GN_Stuck rfl) (pa_cons (pe_glob (v := .ref cn_TooMany) (by rfl) GN_TooMany rfl) pa_nil)))) (.cons (.own _) (.cons (.own _) (.cons (.own _) (.cons (.own _) .nil)))) (by simp))))
abbrev s_l_right : Stmt := topS 36
theorem sc_l_right : FnScope n_l_right ["_law_text"] (defScope s_l_right) :=
  ⟨rfl, rfl, rfl, by decide +kernel, rfl, by decide +kernel, by decide +kernel⟩
theorem c_l_right {P : Program} {w : World} {K : PySem.W.Frag} {mg : Str → Option Value} {base : Heap} {f : Addr} {fd : FuncData} (Fn : Fun K "_law_right" "_law_right" s_l_right f fd) (g : mg "_law_right" = some (.ref f)) (bd : Binds K fd ["_law_text"] []) (B : BI mg) (C_l_term_of : DC P w K mg base 61 "_law_term_of" ["_law_text"] (spP m_l_term_of)) (C_l_told : DC P w K mg base 6 "_law_told" ["_law_text"] (spP m_l_told)) :
    DC P w K mg base 62 "_law_right" ["_law_text"] (spP m_l_right) := by
  exact dcP Fn g bd sc_l_right (fun cdv A outer s H E hr => by
    have hv := hr.u64
    have hu := hr.hu
    exact (fss_cons (fs_set (i := 1) sc_l_right.nd rfl (.inl rfl) (fe_orL (fe_callP C_l_term_of (hr.mono (by decide)) (by rfl) (fa_cons (fe_var 0) fa_nil)) (fe_one (fe_tup (fa_cons (fe_c de_int) fa_nil)))))
      (fss_one (fs_ret (fe_cmp (fo_eq hv) (fe_callB (fc_reprLV hv hr.g) (by rfl) (B.all "repr" (by decide)) PyProof.Rows.boot_repr (fa_cons (fe_callP C_l_told (hr.mono (by decide)) (by rfl) (fa_cons (fe_var 0) fa_nil)) fa_nil)) (fe_callB (fc_reprLV hv hr.g) (by rfl) (B.all "repr" (by decide)) PyProof.Rows.boot_repr (fa_cons (fe_var 1) fa_nil)))))))
abbrev s_law : Stmt := topS 37
theorem sc_law : FnScope n_law ["_law_script"] (defScope s_law) :=
  ⟨rfl, rfl, rfl, by decide +kernel, rfl, by decide +kernel, by decide +kernel⟩
theorem c_law {P : Program} {w : World} {K : PySem.W.Frag} {mg : Str → Option Value} {base : Heap} {f : Addr} {fd : FuncData} (Fn : Fun K "law" "law" s_law f fd) (g : mg "law" = some (.ref f)) (bd : Binds K fd ["_law_script"] []) (B : BI mg) (C_l_hand : FC P w K mg base 1 "_law_hand" ["_law_script", "_law_k"] m_l_hand) (C_l_bare_kind : FC P w K mg base 4 "_law_bare_kind" ["_law_hand_here", "_law_many"] m_l_bare_kind) (C_l_sorts_drawn : FC P w K mg base 3 "_law_sorts_drawn" ["_law_hand_here", "_law_kind", "_law_most"] m_l_sorts_drawn) (C_l_pick : FC P w K mg base 2 "_law_pick" ["_law_hand_here", "_law_some"] m_l_pick) (C_l_written : DC P w K mg base 60 "_law_written" ["_law_term"] (spP (m_l_written 60))) (C_l_open_term : FC P w K mg base 62 "_law_open_term" ["_law_hand_here", "_law_kind", "_law_sorts", "_law_sort", "_law_left"] (m_l_open_term 60)) (C_l_take : FC P w K mg base 1 "_law_take" ["_law_hand_here", "_law_many"] m_l_take) (C_l_text_bent : FC P w K mg base 3 "_law_text_bent" ["_law_hand_here", "_law_text"] m_l_text_bent) (C_l_right : DC P w K mg base 62 "_law_right" ["_law_text"] (spP m_l_right)) (C_l_told : DC P w K mg base 6 "_law_told" ["_law_text"] (spP m_l_told)) :
    FnD P w K mg base 63 f fd ["_law_script"] (spP m_law) := by
  exact fdP Fn sc_law (fun cdv A outer s H E hr => by
    have hv := hr.u64
    have hu := hr.hu
    exact (fss_cons (fs_setO (i := 1) sc_law.nd rfl (.inl rfl) (fo_new (ff_lst (fa_cons (fe_c de_str) (fa_cons (fe_c de_str) (fa_cons (fe_c de_str) (fa_cons (fe_c de_str) (fa_cons (fe_c de_str) (fa_cons (fe_c de_str) (fa_cons (fe_c de_str) (fa_cons (fe_c de_str) (fa_cons (fe_c de_str) (fa_cons (fe_c de_str) (fa_cons (fe_c de_str) (fa_cons (fe_c de_str) (fa_cons (fe_c de_str) (fa_cons (fe_c de_str) fa_nil)))))))))))))))))
      (fss_cons (fs_setO (i := 1) sc_law.nd rfl (.inl rfl) (fo_new (ff_catVF (de_var 1) (ff_lst (fa_cons (fe_c de_str) (fa_cons (fe_c de_str) (fa_cons (fe_c de_str) (fa_cons (fe_c de_str) (fa_cons (fe_c de_str) (fa_cons (fe_c de_str) (fa_cons (fe_c de_str) (fa_cons (fe_c de_str) (fa_cons (fe_c de_str) (fa_cons (fe_c de_str) fa_nil))))))))))))))
      (fss_cons (fs_setO (i := 1) sc_law.nd rfl (.inl rfl) (fo_new (ff_catVF (de_var 1) (ff_lst (fa_cons (fe_c de_str) (fa_cons (fe_c de_str) fa_nil))))))
      (fss_cons (fs_for PassesOwn.never rfl (fi_range1 (by rfl) (B.all "range" (by decide)) (fa_cons (fe_callB (fc_max rfl) (by rfl) (B.all "max" (by decide)) PyProof.Rows.boot_max (fa_cons (fe_c de_int) (fa_cons (fe_callB (fc_min rfl) (by rfl) (B.all "min" (by decide)) PyProof.Rows.boot_min (fa_cons (fe_c de_int) (fa_cons (fe_callB fc_len (by rfl) (B.all "len" (by decide)) PySem.boot_len (fa_cons (fe_var 0) fa_nil)) fa_nil))) fa_nil))) fa_nil)) (fg_name (i := 2) sc_law.nd rfl (.inl rfl)) (fss_cons (fs_setO (i := 3) sc_law.nd rfl (.inr rfl) (fo_call C_l_hand (hr.mono (by decide)) (by rfl) (fl_v (fe_var 0) (fl_v (fe_var 2) fl_nil))))
      (fss_cons (fs_set (i := 4) sc_law.nd rfl (.inl rfl) (fe_call C_l_bare_kind (hr.mono (by decide)) (by rfl) (fl_s (de_var 3) (fl_v (fe_c de_int) fl_nil))))
      (fss_one (fs_for PassesOwn.never rfl (fi_range1 (by rfl) (B.all "range" (by decide)) (fa_cons (fe_c de_int) fa_nil)) (fg_name (i := 5) sc_law.nd rfl (.inl rfl)) (fss_cons (fs_set (i := 6) sc_law.nd rfl (.inl rfl) (fe_call C_l_sorts_drawn (hr.mono (by decide)) (by rfl) (fl_s (de_var 3) (fl_v (fe_var 4) (fl_v (fe_c de_int) fl_nil)))))
      (fss_cons (fs_set (i := 7) sc_law.nd rfl (.inl rfl) (fe_call C_l_pick (hr.mono (by decide)) (by rfl) (fl_s (de_var 3) (fl_n (fo_new (ff_catFF (ff_lst (fa_cons (fe_c de_str) (fa_cons (fe_c de_str) fa_nil))) (ff_lc rfl sc_law.nd (fi_tup (fe_ix hu (fe_var 4) (fe_c de_int))) (own := [("_law_row", 8)]) (show BlkOk n_law (defScope s_law) _ _ from ⟨rfl, by decide +kernel, by decide +kernel, by decide +kernel, by decide +kernel⟩) (fun _ _ _ _ _ => (fg_name (i := 8) sc_law.nd rfl (.inl rfl))) (fun _ _ _ _ _ => fts_nil) (fun _ _ _ _ _ => (fe_ix hu (fe_var 8) (fe_c de_int)))))) fl_nil))))
      (fss_cons (fs_set (i := 9) sc_law.nd rfl (.inr rfl) (fe_callP C_l_written (hr.mono (by decide)) (by rfl) (fa_cons (fe_call C_l_open_term (hr.mono (by decide)) (by rfl) (fl_s (de_var 3) (fl_v (fe_var 4) (fl_v (fe_var 6) (fl_v (fe_var 7) (fl_n (fo_new (ff_lst (fa_cons (fe_call C_l_take (hr.mono (by decide)) (by rfl) (fl_s (de_var 3) (fl_v (fe_c de_int) fl_nil))) fa_nil))) fl_nil)))))) fa_nil)))
      (fss_cons (fs_setO (i := 10) sc_law.nd rfl (.inl rfl) (fo_new (ff_catFF (ff_lst (fa_cons (fe_var 9) fa_nil)) (ff_lc rfl sc_law.nd (fi_range1 (by rfl) (B.all "range" (by decide)) (fa_cons (fe_c de_int) fa_nil)) (own := [("_law_again", 11)]) (show BlkOk n_law (defScope s_law) _ _ from ⟨rfl, by decide +kernel, by decide +kernel, by decide +kernel, by decide +kernel⟩) (fun _ _ _ _ _ => (fg_name (i := 11) sc_law.nd rfl (.inl rfl))) (fun _ _ _ _ _ => fts_nil) (fun _ _ _ _ _ => (fe_call C_l_text_bent (hr.mono (by decide)) (by rfl) (fl_s (de_var 3) (fl_v (fe_var 9) fl_nil))))))))
      (fss_one (fs_if (ft_not (ft_val (fe_allF rfl (by rfl) (B.all "all" (by decide)) (ff_lc rfl sc_law.nd (fi_slot (de_var 10)) (own := [("_law_one", 12)]) (show BlkOk n_law (defScope s_law) _ _ from ⟨rfl, by decide +kernel, by decide +kernel, by decide +kernel, by decide +kernel⟩) (fun _ _ _ _ _ => (fg_name (i := 12) sc_law.nd rfl (.inl rfl))) (fun _ _ _ _ _ => fts_nil) (fun _ _ _ _ _ => (fe_callP C_l_right (hr.mono (by decide)) (by rfl) (fa_cons (fe_var 12) fa_nil))))))) (fss_one (fs_ret (fe_c de_bl))) fss_nil)))))))))))
      (fss_cons (fs_set (i := 13) sc_law.nd rfl (.inl rfl) (fe_c de_str))
      (fss_cons (fs_set (i := 13) sc_law.nd rfl (.inl rfl) (fe_bin fo_add (fe_var 13) (fe_c de_str)))
      (fss_cons (fs_for PassesOwn.never rfl (fi_str (fe_var 13)) (fg_name (i := 14) sc_law.nd rfl (.inl rfl)) (fss_one (fs_setO (i := 1) sc_law.nd rfl (.inl rfl) (fo_new (ff_catVF (de_var 1) (ff_lst (fa_cons (fe_bin fo_add (fe_c de_str) (fe_var 14)) (fa_cons (fe_bin fo_add (fe_c de_str) (fe_var 14)) (fa_cons (fe_bin fo_add (fe_c de_str) (fe_var 14)) (fa_cons (fe_bin fo_add (fe_var 14) (fe_c de_str)) (fa_cons (fe_bin fo_add (fe_bin fo_add (fe_c de_str) (fe_var 14)) (fe_c de_str)) (fa_cons (fe_bin fo_add (fe_bin fo_add (fe_c de_str) (fe_var 14)) (fe_c de_str)) fa_nil))))))))))))
      (fss_cons (fs_if (ft_not (ft_val (fe_allF rfl (by rfl) (B.all "all" (by decide)) (ff_lc rfl sc_law.nd (fi_slot (de_var 1)) (own := [("_law_one", 12)]) (show BlkOk n_law (defScope s_law) _ _ from ⟨rfl, by decide +kernel, by decide +kernel, by decide +kernel, by decide +kernel⟩) (fun _ _ _ _ _ => (fg_name (i := 12) sc_law.nd rfl (.inl rfl))) (fun _ _ _ _ _ => fts_nil) (fun _ _ _ _ _ => (fe_callP C_l_right (hr.mono (by decide)) (by rfl) (fa_cons (fe_var 12) fa_nil))))))) (fss_one (fs_ret (fe_c de_bl))) fss_nil)
      (fss_one (fs_ret (fe_allF rfl (by rfl) (B.all "all" (by decide)) (ff_lc rfl sc_law.nd (fi_new (ff_lst (fa_cons (fe_c de_non) (fa_cons (fe_c de_int) (fa_cons (fe_c de_bl) (fa_cons (fe_tup (fa_cons (fe_c de_str) fa_nil)) (fa_cons (fe_frz (ff_lst (fa_cons (fe_c de_str) fa_nil))) (fa_cons fe_edic (fa_cons (fe_tup fa_nil) (fa_cons (fe_c de_int) fa_nil)))))))))) (own := [("_law_thing", 15)]) (show BlkOk n_law (defScope s_law) _ _ from ⟨rfl, by decide +kernel, by decide +kernel, by decide +kernel, by decide +kernel⟩) (fun _ _ _ _ _ => (fg_name (i := 15) sc_law.nd rfl (.inl rfl))) (fun _ _ _ _ _ => fts_nil) (fun _ _ _ _ _ => (fe_cmp (fo_eq hv) (fe_callP C_l_told (hr.mono (by decide)) (by rfl) (fa_cons (fe_var 15) fa_nil)) (fe_tup (fa_cons (fe_c de_int) fa_nil)))))))))))))))))
end KX

namespace KX
open PySem PySem.Spec PyProof.Rows L2 DL FL

theorem log_big {i : Int} (h1 : -(10 ^ 200) < i) (h2 : i < 10 ^ 200) : i.natAbs.log2 < 1000 := by
  have h : i.natAbs < 2 ^ 1000 := by
    have e : (10 : Int) ^ 200 ≤ 2 ^ 1000 := by decide +kernel
    omega
  exact PySem.Flt.log2_lt_of (by decide) h
theorem log_mul {i j : Int} (h1 : -(10 ^ 200) < i) (h2 : i < 10 ^ 200) (h3 : -(10 ^ 200) < j) (h4 : j < 10 ^ 200) : i.natAbs.log2 + j.natAbs.log2 < 1000000 := by
  have x := log_big h1 h2
  have y := log_big h3 h4
  omega
theorem log_div {j : Int} (h0 : 0 < j) (h4 : j < 10 ^ 200) : 0 < j ∧ j.natAbs.log2 < 9000 := by
  have y := log_big (i := j) (by have : (0:Int) ≤ 10 ^ 200 := by decide +kernel
                                 omega) h4
  exact ⟨h0, by omega⟩
theorem mul_bd {i j A B : Int} (h1 : 0 ≤ i) (h2 : i ≤ A) (h3 : 0 ≤ j) (h4 : j ≤ B) : 0 ≤ i * j ∧ i * j ≤ A * B :=
  ⟨Int.mul_nonneg h1 h3, Int.mul_le_mul h2 h4 h3 (Int.le_trans h1 h2)⟩

def Hand (n : Int) (p : PV) : Prop := ∃ g m c : Int, p = .lst [.int g, .int m, .int c] ∧ 0 ≤ g ∧ g < 10 ^ 90 ∧ 0 ≤ m ∧ m < 2305843009213693951 ∧ 0 ≤ c ∧ c ≤ n
theorem Hand.mono {p : PV} {n k : Int} (h : Hand n p) (l : n ≤ k) : Hand k p := by
  obtain ⟨g, m, c, h0, h1, h2, h3, h4, h5, h6⟩ := h
  exact ⟨g, m, c, h0, h1, h2, h3, h4, h5, Int.le_trans h6 l⟩
theorem take_ok {n many : Int} {p : PV} (h : Hand n p) (hn : n ≤ 1000000) (k0 : 1 ≤ many) (k1 : many ≤ 1000000) :
    ∃ (d : Int) (p' : PV), m_l_take [p, .val (.int many)] = some (.ok (.val (.int d)), [p', .val (.int many)]) ∧ 0 ≤ d ∧ d < many ∧ Hand (n + 1) p' := by
  obtain ⟨g, m, c, rfl, g0, g1, m0, m1, c0, c1⟩ := h
  have hm : 0 < many := by omega
  have hd := log_div (j := many) hm (by have : (1000000 : Int) < 10 ^ 200 := by decide +kernel
                                        omega)
  by_cases hg : 0 < g
  · refine ⟨g % many, .lst [.int (g / many), .int m, .int c], by simp [m_l_take, hg, hm, hd], Int.emod_nonneg _ (by omega), Int.emod_lt_of_pos _ hm, g / many, m, c, rfl, Int.ediv_nonneg g0 (by omega), ?_, m0, m1, c0, by omega⟩
    exact Int.lt_of_le_of_lt (Int.ediv_le_self _ g0) g1
  · have b1 := mul_bd (i := c + 1) (j := c + 1) (A := 1000001) (B := 1000001) (by omega) (by omega) (by omega) (by omega)
    have b2 : 0 ≤ 65537 * (c + 1) * (c + 1) ∧ 65537 * (c + 1) * (c + 1) ≤ 65537 * 1000001 * 1000001 := by
      rw [Int.mul_assoc]
      omega
    have big : (10 : Int) ^ 60 < 10 ^ 200 := by decide +kernel
    have l1 := log_mul (i := 65537) (j := c + 1) (by omega) (by omega) (by omega) (by omega)
    have l2 := log_mul (i := 65537 * (c + 1)) (j := c + 1) (by omega) (by omega) (by omega) (by omega)
    have l3 := log_mul (i := m + 65537 * (c + 1) * (c + 1) + 11) (j := 48271) (by omega) (by omega) (by omega) (by omega)
    have l4 := log_mul (i := 99991) (j := c + 1) (by omega) (by omega) (by omega) (by omega)
    have x0 : 0 ≤ (m + 65537 * (c + 1) * (c + 1) + 11) * 48271 % 2305843009213693921 := Int.emod_nonneg _ (by decide)
    have x1 : (m + 65537 * (c + 1) * (c + 1) + 11) * 48271 % 2305843009213693921 < 2305843009213693921 := Int.emod_lt_of_pos _ (by decide)
    generalize hx : (m + 65537 * (c + 1) * (c + 1) + 11) * 48271 % 2305843009213693921 = x at x0 x1
    have y0 : 0 ≤ x % 1000003 := Int.emod_nonneg _ (by decide)
    have y1 : x % 1000003 < 1000003 := Int.emod_lt_of_pos _ (by decide)
    have l5 := log_mul (i := x) (j := x % 1000003 + 99991 * (c + 1)) (by omega) (by omega) (by omega) (by omega)
    refine ⟨(x * (x % 1000003 + 99991 * (c + 1)) % 2305843009213693907 / 97 + x * (x % 1000003 + 99991 * (c + 1)) % 2305843009213693907 / 1000033) % many, .lst [.int g, .int m, .int (c + 1)], ?_, Int.emod_nonneg _ (by omega), Int.emod_lt_of_pos _ hm, g, m, c + 1, rfl, g0, g1, m0, m1, by omega, by omega⟩
    have q1 : Nat.log2 97 < 9000 := by decide +kernel
    have q2 : Nat.log2 1000033 < 9000 := by decide +kernel
    simp at l1 l2 l3 l4 l5
    simp [m_l_take, hg, hm, l1, l2, l3, l4, l5, hx, q1, q2]

theorem pick_ok {n : Int} {p s : PV} {xs : List D} (h : Hand n p) (hn : n ≤ 1000000) (hs : s = .val (.tup xs) ∨ s = .lst xs) (hx : xs ≠ []) (hl : xs.length ≤ 1000000) :
    ∃ x p', m_l_pick [p, s] = some (.ok (.val x), [p', s]) ∧ x ∈ xs ∧ Hand (n + 1) p' := by
  have hpos : 0 < xs.length := List.length_pos_iff.mpr hx
  obtain ⟨d, p', e, d0, d1, hp⟩ := take_ok (many := xs.length) h hn (by omega) (by omega)
  obtain ⟨x, ex, hm, _⟩ := atI_lt d0 d1
  refine ⟨x, p', ?_, hm, hp⟩
  rcases hs with rfl | rfl <;> simp [m_l_pick, e, ex]
theorem pickT_ok {n : Int} {p : PV} {xs : List D} (h : Hand n p) (hn : n ≤ 1000000) (hx : xs ≠ []) (hl : xs.length ≤ 1000000) :
    ∃ x p', m_l_pick [p, .val (.tup xs)] = some (.ok (.val x), [p', .val (.tup xs)]) ∧ x ∈ xs ∧ Hand (n + 1) p' := pick_ok h hn (.inl rfl) hx hl
theorem pickL_ok {n : Int} {p : PV} {xs : List D} (h : Hand n p) (hn : n ≤ 1000000) (hx : xs ≠ []) (hl : xs.length ≤ 1000000) :
    ∃ x p', m_l_pick [p, .lst xs] = some (.ok (.val x), [p', .lst xs]) ∧ x ∈ xs ∧ Hand (n + 1) p' := pick_ok h hn (.inr rfl) hx hl
theorem size_ok {n few most : Int} {p : PV} (h : Hand n p) (hn : n ≤ 900000) (h1 : 1 ≤ few) (h2 : few ≤ most) (h3 : most ≤ 1000) :
    ∃ (d : Int) (p' : PV), m_l_size [p, .val (.int few), .val (.int most)] = some (.ok (.val (.int d)), [p', .val (.int few), .val (.int most)]) ∧ 1 ≤ d ∧ d ≤ most ∧ Hand (n + 2) p' := by
  obtain ⟨d, p1, e1, d0, d1, hp1⟩ := take_ok (many := 8) h (by omega) (by omega) (by omega)
  obtain ⟨x, ex, hm, _⟩ := atI_lt (xs := ([.int few, .int few, .int few, .int few, .int few, .int few, .int few, .int most] : List D)) d0 d1
  obtain ⟨k, rfl, k1, k2⟩ : ∃ k, x = .int k ∧ 1 ≤ k ∧ k ≤ most := by
    simp only [List.mem_cons, List.not_mem_nil, or_false, or_self_left, or_self] at hm
    rcases hm with rfl | rfl
    · exact ⟨_, rfl, h1, h2⟩
    · exact ⟨_, rfl, by omega, by omega⟩
  obtain ⟨d2, p2, e2, e0, e3, hp2⟩ := take_ok (many := k) hp1 (by omega) (by omega) (by omega)
  refine ⟨1 + d2, p2, ?_, by omega, by omega, by rw [show n + 2 = n + 1 + 1 by omega]; exact hp2⟩
  simp [m_l_size, e1, ex, e2]
def letters : Str := "abcdefghijklmnopqrstuvwxyz"
theorem letters_eq : letters.cps.toList = (List.range 26).map (97 + ·) := by rfl
def signs (a b : Int) (k : Nat) : List Nat :=
  if k < 26 then List.replicate (1 + ((k * k : Int) + a) % 4).toNat (97 + ((a + b * k) % 26).toNat) else [97 + ((a + b * k) % 26).toNat, 120, 121, 122]
def wordAt (a b : Int) (k : Nat) : Str := ⟨(signs a b k).toArray⟩
def wordsOf (a b : Int) (n : Nat) : List Str := (List.range n).map (wordAt a b)
def okHead (w : Str) : Bool := decide (w.cps.toList ≠ [116, 104, 105, 110, 103]) && (decide (w.cps.toList ≠ [105, 115]) && decide (w.cps.toList ≠ [110, 111, 116]))
def okW (w : Str) : Bool := okHead w && decide (1 ≤ w.cps.size) && decide (w.cps.size ≤ 4) && w.cps.toList.all fun c => decide (97 ≤ c) && decide (c < 123)
structure Words (ws : List Str) : Prop where
  nd : ws.Nodup
  ok : ∀ w ∈ ws, okW w = true
theorem signs_not {a b : Int} {k x y : Nat} {t : List Nat} (h : x ≠ y) (hy : y ≠ 120) : signs a b k ≠ x :: y :: t := by
  unfold signs
  split
  · intro z
    have hx : x ∈ List.replicate (1 + ((k * k : Int) + a) % 4).toNat (97 + ((a + b * k) % 26).toNat) := by rw [z]; simp
    have hy : y ∈ List.replicate (1 + ((k * k : Int) + a) % 4).toNat (97 + ((a + b * k) % 26).toNat) := by rw [z]; simp
    exact h ((List.mem_replicate.mp hx).2.trans (List.mem_replicate.mp hy).2.symm)
  · intro z
    simp only [List.cons.injEq] at z
    exact hy z.2.1.symm
theorem signs_ok {a b : Int} {k : Nat} : 1 ≤ (signs a b k).length ∧ (signs a b k).length ≤ 4 ∧ ∀ c ∈ signs a b k, 97 ≤ c ∧ c < 123 := by
  have h0 := Int.emod_nonneg (a + b * k) (show (26 : Int) ≠ 0 by decide)
  have h1 := Int.emod_lt_of_pos (a + b * k) (show (0 : Int) < 26 by decide)
  have h2 := Int.emod_nonneg ((k * k : Int) + a) (show (4 : Int) ≠ 0 by decide)
  have h3 := Int.emod_lt_of_pos ((k * k : Int) + a) (show (0 : Int) < 4 by decide)
  unfold signs
  split
  · refine ⟨by rw [List.length_replicate]; omega, by rw [List.length_replicate]; omega, fun c hc => ?_⟩
    have := List.eq_of_mem_replicate hc
    omega
  · refine ⟨by simp, by simp, fun c hc => ?_⟩
    simp only [List.mem_cons, List.not_mem_nil, or_false] at hc
    omega
theorem signs_inj {a b : Int} (hb : b ∈ [1, 3, 5, 7, 9, 11]) {j k : Nat} (hj : j < 40) (hk : k < 40) (h : signs a b j = signs a b k) : j = k := by
  have h2 := Int.emod_nonneg ((k * k : Int) + a) (show (4 : Int) ≠ 0 by decide)
  have h3 := Int.emod_nonneg ((j * j : Int) + a) (show (4 : Int) ≠ 0 by decide)
  have hd : ∀ i : Nat, (signs a b i).head? = some (97 + ((a + b * i) % 26).toNat) := fun i => by
    have h2 := Int.emod_nonneg ((i * i : Int) + a) (show (4 : Int) ≠ 0 by decide)
    unfold signs
    split
    · obtain ⟨m, hm⟩ : ∃ m, (1 + ((i * i : Int) + a) % 4).toNat = m + 1 := ⟨(((i * i : Int) + a) % 4).toNat, by omega⟩
      rw [hm, List.replicate_succ]
      rfl
    · rfl
  have e : ((a + b * j) % 26).toNat = ((a + b * k) % 26).toNat := by
    have := (hd j).symm.trans (h ▸ hd k)
    have := Option.some.inj this
    omega
  have h0 := Int.emod_nonneg (a + b * k) (show (26 : Int) ≠ 0 by decide)
  have h1 := Int.emod_nonneg (a + b * j) (show (26 : Int) ≠ 0 by decide)
  have e2 : (a + b * j) % 26 = (a + b * k) % 26 := by omega
  have mixed : ∀ {m c d : Nat}, List.replicate m c = [d, 120, 121, 122] → False := fun {m c d} z => by
    have x1 : (120 : Nat) ∈ List.replicate m c := by rw [z]; simp
    have x2 : (121 : Nat) ∈ List.replicate m c := by rw [z]; simp
    have y1 := List.eq_of_mem_replicate x1
    have y2 := List.eq_of_mem_replicate x2
    omega
  have near : (j < 26 ∧ k < 26) ∨ (26 ≤ j ∧ 26 ≤ k) := by
    by_cases q1 : j < 26 <;> by_cases q2 : k < 26
    · exact .inl ⟨q1, q2⟩
    · unfold signs at h
      rw [if_pos q1, if_neg q2] at h
      exact (mixed h).elim
    · unfold signs at h
      rw [if_neg q1, if_pos q2] at h
      exact (mixed h.symm).elim
    · exact .inr ⟨by omega, by omega⟩
  simp only [List.mem_cons, List.not_mem_nil, or_false] at hb
  rcases hb with rfl | rfl | rfl | rfl | rfl | rfl <;> omega
theorem words_nd {a b : Int} (hb : b ∈ [1, 3, 5, 7, 9, 11]) {m : Nat} (hm : m ≤ 40) : Words (wordsOf a b m) := by
  refine ⟨?_, fun w hw => ?_⟩
  · unfold wordsOf List.Nodup
    rw [List.pairwise_map]
    refine List.Pairwise.imp_of_mem ?_ (show (List.range m).Pairwise (· ≠ ·) from List.nodup_range)
    intro j k hj hk ne z
    have hj' := List.mem_range.mp hj
    have hk' := List.mem_range.mp hk
    refine ne (signs_inj (a := a) hb (by omega) (by omega) ?_)
    have := congrArg (fun s : Str => s.cps.toList) z
    simpa [wordAt] using this
  · unfold wordsOf at hw
    obtain ⟨k, hk, rfl⟩ := List.mem_map.mp hw
    obtain ⟨h0, h1, h2⟩ := signs_ok (a := a) (b := b) (k := k)
    unfold okW okHead wordAt
    simp only [Bool.and_eq_true, decide_eq_true_eq, List.all_eq_true, List.size_toArray]
    refine ⟨⟨⟨⟨fun z => ?_, fun z => ?_, fun z => ?_⟩, h0⟩, h1⟩, h2⟩
    · rw [z] at h1
      simp at h1
    · exact signs_not (x := 105) (y := 115) (t := []) (by omega) (by omega) z
    · exact signs_not (x := 110) (y := 111) (t := [116]) (by omega) (by omega) z
theorem letter_get {i : Int} (h0 : 0 ≤ i) (h1 : i < 26) : atI letters.cps.toList i = some (97 + i.toNat) := by
  rw [letters_eq]
  have e : ((List.range 26).map (97 + ·))[i.toNat]? = some (97 + i.toNat) := by
    rw [List.getElem?_map, List.getElem?_range (by omega)]
    rfl
  have := atI_nat e
  rwa [Int.toNat_of_nonneg h0] at this
theorem strMul_one {c : Nat} {i : Int} (h : 1 ≤ i) : strMul ⟨#[c]⟩ i = ⟨(List.replicate i.toNat c).toArray⟩ := by
  unfold strMul
  rw [if_neg (by omega)]
  congr 1
  have all : ∀ (n : Nat) (acc : List Nat), (List.replicate n #[c]).foldl (· ++ ·) acc.toArray = (acc ++ List.replicate n c).toArray := by
    intro n
    induction n with
    | zero => intro acc; simp
    | succ n ih =>
      intro acc
      rw [List.replicate_succ, List.foldl_cons]
      have : (acc.toArray ++ #[c]) = (acc ++ [c]).toArray := by simp
      rw [this, ih, List.replicate_succ]
      simp
  exact all i.toNat []
theorem words_step {a b : Int} {k : Nat} : (wordsOf a b (k + 1)).map D.str = (wordsOf a b k).map D.str ++ [.str (wordAt a b k)] := by
  unfold wordsOf
  rw [List.range_succ]
  simp
theorem words_ok {n many : Int} {p : PV} (h : Hand n p) (hn : n ≤ 900000) (m0 : 0 ≤ many) (hm : many ≤ 40) :
    ∃ ws p', m_l_words [p, .val (.int many)] = some (.ok (.lst (ws.map D.str)), [p', .val (.int many)]) ∧ Words ws ∧ (ws.length : Int) = many ∧ Hand (n + 2) p' := by
  obtain ⟨a, p1, e1, a0, a1, hp1⟩ := take_ok (many := 26) h (by omega) (by omega) (by omega)
  obtain ⟨x, p2, e2, hx, hp2⟩ := pickL_ok (xs := [.int 1, .int 3, .int 5, .int 7, .int 9, .int 11]) hp1 (by omega) (by simp) (by simp)
  obtain ⟨b, rfl, hb⟩ : ∃ b : Int, x = .int b ∧ b ∈ [1, 3, 5, 7, 9, 11] := by
    simp only [List.mem_cons, List.not_mem_nil, or_false] at hx
    rcases hx with rfl | rfl | rfl | rfl | rfl | rfl <;> exact ⟨_, rfl, by simp⟩
  have b0 : 1 ≤ b ∧ b ≤ 11 := by
    simp only [List.mem_cons, List.not_mem_nil, or_false] at hb
    omega
  have rl := run_range (c := cYes (DL.intsFrom 0 many.toNat)) (n := many.toNat) (g := gN 6)
    (b := b_l_words_1)
    (fun k ε => ∃ x6 x7, ε = [some p2, some (.val (.int many)), some (.val (.str letters)), some (.val (.int a)), some (.val (.int b)), some (.lst ((wordsOf a b k).map .str)), x6, x7]) (fun _ => rfl)
    (fun k ε hk ⟨x6, x7, hε⟩ => by
      subst hε
      have hk2 : k < 40 := by omega
      have d0 := mul_bd (i := b) (j := (k : Int)) (A := 11) (B := 40) (by omega) (by omega) (by omega) (by omega)
      have d1 := mul_bd (i := (k : Int)) (j := (k : Int)) (A := 40) (B := 40) (by omega) (by omega) (by omega) (by omega)
      have d2 := Int.emod_nonneg (a + b * k) (show (26 : Int) ≠ 0 by decide)
      have d3 := Int.emod_lt_of_pos (a + b * k) (show (0 : Int) < 26 by decide)
      have d4 := Int.emod_nonneg ((k * k : Int) + a) (show (4 : Int) ≠ 0 by decide)
      have d5 := Int.emod_lt_of_pos ((k * k : Int) + a) (show (0 : Int) < 4 by decide)
      have big : (10 : Int) ^ 60 < 10 ^ 200 := by decide +kernel
      have l1 := log_mul (i := b) (j := k) (by omega) (by omega) (by omega) (by omega)
      have l2 := log_mul (i := k) (j := k) (by omega) (by omega) (by omega) (by omega)
      have hlen : (wordsOf a b k).length ≤ 1000000 := by
        unfold wordsOf
        simp
        omega
      have ll : letters.length ≤ 1000000 := by decide
      have lg := letter_get d2 d3
      simp at l1 l2
      by_cases h26 : k < 26
      · have h26' : (k : Int) < 26 := by omega
        have ew : strMul ⟨#[97 + ((a + b * k) % 26).toNat]⟩ (1 + ((k * k : Int) + a) % 4) = wordAt a b k := by
          rw [strMul_one (by omega)]
          unfold wordAt signs
          rw [if_pos h26]
        have c1 : -1000 ≤ 1 + ((k * k : Int) + a) % 4 ∧ 1 + ((k * k : Int) + a) % 4 ≤ 1000 := by omega
        have c2 : (⟨#[97 + ((a + b * k) % 26).toNat]⟩ : Str).length ≤ 1000 := by show 1 ≤ 1000; decide
        simp [b_l_words_1, ll, lg, l1, l2, h26', c1, c2, ew, hlen, words_step]
      · have h26' : ¬ (k : Int) < 26 := by omega
        have ew : (⟨#[97 + ((a + b * k) % 26).toNat]⟩ : Str) ++ Str.ofString "xyz" = wordAt a b k := by
          unfold wordAt signs
          rw [if_neg h26]
          rfl
        have c2 : (⟨#[97 + ((a + b * k) % 26).toNat]⟩ : Str).length + (Str.ofString "xyz").length ≤ 1000000 := by show 1 + 3 ≤ 1000000; decide
        simp [b_l_words_1, ll, lg, l1, l2, h26', c2, ew, hlen, words_step])
    (ε := [some p2, some (.val (.int many)), some (.val (.str letters)), some (.val (.int a)), some (.val (.int b)), some (.lst []), none, none]) ⟨_, _, rfl⟩
  obtain ⟨ε', er, x6, x7, rfl⟩ := rl
  refine ⟨wordsOf a b many.toNat, p2, ?_, words_nd hb (by omega), by simp [wordsOf]; omega, by rw [show n + 2 = n + 1 + 1 by omega]; exact hp2⟩
  have hr := rng1_ok (j := many) (by omega) (by omega)
  have el : (D.str "abcdefghijklmnopqrstuvwxyz") = D.str letters := rfl
  simp [m_l_words, e1, e2, hr, el, er]
end KX

namespace KX
open PySem PySem.Spec PyProof.Rows L2 DL FL

abbrev Row := Str × List Str
def strL (xs : List Str) : D := .tup (xs.map D.str)
def rowD (r : Row) : D := .tup [.str r.1, strL r.2]
def rowsD (rs : List Row) : D := .tup (rs.map rowD)
@[simp] theorem toT_rowsD (rs : List Row) : toT (rowsD rs) = some (rs.map rowD) := rfl
@[simp] theorem toT_strL (xs : List Str) : toT (strL xs) = some (xs.map D.str) := rfl
@[simp] theorem enumT_strL (xs : List Str) : enumT [strL xs] = some (pairsFrom 0 (xs.map D.str)) := rfl
@[simp] theorem fLen_strL (xs : List Str) : fLen [strL xs] = some (.int xs.length) := by simp [strL]
@[simp] theorem fLen_rowsD (xs : List Row) : fLen [rowsD xs] = some (.int xs.length) := by simp [rowsD]
@[simp] theorem fIx_rowD0 (r : Row) : fIx (rowD r) (.int 0) = some (.str r.1) := by simp [rowD]
@[simp] theorem fIx_rowD1 (r : Row) : fIx (rowD r) (.int 1) = some (strL r.2) := by simp [rowD]
@[simp] theorem asD_rowsD (rs : List Row) : asD (.val (rowsD rs)) = some (rowsD rs) := rfl
def namesOf (rs : List Row) : List Str := rs.map (·.1)
def wordsIn (rs : List Row) : List Str := rs.flatMap fun r => r.1 :: r.2
structure Took (ws ws' us : List Str) (most : Nat) : Prop where
  perm : ws.Perm (ws' ++ us)
  many : us.length ≤ most
theorem Took.refl {ws : List Str} : Took ws ws [] 0 := ⟨by simp, by simp⟩
theorem Took.trans {ws ws1 ws2 us vs : List Str} {m k : Nat} (a : Took ws ws1 us m) (b : Took ws1 ws2 vs k) : Took ws ws2 (us ++ vs) (m + k) := by
  refine ⟨a.perm.trans ((List.Perm.append_right us b.perm).trans ?_), by rw [List.length_append]; have := a.many; have := b.many; omega⟩
  rw [List.append_assoc]
  exact List.Perm.append_left ws2 List.perm_append_comm
theorem Took.len {ws ws' us : List Str} {m : Nat} (a : Took ws ws' us m) : ws.length ≤ ws'.length + m := by
  have := a.perm.length_eq
  rw [List.length_append] at this
  have := a.many
  omega
theorem Took.mono {ws ws' us : List Str} {m k : Nat} (a : Took ws ws' us m) (h : m ≤ k) : Took ws ws' us k := ⟨a.perm, Nat.le_trans a.many h⟩
theorem Took.perm' {ws ws' us vs : List Str} {m : Nat} (a : Took ws ws' us m) (p : us.Perm vs) : Took ws ws' vs m := ⟨a.perm.trans (List.Perm.append_left ws' p), by rw [← p.length_eq]; exact a.many⟩
theorem snoc_of {ws : List Str} (h : 0 < ws.length) : ∃ ws' w, ws = ws' ++ [w] ∧ Took ws ws' [w] 1 := by
  have hne : ws ≠ [] := List.length_pos_iff.mp h
  refine ⟨ws.dropLast, ws.getLast hne, (List.dropLast_concat_getLast hne).symm, ?_, by simp⟩
  rw [List.dropLast_concat_getLast hne]
theorem map_snoc (ws : List Str) (w : Str) : (ws ++ [w]).map D.str = ws.map D.str ++ [.str w] := by simp
inductive JPv (ws : List Str) (x0 x2 x3 x4 : Option PV) : Nat → List D → PEnv → Prop
  | mk {k : Nat} {acc L : List D} (vs ws' : List Str) (h1 : acc = vs.map .str) (h2 : L = ws'.map .str) (hv : vs.length = k) (T : Took ws ws' vs k) : JPv ws x0 x2 x3 x4 k acc [x0, some (.lst L), x2, x3, x4, none]
theorem plain_words {ws : List Str} (j : Nat) (hj : j ≤ 5) (hw : 6 ≤ ws.length) {x0 x2 x3 x4 : Option PV} :
    ∃ acc ε', mLcL (cYes (DL.intsFrom 0 j)) (gN 5) (mPure true) e_l_plains_1 [5] (DL.intsFrom 0 j) [] [x0, some (.lst (ws.map .str)), x2, x3, x4, none] = some (.ok acc, ε') ∧ JPv ws x0 x2 x3 x4 j acc ε' := by
  refine comp_range (JPv ws x0 x2 x3 x4) (fun _ => rfl) ?_ ⟨[], ws, rfl, rfl, rfl, Took.refl⟩
  rintro k acc ε hk ⟨vs, ws', rfl, rfl, hv, T⟩
  have hl := T.len
  obtain ⟨ws2, w, rfl, T2⟩ := snoc_of (ws := ws') (by omega)
  simp only [map_snoc]
  simp [e_l_plains_1]
  exact ⟨vs ++ [w], ws2, by simp, rfl, by simp [hv], T.trans T2⟩
structure PlainsOk (ps : List Row) : Prop where
  pos : 1 ≤ ps.length
  few : ps.length ≤ 3
  vals : ∀ r ∈ ps, 1 ≤ r.2.length ∧ r.2.length ≤ 5
inductive JPl (ws : List Str) (n : Int) : Nat → PEnv → Prop
  | mk {k : Nat} {p' : PV} {L1 L2 : List D} {x3 x4 : Option PV} (ps : List Row) (ws' : List Str) (h1 : L1 = ws'.map .str) (h2 : L2 = ps.map rowD) (hlen : ps.length = k) (hvals : ∀ r ∈ ps, 1 ≤ r.2.length ∧ r.2.length ≤ 5)
      (T : Took ws ws' (wordsIn ps) (6 * k)) (hp : Hand (n + 2 + 2 * k) p') : JPl ws n k [some p', some (.lst L1), some (.lst L2), x3, x4, none]
theorem plains_ok {n : Int} {p : PV} {ws : List Str} (h : Hand n p) (hn : n ≤ 800000) (hw : 30 ≤ ws.length) :
    ∃ ps p' ws', m_l_plains [p, .lst (ws.map .str)] = some (.ok (.val (rowsD ps)), [p', .lst (ws'.map .str)]) ∧ PlainsOk ps ∧ Took ws ws' (wordsIn ps) 18 ∧ Hand (n + 10) p' := by
  obtain ⟨m, p1, e1, m1, m3, hp1⟩ := size_ok (few := 2) (most := 3) h (by omega) (by omega) (by omega) (by omega)
  have hr := rng1_ok (j := m) (by omega) (by omega)
  obtain ⟨ε', er, ⟨ps, ws', rfl, rfl, hlen, hvals, T, hp'⟩⟩ := run_range (c := cYes (DL.intsFrom 0 m.toNat)) (n := m.toNat) (g := gN 3) (b := b_l_plains_1) (JPl ws n)
    (fun _ => rfl) (by
      rintro k ε hk ⟨ps, ws', rfl, rfl, hlen, hvals, T, hp'⟩
      have hl := T.len
      obtain ⟨ws1, nm, rfl, T1⟩ := snoc_of (ws := ws') (by omega)
      obtain ⟨v, p2, e2, v1, v5, hp2⟩ := size_ok (few := 3) (most := 5) hp' (by omega) (by omega) (by omega) (by omega)
      have hr2 := rng1_ok (j := v) (by omega) (by omega)
      have hl1 := T1.len
      obtain ⟨acc, ε2, ec, ⟨vs, ws2, rfl, rfl, hvl, T2⟩⟩ := plain_words (ws := ws1) v.toNat (by omega) (by simp at hl; omega) (x0 := some p2) (x2 := some (.lst (ps.map rowD))) (x3 := some (.val (.int k))) (x4 := some (.val (.str nm)))
      have hps : ps.length ≤ 1000000 := by omega
      simp only [map_snoc]
      have hvm : v ≤ 1000000 := by omega
      simp [b_l_plains_1, e2, hr2, ec, hps, hvm]
      refine ⟨ps ++ [(nm, vs)], ws2, rfl, by simp [rowD, strL], by simp [hlen], ?_, ?_, hp2.mono (by omega)⟩
      · intro r hr
        rcases List.mem_append.mp hr with hr | hr
        · exact hvals r hr
        · rw [List.mem_singleton] at hr
          subst hr
          dsimp only
          omega
      · have TT := (T.trans T1).trans T2
        refine (TT.mono (by omega)).perm' ?_
        unfold wordsIn
        rw [List.flatMap_append]
        simp)
    (ε := [some p1, some (.lst (ws.map .str)), some (.lst []), none, none, none]) ⟨[], ws, rfl, rfl, rfl, (fun _ h => nomatch h), Took.refl, hp1.mono (by omega)⟩
  refine ⟨ps, _, ws', ?_, ⟨by omega, by omega, hvals⟩, T.mono (by omega), hp'.mono (by omega)⟩
  simp [m_l_plains, e1, hr, er, rowsD]
end KX

namespace KX
open PySem PySem.Spec PyProof.Rows L2 DL FL

abbrev th : Str := Str.ofString "thing"
theorem names_comp {ps : List Row} {ε : PEnv} {i : Nat} {c : PEnv → Bool} (hc : c ε = true) (e : M D) (h : ∀ r ∈ ps, GoesG (gN i (rowD r) (wipeP ε [i])) fun ε1 => mPure true ε1 = some (.ok true, ε1) ∧ (true = true → e ε1 = some (.ok (.str r.1), ε1)) ∧ restore ε ε1 [i] = ε) :
    mLcL c (gN i) (mPure true) e [i] (ps.map rowD) [] ε = some (.ok ((namesOf ps).map .str), ε) := by
  have := comp_look (toD := rowD) (c := c) (g := gN i) (tt := mPure true) (te := e) (vs := [i]) (fun _ => true) (fun r => .str r.1) hc ps h
  rw [this, List.filter_eq_self.mpr fun _ _ => rfl]
  simp [namesOf]
inductive JPk (names : List Str) (n : Int) (x1 x2 x4 x5 x7 x8 : Option PV) : Nat → List D → PEnv → Prop
  | mk {k : Nat} {acc : List D} {p : PV} (ss : List Str) (h1 : acc = ss.map .str) (hl : ss.length = k) (hs : ∀ s ∈ ss, s ∈ names) (hp : Hand (n + k) p) : JPk names n x1 x2 x4 x5 x7 x8 k acc [some p, x1, x2, some (.lst (names.map .str)), x4, x5, none, x7, x8]
theorem picks {n : Int} {p : PV} {names : List Str} (h : Hand n p) (hn : n ≤ 999000) (hx : names ≠ []) (hl : names.length ≤ 1000) (j : Nat) (hj : j ≤ 100) {x1 x2 x4 x5 x7 x8 : Option PV} :
    ∃ acc ε', mLcL (cYes (DL.intsFrom 0 j)) (gN 6) (mPure true) e_l_makers_2 [6] (DL.intsFrom 0 j) [] [some p, x1, x2, some (.lst (names.map .str)), x4, x5, none, x7, x8] = some (.ok acc, ε') ∧ JPk names n x1 x2 x4 x5 x7 x8 j acc ε' := by
  refine comp_range (JPk names n x1 x2 x4 x5 x7 x8) (fun _ => rfl) ?_ ⟨[], rfl, rfl, (fun _ h => nomatch h), by simpa using h⟩
  rintro k acc ε hk ⟨ss, rfl, hss, hs, hp⟩
  obtain ⟨x, p', e1, hm, hp'⟩ := pickL_ok (xs := names.map .str) hp (by omega) (by simpa using hx) (by simp; omega)
  obtain ⟨s, hs2, rfl⟩ := List.mem_map.mp hm
  simp [e_l_makers_2, e1]
  refine ⟨ss ++ [s], by simp, by simp [hss], fun t ht => ?_, hp'.mono (by omega)⟩
  rcases List.mem_append.mp ht with q | q
  · exact hs t q
  · rw [List.mem_singleton] at q
    exact q ▸ hs2
structure MakersOk (names : List Str) (ms : List Row) : Prop where
  pos : 1 ≤ ms.length
  few : ms.length ≤ 5
  sorts : ∀ r ∈ ms, r.2.length ≤ 3 ∧ (∀ s ∈ r.2, s = th ∨ s ∈ names) ∧ r.2.count th ≤ 2
  first : ∃ r ∈ ms, th ∉ r.2
structure SortsOk (names : List Str) (ss : List Str) : Prop where
  len : ss.length ≤ 3
  ok : ∀ s ∈ ss, s = th ∨ s ∈ names
  many : ss.count th ≤ 2
theorem SortsOk.rev {names ss : List Str} (h : SortsOk names ss) : SortsOk names ss.reverse := ⟨by simpa using h.len, fun s hs => h.ok s (by simpa using hs), by simpa using h.many⟩
inductive JMk (names : List Str) (ws0 : List Str) (n : Int) (P : D) (f0 : Row) : Nat → PEnv → Prop
  | mk {k : Nat} {p' : PV} {L1 L2 : List D} {x7 x8 : Option PV} (ms : List Row) (ws' : List Str) (h1 : L1 = ws'.map .str) (h2 : L2 = (f0 :: ms).map rowD) (hlen : ms.length = k) (hs : ∀ r ∈ ms, SortsOk names r.2)
      (T : Took ws0 ws' (namesOf ms) k) (hp : Hand (n + 5 * k) p') : JMk names ws0 n P f0 k [some p', some (.lst L1), some (.val P), some (.lst (names.map .str)), none, some (.lst L2), none, x7, x8]
theorem makers_ok {n : Int} {p : PV} {ws : List Str} {ps : List Row} (h : Hand n p) (hn : n ≤ 700000) (hw : 10 ≤ ws.length) (hps : PlainsOk ps) (hth : th ∉ namesOf ps) :
    ∃ ms p' ws', m_l_makers [p, .lst (ws.map .str), .val (rowsD ps)] = some (.ok (.val (rowsD ms)), [p', .lst (ws'.map .str), .val (rowsD ps)]) ∧ MakersOk (namesOf ps) ms ∧ Took ws ws' (namesOf ms) 5 ∧ Hand (n + 40) p' := by
  have hne : namesOf ps ≠ [] := List.ne_nil_of_length_pos (by unfold namesOf; rw [List.length_map]; exact hps.pos)
  have hnl : (namesOf ps).length ≤ 1000 := by unfold namesOf; rw [List.length_map]; have := hps.few; omega
  have hpl : ps.length ≤ 1000000 := by have := hps.few; omega
  obtain ⟨ws1, w, rfl, T1⟩ := snoc_of (ws := ws) (by omega)
  have hl1 := T1.len
  obtain ⟨d, p1, e1, d0, d1, hp1⟩ := take_ok (many := 2) h (by omega) (by omega) (by omega)
  have hr1 := rng1_ok (j := d) (by omega) (by omega)
  obtain ⟨acc, ε2, ec, ⟨ss, rfl, hsl, hss, hp2⟩⟩ := picks (names := namesOf ps) hp1 (by omega) hne hnl d.toNat (by omega) (x1 := some (.lst (ws1.map .str))) (x2 := some (.val (rowsD ps))) (x4 := none) (x5 := none) (x7 := none) (x8 := none)
  rename_i p2
  obtain ⟨m, p3, e3, m1, m5, hp3⟩ := size_ok (few := 3) (most := 5) hp2 (by omega) (by omega) (by omega) (by omega)
  obtain ⟨m2, hm2⟩ : ∃ m2, m - 1 = m2 := ⟨_, rfl⟩
  have hr3 := rng1_ok (j := m2) (by omega) (by omega)
  have hf0 : th ∉ ss := fun z => hth (hss th z)
  have hsf : SortsOk (namesOf ps) ss := ⟨by omega, fun s hs => .inr (hss s hs), by rw [List.count_eq_zero_of_not_mem hf0]; omega⟩
  have pk := @picks
  obtain ⟨ε', er, ⟨ms, ws', rfl, rfl, hlen, hso, T, hp'⟩⟩ := run_range (c := cYes (DL.intsFrom 0 m2.toNat)) (n := m2.toNat) (g := gN 7) (b := b_l_makers_1) (JMk (namesOf ps) ws1 (n + 6) (rowsD ps) (w, ss))
    (fun _ => rfl) (by
      rintro k ε hk ⟨ms, ws', rfl, rfl, hlen, hso, T, hp'⟩
      rename_i p' x7 x8
      have hl := T.len
      obtain ⟨ws2, nm, rfl, T2⟩ := snoc_of (ws := ws') (by omega)
      obtain ⟨d2, p4, e4, d20, d24, hp4⟩ := take_ok (many := 4) hp' (by omega) (by omega) (by omega)
      obtain ⟨x, ex, hx, _⟩ := atI_lt (xs := [PV.lst [.str th], .lst [.str th], .lst [.str th, .str th], .lst []]) d20 d24
      obtain ⟨bs, rfl, hbl, hbs, hbc⟩ : ∃ bs : List Str, x = .lst (bs.map .str) ∧ bs.length ≤ 2 ∧ (∀ s ∈ bs, s = th) ∧ bs.count th ≤ 2 := by
        simp only [List.mem_cons, List.not_mem_nil, or_false] at hx
        rcases hx with rfl | rfl | rfl | rfl
        · exact ⟨[th], rfl, by simp, by simp, by simp⟩
        · exact ⟨[th], rfl, by simp, by simp, by simp⟩
        · exact ⟨[th, th], rfl, by simp, by simp, by simp⟩
        · exact ⟨[], rfl, by simp, by simp, by simp⟩
      obtain ⟨d3, p5, e5, d30, d32, hp5⟩ := take_ok (many := 2) hp4 (by omega) (by omega) (by omega)
      obtain ⟨j, hj⟩ : ∃ j : Int, j = if d3 < 3 - (bs.length : Int) then d3 else 3 - (bs.length : Int) := ⟨_, rfl⟩
      have hj0 : 0 ≤ j ∧ j ≤ 1 := by
        subst hj
        split <;> omega
      have hr5 := rng1_ok (j := j) (by omega) (by omega)
      obtain ⟨acc2, ε5, ec5, ⟨ts, rfl, htl, hts, hp6⟩⟩ := pk (names := namesOf ps) hp5 (by omega) hne hnl j.toNat (by omega) (x1 := some (.lst ((ws2.map D.str) ++ [.str nm]))) (x2 := some (.val (rowsD ps))) (x4 := none) (x5 := some (.lst ((((w, ss) :: ms).map rowD)))) (x7 := some (.val (.int k))) (x8 := some (.lst (bs.map .str)))
      rename_i p6
      obtain ⟨d7, p7, e7, d70, d73, hp7⟩ := take_ok (many := 3) hp6 (by omega) (by omega) (by omega)
      have hso2 : SortsOk (namesOf ps) (bs ++ ts) := ⟨by rw [List.length_append, htl]; omega, fun s hs => (List.mem_append.mp hs).elim (fun q => .inl (hbs s q)) (fun q => .inr (hts s q)), by
        rw [List.count_append, List.count_eq_zero_of_not_mem fun z => hth (hts th z)]
        omega⟩
      have e32 : e_l_makers_3 = e_l_makers_2 := rfl
      have hcl : bs.length + ts.length ≤ 1000000 := by omega
      have hml : ms.length + 1 ≤ 1000000 := by omega
      have hjm : j ≤ 1000000 := by omega
      simp only [map_snoc]
      simp only [List.map_cons] at ec5
      have fin : ∀ us : List Str, SortsOk (namesOf ps) us → JMk (namesOf ps) ws1 (n + 6) (rowsD ps) (w, ss) (k + 1) [some p7, some (.lst (ws2.map .str)), some (.val (rowsD ps)), some (.lst ((namesOf ps).map .str)), none, some (.lst (((w, ss) :: ms).map rowD ++ [.tup [.str nm, .tup (us.map .str)]])), none, some (.val (.int k)), some (.lst (us.map .str))] := fun us hu =>
        ⟨ms ++ [(nm, us)], ws2, rfl, by simp [rowD, strL], by simp [hlen], fun r hr => by
          rcases List.mem_append.mp hr with q | q
          · exact hso r q
          · rw [List.mem_singleton] at q
            exact q ▸ hu, ((T.trans T2).mono (by omega)).perm' (by simp [namesOf]), hp7.mono (by omega)⟩
      by_cases h0 : d7 = 0
      · subst h0
        simp [b_l_makers_1, e4, ex, e5, hr5, ← hj, ec5, hcl, e7, hml, hjm, e32]
        simpa using fin _ hso2.rev
      · simp [b_l_makers_1, e4, ex, e5, hr5, ← hj, ec5, hcl, e7, hml, hjm, e32, h0]
        simpa using fin _ hso2)
    (ε := [some p3, some (.lst (ws1.map .str)), some (.val (rowsD ps)), some (.lst ((namesOf ps).map .str)), none, some (.lst [.tup [.str w, .tup (ss.map D.str)]]), none, none, none]) ⟨[], ws1, rfl, rfl, rfl, (fun _ h => nomatch h), Took.refl, hp3.mono (by omega)⟩
  rename_i p' x7 x8
  obtain ⟨d7, p7, e7, d70, d73, hp7⟩ := take_ok (many := 3) hp' (by omega) (by omega) (by omega)
  have en : mLcL (cYes (ps.map rowD)) (gN 4) (mPure true) e_l_makers_1 [4] (ps.map rowD) [] [some p, some (.lst ((ws1 ++ [w]).map .str)), some (.val (rowsD ps)), none, none, none, none, none, none] = _ :=
    names_comp (i := 4) rfl e_l_makers_1 fun r _ => by simp [rowD, e_l_makers_1]
  have hall : ∀ r ∈ (w, ss) :: ms, SortsOk (namesOf ps) r.2 := fun r hr => by
    rcases List.mem_cons.mp hr with rfl | q
    · exact hsf
    · exact hso r q
  have TT := ((T1.trans T).mono (k := 5) (by omega)).perm' (vs := namesOf ((w, ss) :: ms)) (by simp [namesOf])
  have hml : ms.length + 1 ≤ 1000000 := by omega
  have hdm : d ≤ 1000000 := by omega
  have hmm : m2 ≤ 1000000 := by omega
  simp only [map_snoc] at en
  simp only [List.map_cons, show rowD (w, ss) = .tup [.str w, .tup (ss.map D.str)] from rfl] at er
  by_cases h0 : d7 = 0
  · subst h0
    refine ⟨((w, ss) :: ms).reverse, p7, ws', ?_, ⟨by simp, by simp; omega, fun r hr => ?_, (w, ss), by simp, hf0⟩, TT.perm' ?_, hp7.mono (by omega)⟩
    · simp only [map_snoc]
      simp [m_l_makers, hpl, en, e1, hr1, ec, e3, hm2, hr3, er, e7, hdm, hmm]
      simp [rowsD, rowD, strL]
    · have q := hall r (List.mem_reverse.mp hr)
      exact ⟨q.len, q.ok, q.many⟩
    · unfold namesOf
      rw [List.map_reverse]
      exact (List.reverse_perm _).symm
  · refine ⟨(w, ss) :: ms, p7, ws', ?_, ⟨by simp, by simp; omega, fun r hr => ?_, (w, ss), by simp, hf0⟩, TT, hp7.mono (by omega)⟩
    · simp only [map_snoc]
      simp [m_l_makers, hpl, en, e1, hr1, ec, e3, hm2, hr3, er, e7, h0, hdm, hmm]
      simp [rowsD, rowD, strL]
    · have q := hall r hr
      exact ⟨q.len, q.ok, q.many⟩
end KX

namespace KX
open PySem PySem.Spec PyProof.Rows L2 DL FL NdefX LamX

def AskSorts (names : List Str) (ss : List Str) : Prop := ss = [th] ∨ ∃ s ∈ names, ss = [th, s]
inductive JAk (names : List Str) (ws0 : List Str) (n : Int) (P : D) (many : Int) : Nat → PEnv → Prop
  | mk {k : Nat} {p' : PV} {L1 L2 : List D} {x7 x8 : Option PV} (rs : List Row) (ws' : List Str) (h1 : L1 = ws'.map .str) (h2 : L2 = rs.map rowD) (hlen : rs.length = k) (hs : ∀ r ∈ rs, AskSorts names r.2)
      (T : Took ws0 ws' (namesOf rs) k) (hp : Hand (n + 2 * k) p') : JAk names ws0 n P many k [some p', some (.lst L1), some (.val P), some (.val (.int many)), some (.lst (names.map .str)), none, some (.lst L2), x7, x8]
theorem askings_ok {n many : Int} {p : PV} {ws : List Str} {ps : List Row} (h : Hand n p) (hn : n ≤ 700000) (m0 : 0 ≤ many) (m5 : many ≤ 5) (hw : 6 ≤ ws.length) (hps : PlainsOk ps) :
    ∃ rs p' ws', m_l_askings [p, .lst (ws.map .str), .val (rowsD ps), .val (.int many)] = some (.ok (.lst (rs.map rowD)), [p', .lst (ws'.map .str), .val (rowsD ps), .val (.int many)]) ∧
      (rs.length : Int) = many ∧ (∀ r ∈ rs, AskSorts (namesOf ps) r.2) ∧ Took ws ws' (namesOf rs) 5 ∧ Hand (n + 10) p' := by
  have hne : namesOf ps ≠ [] := List.ne_nil_of_length_pos (by unfold namesOf; rw [List.length_map]; exact hps.pos)
  have hnl : (namesOf ps).length ≤ 1000 := by unfold namesOf; rw [List.length_map]; have := hps.few; omega
  have hpl : ps.length ≤ 1000000 := by have := hps.few; omega
  have hr := rng1_ok (j := many) (by omega) (by omega)
  have en : mLcL (cYes (ps.map rowD)) (gN 5) (mPure true) e_l_askings_1 [5] (ps.map rowD) [] [some p, some (.lst (ws.map .str)), some (.val (rowsD ps)), some (.val (.int many)), none, none, none, none, none] = _ :=
    names_comp (i := 5) rfl e_l_askings_1 fun r _ => by simp [rowD, e_l_askings_1]
  obtain ⟨ε', er, ⟨rs, ws', rfl, rfl, hlen, hso, T, hp'⟩⟩ := run_range (c := cYes (DL.intsFrom 0 many.toNat)) (n := many.toNat) (g := gN 7) (b := b_l_askings_1) (JAk (namesOf ps) ws n (rowsD ps) many)
    (fun _ => rfl) (by
      rintro k ε hk ⟨rs, ws', rfl, rfl, hlen, hso, T, hp'⟩
      rename_i p' x7 x8
      have hl := T.len
      obtain ⟨ws2, nm, rfl, T2⟩ := snoc_of (ws := ws') (by omega)
      obtain ⟨d, p1, e1, d0, d3, hp1⟩ := take_ok (many := 3) hp' (by omega) (by omega) (by omega)
      obtain ⟨x, p2, e2, hm, hp2⟩ := pickL_ok (xs := (namesOf ps).map .str) hp1 (by omega) (by simpa using hne) (by simp; omega)
      obtain ⟨s, hs2, rfl⟩ := List.mem_map.mp hm
      have hrl : rs.length ≤ 1000000 := by omega
      have fin : ∀ (us : List Str) (q : PV), AskSorts (namesOf ps) us → Hand (n + 2 * k + 2) q → JAk (namesOf ps) ws n (rowsD ps) many (k + 1) [some q, some (.lst (ws2.map .str)), some (.val (rowsD ps)), some (.val (.int many)), some (.lst ((namesOf ps).map .str)), none, some (.lst (rs.map rowD ++ [.tup [.str nm, strL us]])), some (.val (.int k)), some (.val (strL us))] := fun us q hu hq =>
        ⟨rs ++ [(nm, us)], ws2, rfl, by simp [rowD], by simp [hlen], fun r hr => by
          rcases List.mem_append.mp hr with z | z
          · exact hso r z
          · rw [List.mem_singleton] at z
            exact z ▸ hu, ((T.trans T2).mono (by omega)).perm' (by simp [namesOf]), hq.mono (by omega)⟩
      simp only [map_snoc]
      by_cases h0 : d = 0
      · subst h0
        simp [b_l_askings_1, e1, e2, hrl]
        exact fin [th, s] p2 (.inr ⟨s, hs2, rfl⟩) (hp2.mono (by omega))
      · simp [b_l_askings_1, e1, hrl, h0]
        exact fin [th] p1 (.inl rfl) (hp1.mono (by omega)))
    (ε := [some p, some (.lst (ws.map .str)), some (.val (rowsD ps)), some (.val (.int many)), some (.lst ((namesOf ps).map .str)), none, some (.lst []), none, none]) ⟨[], ws, rfl, rfl, rfl, (fun _ h => nomatch h), Took.refl, h.mono (by omega)⟩
  refine ⟨rs, _, ws', ?_, by omega, hso, T.mono (by omega), hp'.mono (by omega)⟩
  simp [m_l_askings, hpl, en, hr, er]
abbrev Ask := Str × List Str × Str
def askD (a : Ask) : D := .tup [.str a.1, strL a.2.1, .str a.2.2]
def asksD (as : List Ask) : D := .tup (as.map askD)
@[simp] theorem fIx_askD0 (r : Ask) : fIx (askD r) (.int 0) = some (.str r.1) := by simp [askD]
@[simp] theorem fIx_askD1 (r : Ask) : fIx (askD r) (.int 1) = some (strL r.2.1) := by simp [askD]
@[simp] theorem fIx_askD2 (r : Ask) : fIx (askD r) (.int 2) = some (.str r.2.2) := by simp [askD]
@[simp] theorem toT_asksD (rs : List Ask) : toT (asksD rs) = some (rs.map askD) := rfl
structure AsksOk (names : List Str) (as : List Ask) : Prop where
  few : as.length ≤ 5
  ok : ∀ a ∈ as, AskSorts names a.2.1 ∧ a.2.2 ∈ names
theorem pickRow_ok {n : Int} {p : PV} {rs : List Row} (h : Hand n p) (hn : n ≤ 1000000) (hx : 1 ≤ rs.length) (hl : rs.length ≤ 1000000) :
    ∃ r p', m_l_pick [p, .val (rowsD rs)] = some (.ok (.val (rowD r)), [p', .val (rowsD rs)]) ∧ r ∈ rs ∧ Hand (n + 1) p' := by
  obtain ⟨x, p', e, hx, hp⟩ := pickT_ok (xs := rs.map rowD) h hn (List.ne_nil_of_length_pos (by rw [List.length_map]; omega)) (by rw [List.length_map]; omega)
  obtain ⟨r, hr, rfl⟩ := List.mem_map.mp hx
  exact ⟨r, p', e, hr, hp⟩
@[simp] theorem mNs_nil (ε : PEnv) : mNs [] ε = mPure [] ε := rfl
@[simp] theorem mNs_cons (k : Key) (p : M PV) (r : List (Key × M PV)) (ε : PEnv) : mNs ((k, p) :: r) ε = mArgN p (mNs r) ε := rfl
theorem seq_nx {p q : M Res} {ε ε' : PEnv} (h : p ε = some (.ok .nx, ε')) : mSeq p q ε = q ε' := by
  rw [mSeq_run]
  simp [h]
theorem fnF_of {np n : Nat} {io : List Nat} {body : M Res} {ps ps' : List PV} {v : PV} {ε : PEnv} (h0 : ps.length = np) (h : body (startP n ps) = some (.ok (.rt v), ε)) (h2 : outsF io 0 ps ε = some ps') : fnF np io n body ps = some (.ok v, ps') := by
  rw [fnF_run, if_pos h0, runF_run, h]
  simp only [h2]
theorem mFor_of {p : M (List D)} {c : List D → PEnv → Bool} {g : GM} {b : M Res} {ε ε' : PEnv} {ds : List D} (h : p ε = some (.ok ds, ε')) : mFor p c g b ε = mLoop (c ds) g b ds ε' := by
  rw [mFor_run]
  simp [h]
theorem mRng1_of {p : M (List D)} {ε ε' : PEnv} {ds xs : List D} (h : p ε = some (.ok ds, ε')) (h2 : rng1 ds = some xs) : mRng1 p ε = some (.ok xs, ε') := by
  rw [mRng1_run]
  simp [h, h2]
theorem Words.perm {ws vs : List Str} (h : Words ws) (p : ws.Perm vs) : Words vs := ⟨p.nodup_iff.mp h.nd, fun w hw => h.ok w (p.mem_iff.mpr hw)⟩
theorem Words.right {ws vs : List Str} (h : Words (ws ++ vs)) : Words vs := ⟨(List.nodup_append.mp h.nd).2.1, fun w hw => h.ok w (List.mem_append_right _ hw)⟩
theorem Words.left {ws vs : List Str} (h : Words (ws ++ vs)) : Words ws := ⟨(List.nodup_append.mp h.nd).1, fun w hw => h.ok w (List.mem_append_left _ hw)⟩
theorem Words.no_th {ws : List Str} (h : Words ws) : th ∉ ws := fun q => by
  have := h.ok _ q
  revert this
  decide
theorem names_sub {ps : List Row} : (namesOf ps).Sublist (wordsIn ps) := by
  unfold namesOf wordsIn
  induction ps with
  | nil => exact .slnil
  | cons r ps ih =>
    rw [List.map_cons, List.flatMap_cons, List.cons_append]
    exact .cons_cons _ (ih.trans (List.sublist_append_right _ _))
def shortT (w : Str) : Prop := w.cps.size ≤ 8 ∧ (w.cps.toList.all fun c => decide (c < 16 ^ 8)) = true
theorem okW_short {w : Str} (h : okW w = true) : shortT w := by
  unfold okW at h
  simp only [Bool.and_eq_true, decide_eq_true_eq, List.all_eq_true] at h
  refine ⟨by omega, List.all_eq_true.mpr fun c hc => ?_⟩
  have := h.2 c hc
  exact decide_eq_true (by omega)
theorem fnP_of {np n : Nat} {body : M Res} {ds : List D} {v : D} {ε : PEnv} (h0 : ds.length = np) (h : body (startP n (ds.map .val)) = some (.ok (.rt (.val v)), ε)) : fnP np n body ds = some v := by
  rw [fnP_run, if_pos h0, runP_run, h]
theorem pow60 : (10 : Int) ^ 60 < 10 ^ 200 := by decide +kernel
theorem pow30 : (10 : Int) ^ 30 < 10 ^ 200 := by decide +kernel
theorem pow90 : (10 : Int) ^ 60 * 10 ^ 30 = 10 ^ 90 := by decide +kernel
theorem hand_ok {ns : List Int} (hl : ns.length ≤ 63) {k : Int} (k0 : 0 ≤ k) (k1 : k ≤ 100) : ∃ p, m_l_hand [.val (.ilst (ns.map D.int)), .val (.int k)] = some (.ok p, [.val (.ilst (ns.map D.int)), .val (.int k)]) ∧ Hand 0 p := by
  have go : ∀ cell : Int, ((k < ns.length ∧ atI (ns.map D.int) k = some (.int cell)) ∨ (¬ k < ns.length ∧ cell = 0)) → ∃ p, m_l_hand [.val (.ilst (ns.map D.int)), .val (.int k)] = some (.ok p, [.val (.ilst (ns.map D.int)), .val (.int k)]) ∧ Hand 0 p := by
    intro cell hc
    have h60 : (0 : Int) ≤ 10 ^ 60 := by decide +kernel
    have h30 : (0 : Int) ≤ 10 ^ 30 := by decide +kernel
    have h90 : (0 : Int) < 10 ^ 90 := by decide +kernel
    have h902 : (10 : Int) ^ 90 < 10 ^ 200 := by decide +kernel
    have p60 := pow60
    have p30 := pow30
    have l1 := log_mul (i := 10 ^ 60) (j := 10 ^ 30) (by omega) (by omega) (by omega) (by omega)
    obtain ⟨A, hA⟩ : ∃ A : Int, A = 10 ^ 60 := ⟨_, rfl⟩
    obtain ⟨B, hB⟩ : ∃ B : Int, B = 10 ^ 30 := ⟨_, rfl⟩
    obtain ⟨C, hC⟩ : ∃ C : Int, C = 10 ^ 90 := ⟨_, rfl⟩
    obtain ⟨E, hE⟩ : ∃ E : Int, E = 10 ^ 18 := ⟨_, rfl⟩
    have f1 : fPow (.int 10) (.int 60) = some (.int A) := by rw [hA]; rfl
    have f2 : fPow (.int 10) (.int 30) = some (.int B) := by rw [hB]; rfl
    have f3 : fMul (.int A) (.int B) = some (.int C) := by
      rw [fMul_int, hA, hB, if_pos l1, pow90, hC]
    have f4 : fPow (.int 10) (.int 18) = some (.int E) := by rw [hE]; rfl
    rw [← hC] at h90 h902
    have g0 := Int.emod_nonneg cell (show C ≠ 0 by omega)
    have g1 := Int.emod_lt_of_pos cell h90
    obtain ⟨g, hg⟩ : ∃ g, g = cell % C := ⟨_, rfl⟩
    have f5 : fMod (.int cell) (.int C) = some (.int g) := by
      rw [fMod_int, if_pos h90, hg]
    rw [← hg] at g0 g1
    obtain ⟨b, hb⟩ : ∃ b : Bool, b = decide (E ≤ cell) := ⟨_, rfl⟩
    have f6 : fGe (.int cell) (.int E) = some (.bl b) := by rw [fGe_int, hb]
    obtain ⟨g2, f7, g20, g21⟩ : ∃ g2 : Int, fMul (.int g) (.int (if b = true then 1 else 0)) = some (.int g2) ∧ 0 ≤ g2 ∧ g2 < C := by
      cases b with
      | true =>
        refine ⟨g, ?_, g0, g1⟩
        have := log_mul (i := g) (j := 1) (by omega) (by omega) (by omega) (by omega)
        rw [if_pos rfl, fMul_int, if_pos this, Int.mul_one]
      | false =>
        refine ⟨0, ?_, by omega, h90⟩
        have := log_mul (i := g) (j := 0) (by omega) (by omega) (by omega) (by omega)
        rw [if_neg (by decide), fMul_int, if_pos this, Int.mul_zero]
    have l2 := log_mul (i := 7919) (j := k) (by omega) (by omega) (by omega) (by omega)
    have m0 := Int.emod_nonneg (cell % 2305843009213693951 + 7919 * k + 3) (show (2305843009213693951 : Int) ≠ 0 by decide)
    have m1 := Int.emod_lt_of_pos (cell % 2305843009213693951 + 7919 * k + 3) (show (0 : Int) < 2305843009213693951 by decide)
    refine ⟨.lst [.int g2, .int ((cell % 2305843009213693951 + 7919 * k + 3) % 2305843009213693951), .int 0], ?_, g2, _, 0, rfl, g20, by omega, m0, m1, by omega, by omega⟩
    simp at l2
    rcases hc with ⟨hk, ha⟩ | ⟨hk, rfl⟩
    · simp [m_l_hand, hk, ha, f1, f2, f3, f4, f5, f6, f7, l2]
    · simp [m_l_hand, hk, f1, f2, f3, f4, f5, f6, f7, l2]
  by_cases hk : k < ns.length
  · obtain ⟨x, ex, hx, _⟩ := atI_lt (xs := ns.map D.int) k0 (by rw [List.length_map]; exact hk)
    obtain ⟨cell, _, rfl⟩ := List.mem_map.mp hx
    exact go cell (.inl ⟨hk, ex⟩)
  · exact go 0 (.inr ⟨hk, rfl⟩)
end KX

namespace KX
open PySem PySem.Spec PyProof.Rows L2 DL FL NdefX LamX

def isCallD : D → Bool
  | .tup (.str _ :: _) => true
  | _ => false
theorem isCall_eq {d : D} (h : isCallD d = true) : ∃ w ds, d = .tup (.str w :: ds) := by
  unfold isCallD at h
  split at h
  · exact ⟨_, _, rfl⟩
  · cases h
@[simp] theorem isCall_call (w : Str) (ds : List D) : isCallD (.tup (.str w :: ds)) = true := rfl
mutual
def nodD : D → Nat
  | .tup (.str _ :: ds) => nodL ds + 1
  | _ => 1
def nodL : List D → Nat
  | [] => 0
  | d :: ds => nodD d + nodL ds
end
@[simp] theorem nodD_call (w : Str) (ds : List D) : nodD (.tup (.str w :: ds)) = nodL ds + 1 := by unfold nodD; rfl
@[simp] theorem nodL_nil : nodL [] = 0 := by unfold nodL; rfl
@[simp] theorem nodL_cons (d : D) (ds : List D) : nodL (d :: ds) = nodD d + nodL ds := by
  conv => lhs; unfold nodL
theorem nodD_leaf {d : D} (h : isCallD d = false) : nodD d = 1 := by
  unfold nodD
  split
  · simp at h
  · rfl
theorem nodD_pos (d : D) : 1 ≤ nodD d := by
  cases h : isCallD d with
  | false => rw [nodD_leaf h]; exact Nat.le_refl _
  | true =>
    obtain ⟨w, ds, rfl⟩ := isCall_eq h
    simp
theorem nodL_app (a b : List D) : nodL (a ++ b) = nodL a + nodL b := by
  induction a with
  | nil => simp
  | cons d a ih => simp [ih]; omega
theorem nod_mem {d : D} : ∀ {ds : List D}, d ∈ ds → nodD d ≤ nodL ds
  | [], h => nomatch h
  | x :: ds, h => by
    rw [nodL_cons]
    rcases List.mem_cons.mp h with rfl | h
    · omega
    · have := nod_mem h
      omega
theorem nod_len : ∀ ds : List D, ds.length ≤ nodL ds
  | [] => Nat.zero_le _
  | d :: ds => by
    have := nod_len ds
    have := nodD_pos d
    simp
    omega
theorem D_ind {P : D → Prop} (leaf : ∀ d, isCallD d = false → P d) (call : ∀ w ds, (∀ d ∈ ds, P d) → P (.tup (.str w :: ds))) : ∀ d, P d := fun d => by
  have go : ∀ n d, nodD d ≤ n → P d := by
    intro n
    induction n with
    | zero =>
      intro d h
      have := nodD_pos d
      omega
    | succ n ih =>
      intro d h
      cases hc : isCallD d with
      | false => exact leaf d hc
      | true =>
        obtain ⟨w, ds, rfl⟩ := isCall_eq hc
        exact call w ds fun x hx => ih x (by
          have := nod_mem hx
          rw [nodD_call] at h
          omega)
  exact go _ d (Nat.le_refl _)
@[simp] theorem plain_tup (ds : List D) : (D.tup ds).plain = plainL ds := by simp [D.plain]
@[simp] theorem plain_str (x : Str) : (D.str x).plain = true := by simp [D.plain]
@[simp] theorem plain_int (x : Int) : (D.int x).plain = true := by simp [D.plain]
@[simp] theorem plain_non : D.non.plain = true := by simp [D.plain]
mutual
def solid : D → Bool
  | .ty _ => false
  | .ref _ => false
  | .tup ds => solidL ds
  | _ => true
def solidL : List D → Bool
  | [] => true
  | d :: ds => solid d && solidL ds
end
@[simp] theorem solid_tup (ds : List D) : solid (.tup ds) = solidL ds := by simp [solid]
@[simp] theorem solid_str (x : Str) : solid (.str x) = true := by simp [solid]
@[simp] theorem solid_int (x : Int) : solid (.int x) = true := by simp [solid]
@[simp] theorem solid_non : solid .non = true := by simp [solid]
@[simp] theorem solid_bl (b : Bool) : solid (.bl b) = true := by simp [solid]
@[simp] theorem solid_ilst (ds : List D) : solid (.ilst ds) = true := by simp [solid]
@[simp] theorem solid_fdic (ks : List Key) (ds : List D) : solid (.fdic ks ds) = true := by simp [solid]
mutual
theorem solid_of_plain : ∀ {d : D}, d.plain = true → solid d = true
  | .non, _ => rfl
  | .bl _, _ => rfl
  | .int _, _ => rfl
  | .str _, _ => rfl
  | .ty _, h => nomatch h
  | .ref _, h => nomatch h
  | .fdic _ _, _ => rfl
  | .ilst _, _ => by simp [solid]
  | .tup ds, h => by
    rw [solid_tup]
    exact solidL_of_plainL (ds := ds) (by simpa using h)
theorem solidL_of_plainL : ∀ {ds : List D}, plainL ds = true → solidL ds = true
  | [], _ => rfl
  | d :: ds, h => by
    simp only [plainL, Bool.and_eq_true] at h
    simp only [solidL, Bool.and_eq_true]
    exact ⟨solid_of_plain h.1, solidL_of_plainL h.2⟩
end
mutual
def foldD (g1 : List D → Option D) (g2 : D → List D → Option D) : D → Option D
  | .tup (.str w :: ds) => (foldL g1 g2 ds).bind (g2 (.str w))
  | d => g1 [d]
def foldL (g1 : List D → Option D) (g2 : D → List D → Option D) : List D → Option (List D)
  | [] => some []
  | d :: ds => (foldD g1 g2 d).bind fun x => (foldL g1 g2 ds).map (x :: ·)
end
section
variable {g1 : List D → Option D} {g2 : D → List D → Option D}
end
mutual
def preD : D → List D
  | .tup (.str w :: ds) => .tup (.str w :: ds) :: preL ds
  | d => [d]
def preL : List D → List D
  | [] => []
  | d :: ds => preL ds ++ preD d
end
section
variable {g1 : List D → Option D} {g2 : D → List D → Option D}
end
end KX

namespace KX
open PySem PySem.Spec PyProof.Rows L2 DL FL NdefX LamX

section
variable {g1 : List D → Option D} {g2 : D → List D → Option D} {d0 : D}
def E2 (d : D) (O F : List D) (x5 x7 : Option PV) : PEnv := [some (.val d), some (.cb 0), some (.cb 1), some (.lst O), some (.lst []), x5, some (.lst F), x7, none]
inductive JPop (O F rs : List D) (x : D) (x7 : Option PV) : Nat → List D → PEnv → Prop
  | mk {k : Nat} {acc : List D} (a b : List D) (h1 : rs = a ++ b) (h2 : b.length = k) (h3 : acc = b.reverse) : JPop O F rs x x7 k acc (E2 d0 O (F ++ a) (some (.val x)) x7)
end
end KX

namespace KX
open PySem PySem.Spec PyProof.Rows L2 DL FL NdefX LamX

structure BK where
  ps : List Row
  ms : List Row
  as : List Ask
  cs : List Row
def BK.d (K : BK) : D := .tup [rowsD K.ps, rowsD K.ms, asksD K.as, rowsD K.cs, .tup []]
structure BK.Ok (K : BK) : Prop where
  pk : PlainsOk K.ps
  mo : MakersOk (namesOf K.ps) K.ms
  ao : AsksOk (namesOf K.ps) K.as
  th : th ∉ namesOf K.ps
  a1 : 1 ≤ K.as.length
  co : ∀ c ∈ K.cs, AskSorts (namesOf K.ps) c.2
  cl : K.cs.length ≤ 3
  ws : Words (wordsIn K.ps ++ (namesOf K.ms ++ (K.as.map (·.1) ++ namesOf K.cs)))
@[simp] theorem kd0 (K : BK) : fIx K.d (.int 0) = some (rowsD K.ps) := by simp [BK.d]
@[simp] theorem kd1 (K : BK) : fIx K.d (.int 1) = some (rowsD K.ms) := by simp [BK.d]
@[simp] theorem kd2 (K : BK) : fIx K.d (.int 2) = some (asksD K.as) := by simp [BK.d]
@[simp] theorem kd3 (K : BK) : fIx K.d (.int 3) = some (rowsD K.cs) := by simp [BK.d]
def rowAt (rs : List Row) (w : Str) : Option Row := rs.find? fun x => decide (x.1 = w)
def askAt (rs : List Ask) (w : Str) : Option Ask := rs.find? fun x => decide (x.1 = w)
def BK.row (K : BK) (w : Str) : Option (List Str × Str) := match rowAt K.ms w with
  | some r => some (r.2, th)
  | none => match askAt K.as w with
    | some a => some (a.2.1, a.2.2)
    | none => match rowAt K.cs w with
      | some c => some (c.2, th)
      | none => none
@[simp] theorem tru_rowD (r : Row) : truD (rowD r) = some true := by simp [rowD, truD]
@[simp] theorem tru_askD (r : Ask) : truD (askD r) = some true := by simp [askD, truD]
@[simp] theorem tru_non : truD .non = some false := rfl
@[simp] theorem isNon_row (r : Row) : FL.isNon (rowD r) = false := rfl
@[simp] theorem isNon_ask (r : Ask) : FL.isNon (askD r) = false := rfl
@[simp] theorem isNon_non : FL.isNon .non = true := rfl
@[simp] theorem isNon_tup (ds : List D) : FL.isNon (.tup ds) = false := rfl
@[simp] theorem isNon_str (x : Str) : FL.isNon (.str x) = false := rfl
@[simp] theorem isNon_int (x : Int) : FL.isNon (.int x) = false := rfl
@[simp] theorem isNon_strL (xs : List Str) : FL.isNon (strL xs) = false := rfl
theorem rowAt_mem {rs : List Row} {w : Str} {r : Row} (h : rowAt rs w = some r) : r ∈ rs ∧ r.1 = w := ⟨List.mem_of_find?_eq_some h, by simpa using List.find?_some h⟩
theorem askAt_mem {rs : List Ask} {w : Str} {r : Ask} (h : askAt rs w = some r) : r ∈ rs ∧ r.1 = w := ⟨List.mem_of_find?_eq_some h, by simpa using List.find?_some h⟩
theorem askAt_none {rs : List Ask} {w : Str} (h : w ∉ rs.map (·.1)) : askAt rs w = none := by
  unfold askAt
  rw [List.find?_eq_none]
  intro x hx
  have : x.1 ≠ w := fun z => h (List.mem_map.mpr ⟨x, hx, z⟩)
  simpa using this
theorem rowAt_none {rs : List Row} {w : Str} (h : w ∉ namesOf rs) : rowAt rs w = none := by
  unfold rowAt
  rw [List.find?_eq_none]
  intro x hx
  have : x.1 ≠ w := fun z => h (List.mem_map.mpr ⟨x, hx, z⟩)
  simpa using this
theorem flat_strs (vs : List Str) : (vs.map D.str).all flatD = true := by
  rw [List.all_eq_true]
  intro x hx
  obtain ⟨v, _, rfl⟩ := List.mem_map.mp hx
  rfl
theorem in_strs (v : Str) (vs : List Str) : inD (.str v) (vs.map D.str) = decide (v ∈ vs) := by
  unfold inD
  rw [List.any_map]
  induction vs with
  | nil => simp
  | cons a vs ih =>
    rw [List.any_cons, ih]
    have e : eqV (vOf (D.str a)) (vOf (D.str v)) = decide (v = a) := by
      show (a == v) = decide (v = a)
      by_cases h : v = a
      · subst h; simp
      · have h' : ¬ a = v := fun z => h z.symm
        simp [h, h']
    show (eqV (vOf (D.str a)) (vOf (D.str v)) || _) = _
    rw [e]
    by_cases h : v = a <;> simp [h]
def BK.plain (K : BK) (v : Str) : Option Str := (K.ps.find? fun r => decide (v ∈ r.2)).map (·.1)
mutual
def soD (K : BK) (ss : List Str) : D → Option Str
  | .tup (.str w :: ds) => match K.row w with
    | some r => if soL K ss ds = r.1.map some then some r.2 else none
    | none => none
  | .int i => if 0 ≤ i then ss[i.toNat]? else none
  | .str v => K.plain v
  | _ => none
def soL (K : BK) (ss : List Str) : List D → List (Option Str)
  | [] => []
  | d :: ds => soD K ss d :: soL K ss ds
end
theorem soL_map (K : BK) (ss : List Str) : ∀ ds : List D, soL K ss ds = ds.map (soD K ss)
  | [] => by unfold soL; rfl
  | d :: ds => by
    conv => lhs; unfold soL
    rw [soL_map K ss ds]
    rfl
theorem soD_call (K : BK) (ss : List Str) (w : Str) (ds : List D) : soD K ss (.tup (.str w :: ds)) = match K.row w with
    | some r => if ds.map (soD K ss) = r.1.map some then some r.2 else none
    | none => none := by
  conv => lhs; unfold soD
  rw [soL_map]
@[simp] theorem soD_int (K : BK) (ss : List Str) (i : Int) : soD K ss (.int i) = if 0 ≤ i then ss[i.toNat]? else none := by unfold soD; rfl
@[simp] theorem soD_str (K : BK) (ss : List Str) (v : Str) : soD K ss (.str v) = K.plain v := by unfold soD; rfl
theorem pys_map (ds : List D) : pys ds = ds.map D.py := by
  induction ds with
  | nil => rfl
  | cons d ds ih =>
    conv => lhs; unfold pys
    rw [ih]
    rfl
end KX

namespace KX
open PySem PySem.Spec PyProof.Rows L2 DL FL NdefX LamX

end KX

namespace KX
open PySem PySem.Spec PyProof.Rows L2 DL FL NdefX LamX

mutual
def subD (ts : List D) : D → D
  | .tup (.str w :: ds) => .tup (.str w :: subL ts ds)
  | .int i => ts.getD i.toNat .non
  | d => d
def subL (ts : List D) : List D → List D
  | [] => []
  | d :: ds => subD ts d :: subL ts ds
end
theorem subL_map (ts : List D) : ∀ ds : List D, subL ts ds = ds.map (subD ts)
  | [] => by unfold subL; rfl
  | d :: ds => by
    conv => lhs; unfold subL
    rw [subL_map ts ds]
    rfl
@[simp] theorem subD_call (ts : List D) (w : Str) (ds : List D) : subD ts (.tup (.str w :: ds)) = .tup (.str w :: ds.map (subD ts)) := by
  conv => lhs; unfold subD
  rw [subL_map]
@[simp] theorem subD_int (ts : List D) (i : Int) : subD ts (.int i) = ts.getD i.toNat .non := by unfold subD; rfl
@[simp] theorem subD_str (ts : List D) (v : Str) : subD ts (.str v) = .str v := by unfold subD; rfl
theorem leaf_cases {K : BK} {ss : List Str} {d : D} {s : Str} (h : soD K ss d = some s) (hc : isCallD d = false) : (∃ i : Nat, d = .int i ∧ ss[i]? = some s) ∨ ∃ v, d = .str v ∧ K.plain v = some s := by
  cases d with
  | int i =>
    rw [soD_int] at h
    split at h
    · refine .inl ⟨i.toNat, by rw [Int.toNat_of_nonneg (by assumption)], h⟩
    · cases h
  | str v => exact .inr ⟨v, rfl, by rwa [soD_str] at h⟩
  | tup ds =>
    cases ds with
    | nil => unfold soD at h; cases h
    | cons x ds => cases x <;> first | (simp at hc; done) | (unfold soD at h; cases h)
  | _ => unfold soD at h; cases h
theorem call_typed {K : BK} {ss : List Str} {w : Str} {ds : List D} {s : Str} (h : soD K ss (.tup (.str w :: ds)) = some s) : ∃ r, K.row w = some r ∧ ds.map (soD K ss) = r.1.map some ∧ r.2 = s := by
  rw [soD_call] at h
  cases hr : K.row w with
  | none => rw [hr] at h; cases h
  | some r =>
    rw [hr] at h
    dsimp only at h
    split at h
    · cases h
      exact ⟨r, rfl, by assumption, rfl⟩
    · cases h
theorem typed_parts {K : BK} {ss : List Str} {ds : List D} {rs : List Str} (h : ds.map (soD K ss) = rs.map some) : ∀ d ∈ ds, ∃ s ∈ rs, soD K ss d = some s := fun d hd => by
  have : soD K ss d ∈ rs.map some := by
    rw [← h]
    exact List.mem_map_of_mem hd
  obtain ⟨s, hs, e⟩ := List.mem_map.mp this
  exact ⟨s, hs, e.symm⟩
theorem words_short {w : Str} (h : okW w = true) : (w.cps.toList.all fun c => decide (c < 16 ^ 8)) = true ∧ w.cps.size ≤ 8 := ⟨(okW_short h).2, (okW_short h).1⟩
theorem row_word {K : BK} (h : K.Ok) {w : Str} {r : List Str × Str} (e : K.row w = some r) : okW w = true := by
  unfold BK.row at e
  have W := h.ws.right
  cases h1 : rowAt K.ms w with
  | some q =>
    obtain ⟨a, b⟩ := rowAt_mem h1
    exact W.ok w (by rw [← b]; exact List.mem_append_left _ (List.mem_map_of_mem a))
  | none =>
    rw [h1] at e
    cases h2 : askAt K.as w with
    | some q =>
      obtain ⟨a, b⟩ := askAt_mem h2
      exact W.ok w (by rw [← b]; exact List.mem_append_right _ (List.mem_append_left _ (List.mem_map_of_mem a)))
    | none =>
      rw [h2] at e
      dsimp only at e
      cases h3 : rowAt K.cs w with
      | some q =>
        obtain ⟨a, b⟩ := rowAt_mem h3
        exact W.ok w (by rw [← b]; exact List.mem_append_right _ (List.mem_append_right _ (List.mem_map_of_mem a)))
      | none => rw [h3] at e; cases e
theorem plain_word {K : BK} (h : K.Ok) {v s : Str} (e : K.plain v = some s) : okW v = true ∧ ∃ r ∈ K.ps, r.1 = s ∧ v ∈ r.2 := by
  unfold BK.plain at e
  obtain ⟨r, h1, rfl⟩ := Option.map_eq_some_iff.mp e
  have hm := List.mem_of_find?_eq_some h1
  have hv : v ∈ r.2 := by simpa using List.find?_some h1
  exact ⟨h.ws.left.ok v (List.mem_flatMap.mpr ⟨r, hm, List.mem_cons_of_mem _ hv⟩), r, hm, rfl, hv⟩
theorem row_len {K : BK} (h : K.Ok) {w : Str} {r : List Str × Str} (e : K.row w = some r) : r.1.length ≤ 3 := by
  unfold BK.row at e
  have as2 : ∀ {ss : List Str}, AskSorts (namesOf K.ps) ss → ss.length ≤ 2 := fun h => by
    rcases h with rfl | ⟨s, _, rfl⟩ <;> simp
  cases h1 : rowAt K.ms w with
  | some q =>
    rw [h1] at e
    cases e
    exact (h.mo.sorts q (rowAt_mem h1).1).1
  | none =>
    rw [h1] at e
    cases h2 : askAt K.as w with
    | some q =>
      rw [h2] at e
      cases e
      have := as2 (h.ao.ok q (askAt_mem h2).1).1
      dsimp only
      omega
    | none =>
      rw [h2] at e
      dsimp only at e
      cases h3 : rowAt K.cs w with
      | some q =>
        rw [h3] at e
        cases e
        have := as2 (h.co q (rowAt_mem h3).1)
        dsimp only
        omega
      | none => rw [h3] at e; cases e
theorem tameL_of : ∀ {ds : List D}, (∀ d ∈ ds, tame d = true) → tameL ds = true
  | [], _ => rfl
  | x :: ds, h => by
    simp only [tameL, Bool.and_eq_true]
    exact ⟨h x List.mem_cons_self, tameL_of fun d hd => h d (List.mem_cons_of_mem _ hd)⟩
theorem wtL_of {c : Nat} : ∀ {ds : List D}, (∀ d ∈ ds, wt d + 1 ≤ c * nodD d) → wtL ds ≤ c * nodL ds
  | [], _ => by simp [wtL]
  | x :: ds, h => by
    have h1 := h x List.mem_cons_self
    have h2 := wtL_of fun d hd => h d (List.mem_cons_of_mem _ hd)
    simp only [wtL, nodL_cons, Nat.mul_add]
    omega
structure Sh (d : D) : Prop where
  tm : tame d = true
  wt : wt d + 1 ≤ 20 * nodD d
theorem Sh.plain {d : D} (h : Sh d) : d.plain = true := (tame_plain d h.tm).1
theorem Sh.solid {d : D} (h : Sh d) : KX.solid d = true := solid_of_plain h.plain
theorem int_wt {i : Nat} (h : i < 1000) : wt (.int (i : Int)) ≤ 11 := by
  unfold wt
  split
  · omega
  · have : (i : Int).natAbs < 2 ^ 10 := by simp; omega
    have := PySem.Flt.log2_lt_of (by decide) this
    omega
mutual
def szD : D → Nat
  | .tup (.str _ :: ds) => szL ds + 1
  | _ => 0
def szL : List D → Nat
  | [] => 0
  | d :: ds => szD d + szL ds
end
@[simp] theorem szD_call (w : Str) (ds : List D) : szD (.tup (.str w :: ds)) = szL ds + 1 := by
  conv => lhs; unfold szD
end KX

namespace KX
open PySem PySem.Spec PyProof.Rows L2 DL FL NdefX LamX
end KX

namespace KX
open PySem PySem.Spec PyProof.Rows L2 DL FL NdefX LamX
end KX

namespace KX
open PySem PySem.Spec PyProof.Rows L2 DL FL NdefX LamX

theorem dp_mem {d : D} : ∀ {ds : List D}, d ∈ ds → dp d ≤ dpL ds
  | [], h => nomatch h
  | x :: ds, h => by
    simp only [dpL]
    rcases List.mem_cons.mp h with rfl | h
    · omega
    · have := dp_mem h
      omega
theorem dpL_le {ds : List D} {n : Nat} (h : ∀ d ∈ ds, dp d ≤ n) : dpL ds ≤ n := by
  induction ds with
  | nil => simp [dpL]
  | cons x ds ih =>
    simp only [dpL]
    have h1 := h x List.mem_cons_self
    have h2 := ih fun d hd => h d (List.mem_cons_of_mem _ hd)
    omega
@[simp] theorem dp_call (w : Str) (ds : List D) : dp (.tup (.str w :: ds)) = dpL ds + 1 := by
  simp [dp, dpL]
theorem cut1 (w : D) (ds : List D) : cutG (w :: ds) (some 1) none = ds := cutG_1 _
theorem repr_sh {d : D} (h : Sh d) (hn : nodD d ≤ 40000) (hd : dp d ≤ 61) (hk : isCallD d = true ∨ (∃ i : Nat, d = .int i ∧ i < 1000) ∨ ∃ v, d = .str v) : ∃ z, fReprV [d] = some (.str z) := by
  rcases hk with hc | ⟨i, rfl, hi⟩ | ⟨v, rfl⟩
  · obtain ⟨w, ds, rfl⟩ := isCall_eq hc
    have ht : tameL (.str w :: ds) = true := by
      have := h.tm
      simpa only [tame] using this
    have hw := h.wt
    simp only [FL.wt] at hw
    have hd2 : dpL (.str w :: ds) ≤ 60 := by
      simp only [dp] at hd
      omega
    exact ⟨_, repr_tame ht (by omega) hd2⟩
  · have : (i : Int).natAbs < 2 ^ 10 := by simp; omega
    have := PySem.Flt.log2_lt_of (by decide) this
    exact ⟨toString (i : Int), by
      show (if _ then _ else none) = _
      rw [if_pos (by omega)]⟩
  · refine ⟨reprText v, ?_⟩
    show (if _ then _ else none) = _
    rw [if_pos]
    have ht := h.tm
    have hw := h.wt
    simp only [tame] at ht
    rw [nodD_leaf rfl] at hw
    simp only [FL.wt] at hw
    have hs : (PyData.str v).shown.length ≤ sizeLine := by
      refine PyData.shown_fits (B := 8) (by decide) (by decide) ?_ ?_
      · simp only [PyData.leavesShort]
        exact ht
      · simp only [PyData.weight]
        have : (2 : Nat) ^ 20 = 1048576 := by decide
        omega
    simpa only [PyData.shown] using hs
mutual
theorem eqv_self : ∀ d : D, PyData.eqv d.py d.py = true
  | .non => rfl
  | .bl b => by simp [D.py, PyData.eqv]
  | .int i => by simp [D.py, PyData.eqv]
  | .str x => by simp [D.py, PyData.eqv]
  | .ty _ => rfl
  | .ref _ => rfl
  | .fdic _ _ => rfl
  | .tup ds => by
    simp only [D.py, PyData.eqv]
    exact eqvAll_self ds
  | .ilst ds => by
    simp only [D.py, PyData.eqv]
    exact eqvAll_self ds
theorem eqvAll_self : ∀ ds : List D, PyData.eqvAll (pys ds) (pys ds) = true
  | [] => rfl
  | d :: ds => by
    simp only [pys, PyData.eqvAll, eqv_self d, eqvAll_self ds, Bool.and_self]
end
theorem fEq_self {d : D} {neg : Bool} (h : tame d = true) (hd : dp d ≤ 60) : fEq neg d d = some (.bl (!neg)) := by
  obtain ⟨h1, _, _, _, _, h6⟩ := tame_plain d h
  have go : fEqP neg d d = some (.bl (!neg)) := by
    unfold fEqP
    rw [if_pos ⟨h1, h1, by rw [h6]; omega⟩, eqv_self]
    cases neg <;> rfl
  cases d with
  | str x => cases neg <;> simp
  | int x => cases neg <;> simp
  | _ => exact go
end KX

namespace KX
open PySem PySem.Spec PyProof.Rows L2 DL FL NdefX LamX

def enumF {α : Type} : Nat → List α → List (Nat × α)
  | _, [] => []
  | k, x :: xs => (k, x) :: enumF (k + 1) xs
theorem enumF_mem {α : Type} : ∀ {xs : List α} {k i : Nat} {x : α}, (i, x) ∈ enumF k xs → k ≤ i ∧ xs[i - k]? = some x
  | [], k, i, x, h => nomatch h
  | y :: xs, k, i, x, h => by
    rcases List.mem_cons.mp h with h | h
    · cases h
      exact ⟨Nat.le_refl _, by simp⟩
    · obtain ⟨h1, h2⟩ := enumF_mem h
      refine ⟨by omega, ?_⟩
      obtain ⟨j, rfl⟩ : ∃ j, i = k + 1 + j := ⟨i - (k + 1), by omega⟩
      rw [show k + 1 + j - (k + 1) = j by omega] at h2
      rw [show k + 1 + j - k = j + 1 by omega]
      simpa using h2
theorem enumF_len {α : Type} : ∀ (xs : List α) (k : Nat), (enumF k xs).length = xs.length
  | [], _ => rfl
  | x :: xs, k => by simp [enumF, enumF_len xs]
theorem pairs_enum {α : Type} (f : α → D) : ∀ (xs : List α) (k : Nat), pairsFrom k (xs.map f) = (enumF k xs).map fun p => D.tup [.int (p.1 : Nat), f p.2]
  | [], _ => rfl
  | x :: xs, k => by
    simp only [List.map_cons, pairsFrom, enumF]
    rw [pairs_enum f xs]
def placesOf (sorts : List Str) (nm : Str) : List Nat := ((enumF 0 sorts).filter fun p => decide (p.2 = nm)).map (·.1)
theorem placesOf_mem {sorts : List Str} {nm : Str} {i : Nat} (h : i ∈ placesOf sorts nm) : sorts[i]? = some nm := by
  unfold placesOf at h
  obtain ⟨p, hp, rfl⟩ := List.mem_map.mp h
  obtain ⟨h1, h2⟩ := List.mem_filter.mp hp
  have := (enumF_mem (i := p.1) (x := p.2) h1).2
  simp at h2 this
  rw [this, h2]
theorem placesOf_len (sorts : List Str) (nm : Str) : (placesOf sorts nm).length ≤ sorts.length := by
  unfold placesOf
  rw [List.length_map]
  exact Nat.le_trans (List.length_filter_le _ _) (by rw [enumF_len]; exact Nat.le_refl _)

theorem rowAt_of : ∀ {rs : List Row} {r : Row}, (namesOf rs).Nodup → r ∈ rs → rowAt rs r.1 = some r
  | [], r, _, h => nomatch h
  | a :: rs, r, nd, h => by
    unfold namesOf at nd
    rw [List.map_cons, List.nodup_cons] at nd
    unfold rowAt
    rcases List.mem_cons.mp h with rfl | h
    · rw [List.find?_cons_of_pos (by simp)]
    · have ne : a.1 ≠ r.1 := fun z => nd.1 (by rw [z]; exact List.mem_map_of_mem h)
      rw [List.find?_cons_of_neg (by simpa using ne)]
      exact rowAt_of (rs := rs) nd.2 h
theorem askAt_of : ∀ {rs : List Ask} {r : Ask}, (rs.map (·.1)).Nodup → r ∈ rs → askAt rs r.1 = some r
  | [], r, _, h => nomatch h
  | a :: rs, r, nd, h => by
    rw [List.map_cons, List.nodup_cons] at nd
    unfold askAt
    rcases List.mem_cons.mp h with rfl | h
    · rw [List.find?_cons_of_pos (by simp)]
    · have ne : a.1 ≠ r.1 := fun z => nd.1 (by rw [z]; exact List.mem_map_of_mem h)
      rw [List.find?_cons_of_neg (by simpa using ne)]
      exact askAt_of (rs := rs) nd.2 h
section
variable {K : BK}
theorem BK.Ok.makers_nd (h : K.Ok) : (namesOf K.ms).Nodup := h.ws.right.left.nd
theorem BK.Ok.asks_nd (h : K.Ok) : (K.as.map (·.1)).Nodup := h.ws.right.right.left.nd
theorem BK.Ok.changes_nd (h : K.Ok) : (namesOf K.cs).Nodup := h.ws.right.right.right.nd
theorem row_maker (h : K.Ok) {r : Row} (hr : r ∈ K.ms) : K.row r.1 = some (r.2, th) := by
  unfold BK.row
  rw [rowAt_of h.makers_nd hr]
theorem not_maker (h : K.Ok) {w : Str} (hw : w ∈ K.as.map (·.1) ++ namesOf K.cs) : rowAt K.ms w = none := rowAt_none fun q =>
  (List.nodup_append.mp h.ws.right.nd).2.2 w q w hw rfl
theorem row_ask (h : K.Ok) {a : Ask} (ha : a ∈ K.as) : K.row a.1 = some (a.2.1, a.2.2) := by
  unfold BK.row
  rw [not_maker h (List.mem_append_left _ (List.mem_map_of_mem ha)), askAt_of h.asks_nd ha]
theorem row_change (h : K.Ok) {c : Row} (hc : c ∈ K.cs) : K.row c.1 = some (c.2, th) := by
  have hm : c.1 ∈ namesOf K.cs := List.mem_map_of_mem hc
  unfold BK.row
  rw [not_maker h (List.mem_append_right _ hm), askAt_none fun q => (List.nodup_append.mp h.ws.right.right.nd).2.2 c.1 q c.1 hm rfl, rowAt_of h.changes_nd hc]
theorem ask_sorts {names ss : List Str} (h : AskSorts names ss) : ∀ s ∈ ss, s = th ∨ s ∈ names := fun s hs => by
  rcases h with rfl | ⟨q, hq, rfl⟩
  · simp at hs
    exact .inl hs
  · simp at hs
    rcases hs with rfl | rfl
    · exact .inl rfl
    · exact .inr hq
theorem find_plain {v : Str} : ∀ {ps : List Row} {r : Row}, (wordsIn ps).Nodup → r ∈ ps → v ∈ r.2 → ps.find? (fun r => decide (v ∈ r.2)) = some r
  | [], r, _, h, _ => nomatch h
  | a :: ps, r, nd, h, hv => by
    unfold wordsIn at nd
    rw [List.flatMap_cons, List.nodup_append] at nd
    rcases List.mem_cons.mp h with rfl | h
    · rw [List.find?_cons_of_pos (by simpa using hv)]
    · have ne : v ∉ a.2 := fun z => nd.2.2 v (List.mem_cons_of_mem _ z) v (List.mem_flatMap.mpr ⟨r, h, List.mem_cons_of_mem _ hv⟩) rfl
      rw [List.find?_cons_of_neg (by simpa using ne)]
      exact find_plain nd.2.1 h hv
theorem plain_of (h : K.Ok) {v : Str} {r : Row} (hr : r ∈ K.ps) (hv : v ∈ r.2) : K.plain v = some r.1 := by
  unfold BK.plain
  rw [find_plain h.ws.left.nd hr hv]
  rfl
theorem plains_nd (h : K.Ok) : (namesOf K.ps).Nodup := names_sub.nodup h.ws.left.nd
end
def kvsOf (ps : List Row) : List (Key × D) := ps.map fun r => (.inr r.1, strL r.2)
@[simp] theorem pairKs_rows (ps : List Row) : pairKs (ps.map rowD) = some (kvsOf ps) := by
  induction ps with
  | nil => rfl
  | cons r ps ih =>
    show pairKs (.tup [.str r.1, strL r.2] :: ps.map rowD) = _
    unfold pairKs
    rw [keyOf_str]
    dsimp only
    rw [ih]
    rfl
theorem merge_nd : ∀ (kvs acc : List (Key × D)), (acc ++ kvs).Pairwise (fun a b => a.1 ≠ b.1) → mergeD acc kvs = acc ++ kvs
  | [], acc, _ => by simp [mergeD]
  | kv :: kvs, acc, h => by
    have ha : (acc.any fun x => decide (x.1 = kv.1)) = false := by
      rw [List.any_eq_false]
      intro x hx
      have := (List.pairwise_append.mp h).2.2 x hx kv List.mem_cons_self
      simpa using this
    have e : mergeD acc (kv :: kvs) = mergeD (acc ++ [kv]) kvs := by
      unfold mergeD
      rw [List.foldl_cons]
      congr 1
      unfold putD
      rw [if_neg (by rw [ha]; decide)]
    rw [e, merge_nd kvs (acc ++ [kv]) (by simpa using h)]
    simp
theorem kvs_nd {ps : List Row} (nd : (namesOf ps).Nodup) : (kvsOf ps).Pairwise (fun a b => a.1 ≠ b.1) := by
  unfold kvsOf
  rw [List.pairwise_map]
  unfold namesOf List.Nodup at nd
  rw [List.pairwise_map] at nd
  exact nd.imp fun h z => h (Sum.inr.inj z)
theorem valD_kvs : ∀ {ps : List Row} {r : Row}, (namesOf ps).Nodup → r ∈ ps → valD (kvsOf ps) (.inr r.1) = some (strL r.2)
  | [], r, _, h => nomatch h
  | a :: ps, r, nd, h => by
    unfold namesOf at nd
    rw [List.map_cons, List.nodup_cons] at nd
    show valD ((.inr a.1, strL a.2) :: kvsOf ps) _ = _
    rcases List.mem_cons.mp h with rfl | h
    · exact valD_pos rfl
    · have ne : a.1 ≠ r.1 := fun z => nd.1 (by rw [z]; exact List.mem_map_of_mem h)
      rw [valD_neg fun z => ne (Sum.inr.inj z)]
      exact valD_kvs (ps := ps) nd.2 h
theorem dict_row {ps : List Row} {r : Row} (nd : (namesOf ps).Nodup) (h : r ∈ ps) : valD (mergeD [] (kvsOf ps)) (.inr r.1) = some (strL r.2) := by
  rw [merge_nd (kvsOf ps) [] (by simpa using kvs_nd nd), List.nil_append]
  exact valD_kvs nd h
inductive JBk (ps : List Row) (n : Int) (rs0 : List Row) (x1 x2 x4 : Option PV) : List Row → PEnv → Prop
  | mk {p : PV} {rest : List Row} {L : List D} {x6 x7 : Option PV} (as : List Ask) (h1 : rs0 = as.map (fun a => (a.1, a.2.1)) ++ rest) (h2 : L = as.map askD) (h3 : ∀ a ∈ as, a.2.2 ∈ namesOf ps) (hp : Hand (n + as.length) p) :
      JBk ps n rs0 x1 x2 x4 rest [some p, x1, x2, some (.val (rowsD ps)), x4, some (.lst L), x6, x7, none]
theorem bare_kind_ok {n many : Int} {p : PV} (h : Hand n p) (hn : n ≤ 600000) (m0 : 0 ≤ many) (m1 : many ≤ 3) :
    ∃ (K : BK) (p' : PV), m_l_bare_kind [p, .val (.int many)] = some (.ok (.val K.d), [p', .val (.int many)]) ∧ K.Ok ∧ Hand (n + 100) p' := by
  obtain ⟨ws, p1, e1, hws, hwl, hp1⟩ := words_ok (many := 40) h (by omega) (by omega) (by omega)
  obtain ⟨ps, p2, ws1, e2, hps, T1, hp2⟩ := plains_ok (ws := ws) hp1 (by omega) (by omega)
  have l1 := T1.len
  have W1 := hws.perm T1.perm
  have hthp : th ∉ namesOf ps := fun q => W1.right.no_th (names_sub.subset q)
  obtain ⟨ms, p3, ws2, e3, hms, T2, hp3⟩ := makers_ok (ws := ws1) hp2 (by omega) (by omega) hps hthp
  have l2 := T2.len
  obtain ⟨m2, p5, e5, m10, m14, hp5⟩ := size_ok (few := 2) (most := 4) hp3 (by omega) (by omega) (by omega) (by omega)
  obtain ⟨rs, p6, ws3, e6, hrl, hrs, T3, hp6⟩ := askings_ok (ws := ws2) (many := m2) hp5 (by omega) (by omega) (by omega) (by omega) hps
  have l3 := T3.len
  have hpos := hps.pos
  have hfew := hps.few
  obtain ⟨ε', er, ⟨as, has, rfl, hao, hp7⟩⟩ := run_goes (toD := rowD) (c := cYes (rs.map rowD)) (g := gTup 2 (gCons (gN 6) (gCons (gN 7) gNil))) (b := b_l_bare_kind_1) (JBk ps (n + 70) rs (some (.val (.int many))) (some (.lst (ws3.map .str))) (some (.val (rowsD ms)))) (fun _ _ _ => rfl) (by
      rintro r rest ε ⟨as, h1, rfl, h3, hp⟩
      rename_i q x6 x7
      have hal : as.length ≤ 5 := by
        have : rs.length ≤ 5 := by omega
        rw [h1, List.length_append, List.length_map] at this
        omega
      obtain ⟨a, q2, e, hq, hq2⟩ := pickRow_ok hp (by omega) hpos (by omega)
      obtain ⟨r0, r1⟩ := r
      have hal2 : as.length ≤ 1000000 := by omega
      simp [rowD, b_l_bare_kind_1, e, hal2]
      have := JBk.mk (ps := ps) (n := n + 70) (rs0 := rs) (x1 := some (.val (.int many))) (x2 := some (.lst (ws3.map .str))) (x4 := some (.val (rowsD ms))) (rest := rest) (p := q2) (x6 := some (.val (.str r0))) (x7 := some (.val (strL r1))) (as ++ [(r0, r1, a.1)]) (by simp [h1]) rfl (fun x hx => by
        rcases List.mem_append.mp hx with z | z
        · exact h3 x z
        · rw [List.mem_singleton] at z
          subst z
          exact List.mem_map_of_mem hq) (by
        rw [List.length_append, List.length_singleton]
        exact hq2.mono (by omega))
      simpa [askD, rowD] using this)
    rs [some p6, some (.val (.int many)), some (.lst (ws3.map .str)), some (.val (rowsD ps)), some (.val (rowsD ms)), some (.lst []), none, none, none] (JBk.mk [] rfl rfl (fun _ h => nomatch h) (hp6.mono (by simp; omega)))
  rename_i p7 x6 x7
  simp only [List.append_nil] at has
  have hal : as.length = rs.length := by rw [has, List.length_map]
  have hasn : as.map (·.1) = namesOf rs := by
    unfold namesOf
    rw [has, List.map_map]
    rfl
  have aok : AsksOk (namesOf ps) as := ⟨by omega, fun a ha => ⟨hrs (a.1, a.2.1) (by rw [has]; exact List.mem_map.mpr ⟨a, ha, rfl⟩), hao a ha⟩⟩
  obtain ⟨d, p8, e8, d0, d4, hp8⟩ := take_ok (many := many + 1) hp7 (by omega) (by omega) (by omega)
  obtain ⟨cs, p9, ws4, e10, hcl, hcs, T4, hp9⟩ := askings_ok (ws := ws3) (many := d) hp8 (by omega) (by omega) (by omega) (by omega) hps
  have TT := ((T1.trans T2).trans T3).trans T4
  have W : Words (wordsIn ps ++ (namesOf ms ++ (as.map (·.1) ++ namesOf cs))) := by
    have := (hws.perm TT.perm).right
    rw [hasn]
    simpa [List.append_assoc] using this
  refine ⟨⟨ps, ms, as, cs⟩, p9, ?_, ⟨hps, hms, aok, hthp, by show 1 ≤ as.length; omega, hcs, by show cs.length ≤ 3; omega, W⟩, hp9.mono (by omega)⟩
  unfold m_l_bare_kind
  refine fnF_of (ε := [some p9, some (.val (.int many)), some (.lst (ws4.map .str)), some (.val (rowsD ps)), some (.val (rowsD ms)), some (.lst (as.map askD)), x6, x7, some (.lst (cs.map rowD))]) rfl ?_ (by simp)
  refine (seq_nx (ε' := [some p1, some (.val (.int many)), some (.lst (ws.map .str)), none, none, none, none, none, none]) (by
    simp [e1])).trans ?_
  refine (seq_nx (ε' := [some p2, some (.val (.int many)), some (.lst (ws1.map .str)), some (.val (rowsD ps)), none, none, none, none, none]) (by
    simp [e2])).trans ?_
  refine (seq_nx (ε' := [some p3, some (.val (.int many)), some (.lst (ws2.map .str)), some (.val (rowsD ps)), some (.val (rowsD ms)), some (.lst []), none, none, none]) (by
    simp [e3])).trans ?_
  refine (seq_nx ((mFor_of (ds := rs.map rowD) (ε' := [some p6, some (.val (.int many)), some (.lst (ws3.map .str)), some (.val (rowsD ps)), some (.val (rowsD ms)), some (.lst []), none, none, none]) (by
    simp [e5, e6])).trans er)).trans ?_
  refine (seq_nx (ε' := [some p9, some (.val (.int many)), some (.lst (ws4.map .str)), some (.val (rowsD ps)), some (.val (rowsD ms)), some (.lst (as.map askD)), x6, x7, some (.lst (cs.map rowD))]) (by
    simp [e8, e10])).trans ?_
  simp [BK.d, rowsD, asksD, FL.short]
end KX

namespace KX
open PySem PySem.Spec PyProof.Rows L2 DL FL NdefX LamX
inductive JSd (K : BK) (n : Int) (x2 : Option PV) : Nat → List D → PEnv → Prop
  | mk {k : Nat} {acc : List D} {p : PV} (ss : List Str) (h1 : acc = ss.map .str) (h2 : ss.length = k) (h3 : ∀ s ∈ ss, s = th ∨ s ∈ namesOf K.ps) (hp : Hand (n + k) p) : JSd K n x2 k acc [some p, some (.val K.d), x2, none, none]
theorem sorts_drawn_ok {K : BK} (hK : K.Ok) {n most : Int} {p : PV} (h : Hand n p) (hn : n ≤ 600000) (m0 : 0 ≤ most) (m1 : most ≤ 20) :
    ∃ (ss : List Str) (p' : PV), m_l_sorts_drawn [p, .val K.d, .val (.int most)] = some (.ok (.val (strL ss)), [p', .val K.d, .val (.int most)]) ∧ (∀ s ∈ ss, s = th ∨ s ∈ namesOf K.ps) ∧ (ss.length : Int) ≤ most ∧ Hand (n + 30) p' := by
  have hfew := hK.pk.few
  obtain ⟨d, p1, e1, d0, d1, hp1⟩ := take_ok (many := most + 1) h (by omega) (by omega) (by omega)
  obtain ⟨acc, ε', ec, ⟨ss, rfl, hl, hs, hp2⟩⟩ := comp_range (c := cYes (DL.intsFrom 0 d.toNat)) (g := gN 4) (tt := mPure true) (te := e_l_sorts_drawn_2) (vs := [4]) (n := d.toNat) (JSd K (n + 1) (some (.val (.int most)))) (fun _ => rfl) (by
      rintro k acc ε hk ⟨ss, rfl, hl, hs, hp⟩
      rename_i q
      have hpl : K.ps.length ≤ 1000000 := by omega
      have ec : mLcL (cYes (K.ps.map rowD)) (gN 3) (mPure true) e_l_sorts_drawn_1 [3] (K.ps.map rowD) [] [some q, some (.val K.d), some (.val (.int most)), none, some (.val (.int k))] = _ :=
        names_comp (i := 3) rfl e_l_sorts_drawn_1 fun r _ => by simp [rowD, e_l_sorts_drawn_1]
      have hnl : (namesOf K.ps).length = K.ps.length := by unfold namesOf; rw [List.length_map]
      obtain ⟨x, q2, e2, hx, hq2⟩ := pickL_ok (xs := D.str th :: (namesOf K.ps).map .str) hp (by omega) (by simp) (by simp; omega)
      obtain ⟨s, rfl, hs2⟩ : ∃ s, x = .str s ∧ (s = th ∨ s ∈ namesOf K.ps) := by
        rcases List.mem_cons.mp hx with rfl | hx
        · exact ⟨th, rfl, .inl rfl⟩
        · obtain ⟨s, hs, rfl⟩ := List.mem_map.mp hx
          exact ⟨s, rfl, .inr hs⟩
      have hcat : 1 + (namesOf K.ps).length ≤ 1000000 := by omega
      simp [e_l_sorts_drawn_2, hpl, ec, hcat, e2]
      refine ⟨ss ++ [s], by simp, by simp [hl], fun t ht => ?_, hq2.mono (by omega)⟩
      rcases List.mem_append.mp ht with z | z
      · exact hs t z
      · rw [List.mem_singleton] at z
        exact z ▸ hs2)
    (ε := [some p1, some (.val K.d), some (.val (.int most)), none, none]) ⟨[], rfl, rfl, (fun _ h => nomatch h), hp1.mono (by omega)⟩
  rename_i p2
  refine ⟨ss, p2, ?_, hs, by omega, hp2.mono (by omega)⟩
  have hr := rng1_ok (j := d) (by omega) (by omega)
  have hdm : d.toNat ≤ 1000000 := by omega
  have hdm2 : d ≤ 1000000 := by omega
  simp [m_l_sorts_drawn, e1, hr, hdm, hdm2, ec, strL]
end KX

namespace KX
open PySem PySem.Spec PyProof.Rows L2 DL FL NdefX LamX

theorem seq_rt {p q : M Res} {ε ε' : PEnv} {v : PV} (h : p ε = some (.ok (.rt v), ε')) : mSeq p q ε = some (.ok (.rt v), ε') := by
  rw [mSeq_run]
  simp [h]
def EO (K : BK) (ss : List Str) (p : PV) (s : Str) (l : Int) (S : List D) (x6 x7 x8 x9 x10 : Option PV) : PEnv := [some p, some (.val K.d), some (.val (strL ss)), some (.val (.str s)), some (.lst [.int l]), some (.lst S), x6, x7, x8, x9, x10]
section
variable {K : BK} {ss : List Str} {m : FM}
def OTP (K : BK) (ss : List Str) (m : FM) (l : Int) (s : Str) (dm c : Nat) (hb : Int) : Prop := ∀ (p : PV) (h : Int), Hand h p → h ≤ hb →
  ∃ t p', m [p, .val K.d, .val (strL ss), .val (.str s), .lst [.int l]] = some (.ok (.val t), [p', .val K.d, .val (strL ss), .val (.str s), .lst [.int (l - nodD t)]]) ∧
    soD K ss t = some s ∧ nodD t ≤ c ∧ Hand (h + 4 * nodD t) p' ∧ dp t ≤ dm
theorem OTP.mono {l : Int} {s : Str} {dm dm' c c' : Nat} {hb hb' : Int} (o : OTP K ss m l s dm c hb) (h1 : dm ≤ dm') (h2 : c ≤ c') (h3 : hb' ≤ hb) : OTP K ss m l s dm' c' hb' := fun p h hp hh => by
  obtain ⟨t, p', e, a, b, c, d⟩ := o p h hp (by omega)
  exact ⟨t, p', e, a, by omega, c, by omega⟩
inductive JPt (K : BK) (ss : List Str) (s w : Str) (L : Int) (h : Int) (S : List D) (Bd : Nat → Nat → Prop) (dm : Nat) (qs : List Str) (x6 x8 x9 : Option PV) : List Str → PEnv → Prop
  | mk {p : PV} {rest : List Str} {x7 : Option PV} (done : List Str) (ds : List D) (h1 : qs = done ++ rest) (h2 : ds.map (soD K ss) = done.map some) (h3 : Bd done.length (nodL ds)) (h4 : ∀ d ∈ ds, dp d ≤ dm) (hp : Hand (h + 4 * nodL ds) p) :
      JPt K ss s w L h S Bd dm qs x6 x8 x9 rest (EO K ss p s (L - nodL ds) S x6 x7 x8 x9 (some (.val (.tup (.str w :: ds)))))
theorem parts_ok {s w : Str} {L h : Int} {S : List D} {Bd : Nat → Nat → Prop} {cf : Int → Nat} {hb : Int → Int} {dm : Nat} {qs : List Str} {p : PV} {x6 x7 x8 x9 : Option PV} (hl : qs.length ≤ 3) (hp : Hand h p)
    (b0 : Bd 0 0) (b1 : ∀ k N N', k < 3 → Bd k N → 1 ≤ N' → N' ≤ cf (L - N) → Bd (k + 1) (N + N')) (b2 : ∀ k N, Bd k N → h + 4 * N ≤ hb (L - N)) (kid : ∀ l ≤ L, ∀ q ∈ qs, OTP K ss m l q dm (cf l) (hb l)) :
    ∃ ds p' y7, mLoop (cYes (qs.map D.str)) (gN 7) (b_l_open_term_1 m) (qs.map D.str) (EO K ss p s L S x6 x7 x8 x9 (some (.val (.tup [.str w])))) = some (.ok .nx, EO K ss p' s (L - nodL ds) S x6 y7 x8 x9 (some (.val (.tup (.str w :: ds))))) ∧
      ds.map (soD K ss) = qs.map some ∧ Bd qs.length (nodL ds) ∧ (∀ d ∈ ds, dp d ≤ dm) ∧ Hand (h + 4 * nodL ds) p' := by
  obtain ⟨ε', er, ⟨done, ds, h1, h2, h3, h4, hp'⟩⟩ := run_goes (toD := D.str) (c := cYes (qs.map D.str)) (g := gN 7) (b := b_l_open_term_1 m) (JPt K ss s w L h S Bd dm qs x6 x8 x9) (fun _ _ _ => rfl) (by
      rintro q rest ε ⟨done, ds, h1, h2, h3, h4, hp'⟩
      rename_i p1 x7
      have hq : q ∈ qs := by rw [h1]; simp
      obtain ⟨t, p2, e, ht, hc, hp2, hd⟩ := kid (L - nodL ds) (by omega) q hq p1 _ hp' (b2 _ _ h3)
      have hlen : ds.length = done.length := by
        have := congrArg List.length h2
        simpa using this
      have hq3 : done.length ≤ 3 := by
        rw [h1, List.length_append] at hl
        omega
      have hcl : ds.length + 1 + 1 ≤ 1000000 := by omega
      have np := nodD_pos t
      have e2 : L - (nodL ds : Int) - (nodD t : Int) = L - ((nodL (ds ++ [t]) : Nat) : Int) := by
        rw [nodL_app]
        simp
        omega
      rw [e2] at e
      simp only [EO]
      simp [b_l_open_term_1, e, FL.short, hcl]
      have := JPt.mk (K := K) (ss := ss) (s := s) (w := w) (L := L) (h := h) (S := S) (Bd := Bd) (dm := dm) (qs := qs) (x6 := x6) (x8 := x8) (x9 := x9) (p := p2) (rest := rest) (x7 := some (.val (.str q))) (done ++ [q]) (ds ++ [t]) (by rw [h1]; simp) (by simp [h2, ht]) (by
          rw [List.length_append, List.length_singleton, nodL_app]
          simpa using b1 _ _ _ (by rw [h1, List.length_append, List.length_cons] at hl; omega) h3 np hc) (fun d hd2 => by
          rcases List.mem_append.mp hd2 with z | z
          · exact h4 d z
          · rw [List.mem_singleton] at z
            exact z ▸ hd) (by
          refine hp2.mono ?_
          rw [nodL_app]
          simp
          omega)
      simpa [EO] using this)
    qs (EO K ss p s L S x6 x7 x8 x9 (some (.val (.tup [.str w])))) (by
      have := JPt.mk (K := K) (ss := ss) (s := s) (w := w) (L := L) (h := h) (S := S) (Bd := Bd) (dm := dm) (qs := qs) (x6 := x6) (x8 := x8) (x9 := x9) (p := p) (rest := qs) (x7 := x7) [] [] (by simp) rfl b0 (fun _ h => nomatch h) (by simpa using hp)
      simpa using this)
  rename_i p' y7
  rw [List.append_nil] at h1
  subst h1
  exact ⟨ds, p', y7, er, h2, h3, h4, hp'⟩
def RowFor (K : BK) (s : Str) (x : D) : Prop := ∃ w qs, fIx x (.int 0) = some (.str w) ∧ fIx x (.int 1) = some (strL qs) ∧ K.row w = some (qs, s)
def tailM (m : FM) : M Res := (mSeq (mSet 9 (mV (mCall m_l_pick (mArgS 0 (mArgS 8 (mPure []))))))
      (mSeq (mSet 10 (mTup (mCons (mIx (mVar 9) (mPure (.int 0))) mNil)))
      (mSeq (mFor (mItT (mIx (mVar 9) (mPure (.int 1)))) cYes (gN 7) (b_l_open_term_1 m))
      (mRet (mVar 10)))))
theorem tail_ok (hK : K.Ok) {s : Str} {L h : Int} {S R : List D} {Bd : Nat → Nat → Prop} {cf : Int → Nat} {hb : Int → Int} {dm : Nat} {p : PV} {x6 x7 x9 x10 : Option PV} (hp : Hand h p) (hh : h ≤ 900000) (hR : R ≠ []) (hRl : R.length ≤ 1000000) (hrow : ∀ x ∈ R, RowFor K s x)
    (b0 : Bd 0 0) (b1 : ∀ k N N', k < 3 → Bd k N → 1 ≤ N' → N' ≤ cf (L - N) → Bd (k + 1) (N + N')) (b2 : ∀ k N, Bd k N → h + 1 + 4 * N ≤ hb (L - N)) (kid : ∀ x ∈ R, ∀ w qs, fIx x (.int 0) = some (.str w) → K.row w = some (qs, s) → ∀ l ≤ L, ∀ q ∈ qs, OTP K ss m l q dm (cf l) (hb l)) :
    ∃ t p' ε', tailM m (EO K ss p s L S x6 x7 (some (.lst R)) x9 x10) = some (.ok (.rt (.val t)), ε') ∧ (∃ y6 y7 y8 y9 y10, ε' = EO K ss p' s (L + 1 - nodD t) S y6 y7 y8 y9 y10) ∧ soD K ss t = some s ∧ (∃ k N, k ≤ 3 ∧ Bd k N ∧ nodD t = N + 1) ∧ dp t ≤ dm + 1 ∧ Hand (h - 3 + 4 * nodD t) p' := by
  obtain ⟨x, p1, e1, hx, hp1⟩ := pickL_ok (xs := R) hp (by omega) hR hRl
  obtain ⟨w, qs, f0, f1, hr⟩ := hrow x hx
  have hq3 := row_len hK hr
  obtain ⟨ds, p2, y7, el, hd1, hd2, hd3, hp2⟩ := parts_ok (m := m) (K := K) (ss := ss) (s := s) (w := w) (L := L) (h := h + 1) (S := S) (Bd := Bd) (cf := cf) (hb := hb) (dm := dm) (qs := qs) (p := p1) (x6 := x6) (x7 := x7) (x8 := some (.lst R)) (x9 := some (.val x)) hq3 hp1 b0 b1 b2 (kid x hx w qs f0 hr)
  refine ⟨.tup (.str w :: ds), p2, EO K ss p2 s (L - nodL ds) S x6 y7 (some (.lst R)) (some (.val x)) (some (.val (.tup (.str w :: ds)))), ?_, ⟨_, _, _, _, _, by rw [nodD_call]; congr 1; omega⟩, ?_, ⟨qs.length, nodL ds, hq3, hd2, by rw [nodD_call]⟩, ?_, ?_⟩
  · unfold tailM
    refine (seq_nx (ε' := EO K ss p1 s L S x6 x7 (some (.lst R)) (some (.val x)) x10) (by simp [EO, e1])).trans ?_
    refine (seq_nx (ε' := EO K ss p1 s L S x6 x7 (some (.lst R)) (some (.val x)) (some (.val (.tup [.str w])))) (by simp [EO, f0, FL.short])).trans ?_
    refine (seq_nx ((mFor_of (ds := qs.map D.str) (ε' := EO K ss p1 s L S x6 x7 (some (.lst R)) (some (.val x)) (some (.val (.tup [.str w])))) (by simp [EO, f1])).trans el)).trans ?_
    simp [EO]
  · rw [soD_call, hr]
    dsimp only
    rw [if_pos hd1]
  · rw [dp_call]
    have := dpL_le hd3
    omega
  · rw [nodD_call]
    exact hp2.mono (by omega)
def testM : M Res := (mIf (mAnd (mB (mNilL true 5)) (mOr (mB (mOp2 fLt (mIxL 4 (mPure (.int 0))) (mPure (.int 0)))) (mB (mOp2 (fEq false) (mV (mCall m_l_take (mArgS 0 (mArgV (mPure (.int 3)) (mPure []))))) (mPure (.int 0)))))) (mRet (mV (mCall m_l_pick (mArgS 0 (mArgS 5 (mPure [])))))) (mPure .nx))
theorem test_ok {s : Str} {L h : Int} {p : PV} {x6 x7 x8 x9 x10 : Option PV} (hp : Hand h p) (hh : h ≤ 900000) (hsl : ss.length ≤ 1000) :
    (∃ (i : Nat) (p' : PV), testM (EO K ss p s L ((placesOf ss s).map fun i => D.int (i : Nat)) x6 x7 x8 x9 x10) = some (.ok (.rt (.val (.int (i : Int)))), EO K ss p' s L ((placesOf ss s).map fun i => D.int (i : Nat)) x6 x7 x8 x9 x10) ∧ ss[i]? = some s ∧ Hand (h + 2) p') ∨
    (∃ p', testM (EO K ss p s L ((placesOf ss s).map fun i => D.int (i : Nat)) x6 x7 x8 x9 x10) = some (.ok .nx, EO K ss p' s L ((placesOf ss s).map fun i => D.int (i : Nat)) x6 x7 x8 x9 x10) ∧ Hand (h + 1) p') := by
  have hpl := placesOf_len ss s
  by_cases he : placesOf ss s = []
  · refine .inr ⟨p, ?_, hp.mono (by omega)⟩
    simp [EO, testM, he]
  · have pk : ∀ q k, Hand k q → k ≤ h + 1 → ∃ (i : Nat) (p' : PV), m_l_pick [q, .lst ((placesOf ss s).map fun i => D.int (i : Nat))] = some (.ok (.val (.int (i : Int))), [p', .lst ((placesOf ss s).map fun i => D.int (i : Nat))]) ∧ ss[i]? = some s ∧ Hand (h + 2) p' := fun q k hq hk => by
      obtain ⟨x, p2, e2, hx, hp2⟩ := pickL_ok (xs := (placesOf ss s).map fun i => D.int (i : Nat)) hq (by omega) (by simpa using he) (by simp; omega)
      obtain ⟨i, hi, rfl⟩ := List.mem_map.mp hx
      exact ⟨i, p2, e2, placesOf_mem hi, hp2.mono (by omega)⟩
    by_cases hL : L < 0
    · obtain ⟨i, p2, e2, hi, hp2⟩ := pk p h hp (by omega)
      refine .inl ⟨i, p2, ?_, hi, hp2⟩
      simp [EO, testM, he, hL, e2]
    · obtain ⟨d, p1, e1, d0, d3, hp1⟩ := take_ok (many := 3) hp (by omega) (by omega) (by omega)
      by_cases h0 : d = 0
      · subst h0
        obtain ⟨i, p2, e2, hi, hp2⟩ := pk p1 (h + 1) hp1 (by omega)
        refine .inl ⟨i, p2, ?_, hi, hp2⟩
        simp [EO, testM, he, hL, e1, e2]
      · refine .inr ⟨p1, ?_, hp1⟩
        simp [EO, testM, he, hL, e1, h0]
end
end KX

namespace KX
open PySem PySem.Spec PyProof.Rows L2 DL FL NdefX LamX

section
variable {K : BK} {ss : List Str}
theorem row_sorts (hK : K.Ok) {w : Str} {r : List Str × Str} (e : K.row w = some r) : ∀ q ∈ r.1, q = th ∨ q ∈ namesOf K.ps := by
  unfold BK.row at e
  cases h1 : rowAt K.ms w with
  | some q =>
    rw [h1] at e
    cases e
    exact (hK.mo.sorts q (rowAt_mem h1).1).2.1
  | none =>
    rw [h1] at e
    cases h2 : askAt K.as w with
    | some q =>
      rw [h2] at e
      cases e
      exact ask_sorts (hK.ao.ok q (askAt_mem h2).1).1
    | none =>
      rw [h2] at e
      dsimp only at e
      cases h3 : rowAt K.cs w with
      | some q =>
        rw [h3] at e
        cases e
        exact ask_sorts (hK.co q (rowAt_mem h3).1)
      | none => rw [h3] at e; cases e
def frontM (m : FM) (rest : M Res) : M Res := (mSeq (mSetIx 4 (mOp2 fSub (mIxL 4 (mPure (.int 0))) (mPure (.int 1))) (mPure (.int 0)))
      (mSeq (mSetO 5 (mMap .lst (mLc (mEnT (mCons (mVar 2) mNil)) cYes (gTup 2 (gCons (gN 6) (gCons (gN 7) gNil))) (t_l_open_term_1 m) (e_l_open_term_1 m) [6, 7])))
      rest))
theorem front_ok {m : FM} {rest : M Res} {s : Str} {L : Int} {p : PV} (hsl : ss.length ≤ 1000) :
    frontM m rest [some p, some (.val K.d), some (.val (strL ss)), some (.val (.str s)), some (.lst [.int L]), none, none, none, none, none, none] = rest (EO K ss p s (L - 1) ((placesOf ss s).map fun i => D.int (i : Nat)) none none none none none) := by
  unfold frontM
  refine (seq_nx (ε' := [some p, some (.val K.d), some (.val (strL ss)), some (.val (.str s)), some (.lst [.int (L - 1)]), none, none, none, none, none, none]) (by simp)).trans ?_
  refine (seq_nx ?_).trans rfl
  have en : mLcL (cYes (pairsFrom 0 (ss.map D.str))) (gTup 2 (gCons (gN 6) (gCons (gN 7) gNil))) (t_l_open_term_1 m) (e_l_open_term_1 m) [6, 7] (pairsFrom 0 (ss.map D.str)) [] [some p, some (.val K.d), some (.val (strL ss)), some (.val (.str s)), some (.lst [.int (L - 1)]), none, none, none, none, none, none] =
      some (.ok ((placesOf ss s).map fun i => D.int (i : Nat)), [some p, some (.val K.d), some (.val (strL ss)), some (.val (.str s)), some (.lst [.int (L - 1)]), none, none, none, none, none, none]) := by
    rw [pairs_enum]
    have := comp_look (toD := fun q : Nat × Str => D.tup [.int (q.1 : Nat), .str q.2]) (c := cYes (pairsFrom 0 (ss.map D.str))) (g := gTup 2 (gCons (gN 6) (gCons (gN 7) gNil))) (tt := t_l_open_term_1 m) (te := e_l_open_term_1 m) (vs := [6, 7]) (ε := [some p, some (.val K.d), some (.val (strL ss)), some (.val (.str s)), some (.lst [.int (L - 1)]), none, none, none, none, none, none]) (fun q => decide (q.2 = s)) (fun q => .int (q.1 : Nat)) rfl (enumF 0 ss) fun q _ => by
      simp [t_l_open_term_1, e_l_open_term_1]
    rw [← pairs_enum] at this ⊢
    rw [this]
    simp [placesOf]
  have hpf : (pairsFrom 0 (ss.map D.str)).length ≤ 1000000 := by rw [pairsFrom_length]; simp; omega
  simp [EO, hpf, en]
def rowsM : M Res := (mSetO 8 (mMap .lst (mCatFF (mListV (mIx (mVar 1) (mPure (.int 1)))) (mRepF (mListV (mIx (mVar 1) (mPure (.int 3)))) (mPure (.int 2))))))
theorem rows_ok (hK : K.Ok) {s : Str} {L : Int} {p : PV} {S : List D} {x6 x7 x8 x9 x10 : Option PV} : rowsM (EO K ss p s L S x6 x7 x8 x9 x10) = some (.ok .nx, EO K ss p s L S x6 x7 (some (.lst (K.ms.map rowD ++ (K.cs.map rowD ++ K.cs.map rowD)))) x9 x10) := by
  have h1 := hK.mo.few
  have h2 := hK.cl
  have h3 : K.cs.length ≤ 1000 := by omega
  have h4 : K.ms.length + (K.cs.length + K.cs.length) ≤ 1000000 := by omega
  simp [EO, rowsM, rowsD, h3, h4]
def midM (m : FM) : M Res := (mIf (mB (mOp2 (fEq true) (mVar 3) (mPure (.str "thing")))) (mSeq (mSetO 8 (mMap .lst (mLc (mItT (mIx (mVar 1) (mPure (.int 2)))) cYes (gN 9) (t_l_open_term_2 m) (e_l_open_term_2 m) [9])))
      (mIf (mOr (mB (mNilL false 8)) (mOr (mB (mOp2 fLt (mIxL 4 (mPure (.int 0))) (mPure (.int 0)))) (mB (mOp2 (fEq false) (mV (mCall m_l_take (mArgS 0 (mArgV (mPure (.int 3)) (mPure []))))) (mPure (.int 0)))))) (mRet (mV (mCall m_l_pick (mArgS 0 (mArgV (mIxDict (mIx (mVar 1) (mPure (.int 0))) (mVar 3)) (mPure [])))))) (mPure .nx))) (mIf (mB (mOp2 fLt (mIxL 4 (mPure (.int 0))) (mPure (.int 0)))) (mSetO 8 (mMap .lst (mLc (mItT (mIx (mVar 1) (mPure (.int 1)))) cYes (gN 9) (t_l_open_term_3 m) (e_l_open_term_3 m) [9]))) (mPure .nx)))
def asksFor (K : BK) (s : Str) : List Ask := K.as.filter fun a => decide (a.2.2 = s)
def lows (K : BK) : List Row := K.ms.filter fun r => decide (th ∉ r.2)
theorem mid_plain {m : FM} (hK : K.Ok) {s : Str} {L h : Int} {S : List D} {p : PV} {x6 x7 x8 x10 : Option PV} (hs : s ∈ namesOf K.ps) (hp : Hand h p) (hh : h ≤ 900000) :
    (∃ (v : Str) (p' : PV), midM m (EO K ss p s L S x6 x7 x8 none x10) = some (.ok (.rt (.val (.str v))), EO K ss p' s L S x6 x7 (some (.lst ((asksFor K s).map askD))) none x10) ∧ K.plain v = some s ∧ Hand (h + 2) p') ∨
    (∃ (p' : PV), midM m (EO K ss p s L S x6 x7 x8 none x10) = some (.ok .nx, EO K ss p' s L S x6 x7 (some (.lst ((asksFor K s).map askD))) none x10) ∧ Hand (h + 1) p' ∧ 0 ≤ L ∧ asksFor K s ≠ []) := by
  have hne : s ≠ Str.ofString "thing" := fun z => hK.th (by rw [show th = s from z.symm]; exact hs)
  have hal : K.as.length ≤ 1000000 := by have := hK.ao.few; omega
  have ec : mLcL (cYes (K.as.map askD)) (gN 9) (t_l_open_term_2 m) (e_l_open_term_2 m) [9] (K.as.map askD) [] (EO K ss p s L S x6 x7 x8 none x10) = some (.ok ((asksFor K s).map askD), EO K ss p s L S x6 x7 x8 none x10) :=
    comp_look (toD := askD) (fun a => decide (a.2.2 = s)) askD rfl K.as fun a _ => by simp [EO, askD, t_l_open_term_2, e_l_open_term_2]
  obtain ⟨r, hr, hrs⟩ := List.mem_map.mp hs
  have hv := hK.pk.vals r hr
  have hd := dict_row (plains_nd hK) hr
  rw [hrs] at hd
  have pk : ∀ q k, Hand k q → k ≤ h + 1 → ∃ (v : Str) (p' : PV), m_l_pick [q, .val (strL r.2)] = some (.ok (.val (.str v)), [p', .val (strL r.2)]) ∧ K.plain v = some s ∧ Hand (h + 2) p' := fun q k hq hk => by
    obtain ⟨x, p2, e2, hx, hp2⟩ := pickT_ok (xs := r.2.map D.str) hq (by omega) (List.ne_nil_of_length_pos (by rw [List.length_map]; omega)) (by simp; omega)
    obtain ⟨v, hv, rfl⟩ := List.mem_map.mp hx
    exact ⟨v, p2, e2, by rw [plain_of hK hr hv, hrs], hp2.mono (by omega)⟩
  simp only [EO] at ec
  by_cases he : asksFor K s = []
  · obtain ⟨v, p2, e2, hv, hp2⟩ := pk p h hp (by omega)
    refine .inl ⟨v, p2, ?_, hv, hp2⟩
    simp only [he, List.map_nil] at ec
    simp [EO, midM, hne, hal, ec, he, hd, e2]
  · have he2 : ((asksFor K s).map askD).isEmpty = false := by
      cases hq : asksFor K s with
      | nil => exact absurd hq he
      | cons a b => rfl
    obtain ⟨R, hR⟩ : ∃ R, R = (asksFor K s).map askD := ⟨_, rfl⟩
    rw [← hR] at ec he2
    by_cases hL : L < 0
    · obtain ⟨v, p2, e2, hv, hp2⟩ := pk p h hp (by omega)
      refine .inl ⟨v, p2, ?_, hv, hp2⟩
      rw [← hR]
      simp [EO, midM, hne, hal, ec, he2, hL, hd, e2]
    · obtain ⟨d, p1, e1, d0, d3, hp1⟩ := take_ok (many := 3) hp (by omega) (by omega) (by omega)
      by_cases h0 : d = 0
      · subst h0
        obtain ⟨v, p2, e2, hv, hp2⟩ := pk p1 (h + 1) hp1 (by omega)
        refine .inl ⟨v, p2, ?_, hv, hp2⟩
        rw [← hR]
        simp [EO, midM, hne, hal, ec, he2, hL, e1, hd, e2]
      · refine .inr ⟨p1, ?_, hp1, by omega, he⟩
        rw [← hR]
        simp [EO, midM, hne, hal, ec, he2, hL, e1, h0]
theorem mid_low {m : FM} (hK : K.Ok) {L : Int} {S : List D} {p : PV} {x6 x7 x8 x10 : Option PV} (hL : L < 0) : midM m (EO K ss p th L S x6 x7 x8 none x10) = some (.ok .nx, EO K ss p th L S x6 x7 (some (.lst ((lows K).map rowD))) none x10) := by
  have hml : K.ms.length ≤ 1000000 := by have := hK.mo.few; omega
  have ec : mLcL (cYes (K.ms.map rowD)) (gN 9) (t_l_open_term_3 m) (e_l_open_term_3 m) [9] (K.ms.map rowD) [] (EO K ss p th L S x6 x7 x8 none x10) = some (.ok ((lows K).map rowD), EO K ss p th L S x6 x7 x8 none x10) :=
    comp_look (toD := rowD) (fun r => decide (th ∉ r.2)) rowD rfl K.ms fun r _ => by
      have h1 := in_strs th r.2
      have h2 := flat_strs r.2
      by_cases hq : th ∈ r.2
      · simp only [hq, decide_true] at h1
        simp [EO, rowD, strL, t_l_open_term_3, e_l_open_term_3, flatD, h1, hq]
      · simp only [hq, decide_false] at h1
        simp [EO, rowD, strL, t_l_open_term_3, e_l_open_term_3, flatD, h1, hq]
  simp only [EO] at ec
  simp [EO, midM, hL, hml, ec]
theorem mid_high {m : FM} {L : Int} {S : List D} {p : PV} {x6 x7 x8 x9 x10 : Option PV} (hL : 0 ≤ L) : midM m (EO K ss p th L S x6 x7 x8 x9 x10) = some (.ok .nx, EO K ss p th L S x6 x7 x8 x9 x10) := by
  have hL2 : ¬ L < 0 := by omega
  simp [EO, midM, hL2]
theorem open_eq (n : Nat) : m_l_open_term (n + 1) = fnF 5 [0, 4] 11 (frontM (m_l_open_term n) (mSeq testM (mSeq rowsM (mSeq (midM (m_l_open_term n)) (tailM (m_l_open_term n)))))) := rfl
theorem open_of {n : Nat} {s : Str} {L : Int} {p p' : PV} {t : D} {S : List D} {x6 x7 x8 x9 x10 : Option PV} (hsl : ss.length ≤ 1000)
    (h : mSeq testM (mSeq rowsM (mSeq (midM (m_l_open_term n)) (tailM (m_l_open_term n)))) (EO K ss p s (L - 1) ((placesOf ss s).map fun i => D.int (i : Nat)) none none none none none) = some (.ok (.rt (.val t)), EO K ss p' s (L - nodD t) S x6 x7 x8 x9 x10)) :
    m_l_open_term (n + 1) [p, .val K.d, .val (strL ss), .val (.str s), .lst [.int L]] = some (.ok (.val t), [p', .val K.d, .val (strL ss), .val (.str s), .lst [.int (L - nodD t)]]) := by
  rw [open_eq]
  refine fnF_of (ε := EO K ss p' s (L - nodD t) S x6 x7 x8 x9 x10) rfl ?_ (by simp [EO])
  rw [← h]
  exact front_ok hsl
theorem leaf_ot (hK : K.Ok) (hsl : ss.length ≤ 1000) {n : Nat} {L : Int} {s : Str} (hL : L ≤ 0) (hs : s ∈ namesOf K.ps) : OTP K ss (m_l_open_term (n + 1)) L s 0 1 800000 := fun p h hp hh => by
  rcases test_ok (ss := ss) (K := K) (s := s) (L := L - 1) (x6 := none) (x7 := none) (x8 := none) (x9 := none) (x10 := none) hp (by omega) hsl with ⟨i, p1, e1, hi, hp1⟩ | ⟨p1, e1, hp1⟩
  · refine ⟨.int i, p1, open_of hsl (seq_rt e1), ?_, by simp [nodD_leaf (d := .int i) rfl], hp1.mono (by rw [nodD_leaf rfl]; omega), by simp [dp]⟩
    rw [soD_int, if_pos (by omega), Int.toNat_natCast]
    exact hi
  · rcases mid_plain (m := m_l_open_term n) (ss := ss) hK (L := L - 1) (S := (placesOf ss s).map fun i => D.int (i : Nat)) (x6 := none) (x7 := none) (x8 := some (.lst (K.ms.map rowD ++ (K.cs.map rowD ++ K.cs.map rowD)))) (x10 := none) hs hp1 (by omega) with ⟨v, p2, e2, hv, hp2⟩ | ⟨p2, _, _, hL2, _⟩
    · refine ⟨.str v, p2, open_of hsl ((seq_nx e1).trans ((seq_nx (rows_ok hK)).trans (seq_rt e2))), by rw [soD_str]; exact hv, by simp [nodD_leaf (d := .str v) rfl], hp2.mono (by rw [nodD_leaf rfl]; omega), by simp [dp]⟩
    · omega
def cf (L : Int) : Nat := if L ≤ 0 then 4 else (9 * L + 4).toNat
def hbf (L : Int) : Int := 600000 - 100 * L.toNat - 100
theorem open_tail {n : Nat} {s : Str} {L h h2 : Int} {p p1 p2 : PV} {R : List D} {Bd : Nat → Nat → Prop} {cf' : Int → Nat} {hb' : Int → Int} {dm : Nat} (hK : K.Ok) (hsl : ss.length ≤ 1000)
    (e1 : testM (EO K ss p s (L - 1) ((placesOf ss s).map fun i => D.int (i : Nat)) none none none none none) = some (.ok .nx, EO K ss p1 s (L - 1) ((placesOf ss s).map fun i => D.int (i : Nat)) none none none none none))
    (e2 : midM (m_l_open_term n) (EO K ss p1 s (L - 1) ((placesOf ss s).map fun i => D.int (i : Nat)) none none (some (.lst (K.ms.map rowD ++ (K.cs.map rowD ++ K.cs.map rowD)))) none none) = some (.ok .nx, EO K ss p2 s (L - 1) ((placesOf ss s).map fun i => D.int (i : Nat)) none none (some (.lst R)) none none))
    (hp2 : Hand h2 p2) (hh : h2 ≤ h + 3) (hh9 : h2 ≤ 900000) (hR : R ≠ []) (hRl : R.length ≤ 1000000) (hrow : ∀ x ∈ R, RowFor K s x)
    (b0 : Bd 0 0) (b1 : ∀ k N N', k < 3 → Bd k N → 1 ≤ N' → N' ≤ cf' (L - 1 - N) → Bd (k + 1) (N + N')) (b2 : ∀ k N, Bd k N → h2 + 1 + 4 * N ≤ hb' (L - 1 - N)) (kid : ∀ x ∈ R, ∀ w qs, fIx x (.int 0) = some (.str w) → K.row w = some (qs, s) → ∀ l ≤ L - 1, ∀ q ∈ qs, OTP K ss (m_l_open_term n) l q dm (cf' l) (hb' l))
    {c : Nat} (bc : ∀ k N, k ≤ 3 → Bd k N → N + 1 ≤ c) :
    ∃ t p', m_l_open_term (n + 1) [p, .val K.d, .val (strL ss), .val (.str s), .lst [.int L]] = some (.ok (.val t), [p', .val K.d, .val (strL ss), .val (.str s), .lst [.int (L - nodD t)]]) ∧
    soD K ss t = some s ∧ nodD t ≤ c ∧ Hand (h + 4 * nodD t) p' ∧ dp t ≤ dm + 1 := by
  obtain ⟨t, p3, ε', e3, ⟨y6, y7, y8, y9, y10, rfl⟩, ht, ⟨k, N, hk, hN, hnod⟩, hd, hp3⟩ := tail_ok (m := m_l_open_term n) (ss := ss) (S := (placesOf ss s).map fun i => D.int (i : Nat)) (x6 := none) (x7 := none) (x9 := none) (x10 := none) hK hp2 hh9 hR hRl hrow b0 b1 b2 kid
  have el : L - 1 + 1 - (nodD t : Int) = L - nodD t := by omega
  rw [el] at e3
  exact ⟨t, p3, open_of hsl ((seq_nx e1).trans ((seq_nx (rows_ok hK)).trans ((seq_nx e2).trans e3))), ht, by have := bc k N hk hN; omega, hp3.mono (by have := nodD_pos t; omega), hd⟩
theorem lows_ne (hK : K.Ok) : (lows K).map rowD ≠ [] := by
  obtain ⟨r, hr, hth⟩ := hK.mo.first
  have : r ∈ lows K := List.mem_filter.mpr ⟨hr, by simpa using hth⟩
  intro z
  rw [List.map_eq_nil_iff] at z
  rw [z] at this
  cases this
theorem open_ok (hK : K.Ok) (hsl : ss.length ≤ 1000) : ∀ (n : Nat) (L : Int) (s : Str), L.toNat + 2 ≤ n → L ≤ 100 → (s = th ∨ s ∈ namesOf K.ps) → OTP K ss (m_l_open_term n) L s (L.toNat + 1) (cf L) (hbf L)
  | 0, L, s, hn, _, _ => by omega
  | n + 1, L, s, hn, hL, hs => by
    have hbl : hbf L ≤ 599900 := by unfold hbf; omega
    by_cases hth : s = th
    · subst hth
      intro p h hp hh
      rcases test_ok (ss := ss) (K := K) (s := th) (L := L - 1) (x6 := none) (x7 := none) (x8 := none) (x9 := none) (x10 := none) hp (by omega) hsl with ⟨i, p1, e1, hi, hp1⟩ | ⟨p1, e1, hp1⟩
      · refine ⟨.int i, p1, open_of hsl (seq_rt e1), ?_, by rw [nodD_leaf (d := .int i) rfl]; unfold cf; split <;> omega, hp1.mono (by rw [nodD_leaf rfl]; omega), by simp [dp]⟩
        rw [soD_int, if_pos (by omega), Int.toNat_natCast]
        exact hi
      · by_cases hL0 : L ≤ 0
        · have hml := hK.mo.few
          have hll : (lows K).length ≤ K.ms.length := List.length_filter_le _ _
          obtain ⟨t, p', e, a, b, c, d⟩ := open_tail (n := n) (L := L) (h := h) (R := (lows K).map rowD) (Bd := fun k N => N = k ∧ k ≤ 3) (cf' := fun _ => 1) (hb' := fun _ => 800000) (dm := 0) (c := 4) hK hsl e1 (mid_low hK (by omega)) hp1 (by omega) (by omega) (lows_ne hK) (by rw [List.length_map]; omega) (fun x hx => by
              obtain ⟨r, hr, rfl⟩ := List.mem_map.mp hx
              exact ⟨r.1, r.2, fIx_rowD0 r, fIx_rowD1 r, row_maker hK (List.mem_filter.mp hr).1⟩) ⟨rfl, by omega⟩ (fun k N N' hk hB h1 h2 => by omega) (fun k N hB => by omega) (fun x hx w qs h0 hr l hl q hq => by
              obtain ⟨r, hr2, rfl⟩ := List.mem_map.mp hx
              obtain ⟨hrm, hrt⟩ := List.mem_filter.mp hr2
              rw [fIx_rowD0] at h0
              cases h0
              rw [row_maker hK hrm] at hr
              cases hr
              have hqn : q ∈ namesOf K.ps := by
                rcases (hK.mo.sorts r hrm).2.1 q hq with z | z
                · subst z
                  simp at hrt
                  exact absurd hq hrt
                · exact z
              obtain ⟨n, rfl⟩ : ∃ j, n = j + 1 := ⟨n - 1, by omega⟩
              exact leaf_ot hK hsl (by omega) hqn) (fun k N hk hB => by omega)
          exact ⟨t, p', e, a, by unfold cf; split <;> omega, c, by omega⟩
        · have hml := hK.mo.few
          have hcl := hK.cl
          have hpos := hK.mo.pos
          obtain ⟨t, p', e, a, b, c, d⟩ := open_tail (n := n) (L := L) (h := h) (R := K.ms.map rowD ++ (K.cs.map rowD ++ K.cs.map rowD)) (Bd := fun k N => (N : Int) ≤ 9 * (L - 1) + 4 * k ∧ k ≤ 3) (cf' := cf) (hb' := hbf) (dm := (L - 1).toNat + 1) (c := cf L) hK hsl e1 (mid_high (by omega)) hp1 (by omega) (by omega) (List.ne_nil_of_length_pos (by simp; omega)) (by simp; omega) (fun x hx => by
              rcases List.mem_append.mp hx with hx | hx
              · obtain ⟨r, hr, rfl⟩ := List.mem_map.mp hx
                exact ⟨r.1, r.2, fIx_rowD0 r, fIx_rowD1 r, row_maker hK hr⟩
              · have hx : x ∈ K.cs.map rowD := (List.mem_append.mp hx).elim id id
                obtain ⟨r, hr, rfl⟩ := List.mem_map.mp hx
                exact ⟨r.1, r.2, fIx_rowD0 r, fIx_rowD1 r, row_change hK hr⟩) ⟨by omega, by omega⟩ (fun k N N' hk hB h1 h2 => by
              unfold cf at h2
              split at h2 <;> omega) (fun k N hB => by
              unfold hbf at hh ⊢
              omega) (fun x hx w qs h0 hr l hl q hq => (open_ok hK hsl n l q (by omega) (by omega) (row_sorts hK hr q hq)).mono (by omega) (Nat.le_refl _) (Int.le_refl _)) (fun k N hk hB => by
              unfold cf
              split <;> omega)
          exact ⟨t, p', e, a, b, c, by omega⟩
    · have hs2 : s ∈ namesOf K.ps := hs.resolve_left hth
      by_cases hL0 : L ≤ 0
      · exact (leaf_ot hK hsl hL0 hs2).mono (by omega) (by unfold cf; split <;> omega) (by omega)
      · intro p h hp hh
        rcases test_ok (ss := ss) (K := K) (s := s) (L := L - 1) (x6 := none) (x7 := none) (x8 := none) (x9 := none) (x10 := none) hp (by omega) hsl with ⟨i, p1, e1, hi, hp1⟩ | ⟨p1, e1, hp1⟩
        · refine ⟨.int i, p1, open_of hsl (seq_rt e1), ?_, by rw [nodD_leaf (d := .int i) rfl]; unfold cf; split <;> omega, hp1.mono (by rw [nodD_leaf rfl]; omega), by simp [dp]⟩
          rw [soD_int, if_pos (by omega), Int.toNat_natCast]
          exact hi
        · rcases mid_plain (m := m_l_open_term n) (ss := ss) hK (L := L - 1) (S := (placesOf ss s).map fun i => D.int (i : Nat)) (x6 := none) (x7 := none) (x8 := some (.lst (K.ms.map rowD ++ (K.cs.map rowD ++ K.cs.map rowD)))) (x10 := none) hs2 hp1 (by omega) with ⟨v, p2, e2, hv, hp2⟩ | ⟨p2, e2, hp2, _, hne⟩
          · exact ⟨.str v, p2, open_of hsl ((seq_nx e1).trans ((seq_nx (rows_ok hK)).trans (seq_rt e2))), by rw [soD_str]; exact hv, by rw [nodD_leaf (d := .str v) rfl]; unfold cf; split <;> omega, hp2.mono (by rw [nodD_leaf rfl]; omega), by simp [dp]⟩
          · have hal := hK.ao.few
            have hfl : (asksFor K s).length ≤ K.as.length := List.length_filter_le _ _
            obtain ⟨t, p', e, a, b, c, d⟩ := open_tail (n := n) (L := L) (h := h) (R := (asksFor K s).map askD) (Bd := fun k N => (N : Int) ≤ 9 * (L - 1) + 4 * k ∧ k ≤ 3) (cf' := cf) (hb' := hbf) (dm := (L - 1).toNat + 1) (c := cf L) hK hsl e1 e2 hp2 (by omega) (by omega) (by simpa using hne) (by rw [List.length_map]; omega) (fun x hx => by
                obtain ⟨r, hr, rfl⟩ := List.mem_map.mp hx
                obtain ⟨hr1, hr2⟩ := List.mem_filter.mp hr
                simp at hr2
                exact ⟨r.1, r.2.1, fIx_askD0 r, fIx_askD1 r, by rw [row_ask hK hr1, hr2]⟩) ⟨by omega, by omega⟩ (fun k N N' hk hB h1 h2 => by
                unfold cf at h2
                split at h2 <;> omega) (fun k N hB => by
                unfold hbf at hh ⊢
                omega) (fun x hx w qs h0 hr l hl q hq => (open_ok hK hsl n l q (by omega) (by omega) (row_sorts hK hr q hq)).mono (by omega) (Nat.le_refl _) (Int.le_refl _)) (fun k N hk hB => by
                unfold cf
                split <;> omega)
            exact ⟨t, p', e, a, b, c, by omega⟩
end
end KX

namespace KX
open PySem PySem.Spec PyProof.Rows L2 DL FL NdefX LamX

section
variable {K : BK} {ss : List Str} {ts : List D}
end
end KX

namespace KX
open PySem PySem.Spec PyProof.Rows L2 DL FL NdefX LamX
theorem hbf_ok {L : Int} (h : L ≤ 15) {k : Int} (hk : k ≤ 500000) : k ≤ hbf L := by
  unfold hbf
  omega
theorem cf15 {L : Int} (h : L ≤ 15) : cf L ≤ 139 := by
  unfold cf
  split <;> omega
end KX

namespace KX
open PySem PySem.Spec PyProof.Rows L2 DL FL NdefX LamX
def figs (i : Nat) : Str := toString (i : Int)
inductive GT : D → Prop
  | word {w : Str} (h : okW w = true) : GT (.str w)
  | num {i : Nat} (h : i < 1000) : GT (.int i)
  | call {w : Str} {ds : List D} (h : okW w = true) (hd : ∀ d ∈ ds, GT d) : GT (.tup (.str w :: ds))
mutual
def txC : D → List Nat
  | .tup (.str w :: ds) => w.cps.toList ++ 40 :: ((txR ds).drop 2 ++ [41])
  | .str w => w.cps.toList
  | .int i => 35 :: (figs i.toNat).cps.toList
  | _ => []
def txR : List D → List Nat
  | [] => []
  | d :: ds => 44 :: 32 :: (txC d ++ txR ds)
end
def txt (d : D) : Str := ⟨(txC d).toArray⟩
theorem txC_call (w : Str) (ds : List D) : txC (.tup (.str w :: ds)) = w.cps.toList ++ 40 :: ((txR ds).drop 2 ++ [41]) := by unfold txC; rfl
theorem txC_str (w : Str) : txC (.str w) = w.cps.toList := by unfold txC; rfl
theorem txC_int (i : Nat) : txC (.int i) = 35 :: (figs i).cps.toList := by unfold txC; rfl
theorem txR_nil : txR [] = [] := by unfold txR; rfl
theorem txR_cons (d : D) (ds : List D) : txR (d :: ds) = 44 :: 32 :: (txC d ++ txR ds) := by conv => lhs; unfold txR
theorem str_ext {a b : Str} (h : a.cps.toList = b.cps.toList) : a = b := by
  cases a; cases b
  simp at h
  rw [h]
theorem txt_l (d : D) : (txt d).cps.toList = txC d := rfl
theorem app_l (a b : Str) : (a ++ b).cps.toList = a.cps.toList ++ b.cps.toList := by
  rw [Str.cps_append, Array.toList_append]
theorem join_l : ∀ ds : List D, (Str.join ", " (ds.map txt)).cps.toList = (txR ds).drop 2
  | [] => by rw [txR_nil]; rfl
  | [d] => by rw [txR_cons, txR_nil, List.append_nil]; rfl
  | d :: e :: ds => by
    have ih := join_l (e :: ds)
    have e0 : Str.join ", " ((d :: e :: ds).map txt) = txt d ++ ", " ++ Str.join ", " ((e :: ds).map txt) := rfl
    rw [e0, app_l, app_l, ih, txR_cons, txt_l]
    have h : (", " : Str).cps.toList = [44, 32] := by decide +kernel
    rw [h]
    simp [txR_cons]
def smallB (i : Nat) : Bool := decide (1 ≤ (figs i).cps.size) && decide ((figs i).cps.size ≤ 3) && ((figs i).cps.toList.all fun c => decide (48 ≤ c) && decide (c < 58)) && (decide (figs i = "0") || decide ((figs i).cps.toList.head? ≠ some 48)) && decide (PySem.intText? (figs i) = some (i : Int))
theorem small_all : ∀ i : Fin 1000, smallB i.val = true := by decide +kernel
theorem small_ok {i : Nat} (h : i < 1000) : 1 ≤ (figs i).cps.toList.length ∧ (figs i).cps.toList.length ≤ 3 ∧ (∀ c ∈ (figs i).cps.toList, 48 ≤ c ∧ c < 58) ∧ (figs i = "0" ∨ (figs i).cps.toList.head? ≠ some 48) ∧ PySem.intText? (figs i) = some (i : Int) := by
  have := small_all ⟨i, h⟩
  simp only [smallB, Bool.and_eq_true, Bool.or_eq_true, decide_eq_true_eq, List.all_eq_true] at this
  obtain ⟨⟨⟨⟨a, b⟩, c⟩, d⟩, e⟩ := this
  exact ⟨by rwa [Array.length_toList], by rwa [Array.length_toList], c, d, e⟩
theorem okW_ok {w : Str} (h : okW w = true) : 1 ≤ w.cps.toList.length ∧ w.cps.toList.length ≤ 4 ∧ ∀ c ∈ w.cps.toList, 97 ≤ c ∧ c < 123 := by
  simp only [okW, Bool.and_eq_true, decide_eq_true_eq, List.all_eq_true] at h
  obtain ⟨⟨⟨_, a⟩, b⟩, c⟩ := h
  exact ⟨by rwa [Array.length_toList], by rwa [Array.length_toList], c⟩
theorem txR_len {ds : List D} (h : ∀ d ∈ ds, (txC d).length + 2 ≤ 10 * nodD d) : (txR ds).length ≤ 10 * nodL ds := by
  induction ds with
  | nil => rw [txR_nil]; simp
  | cons d ds ih =>
    rw [txR_cons, nodL_cons]
    have h1 := h d (List.mem_cons_self ..)
    have h2 := ih fun x hx => h x (List.mem_cons_of_mem _ hx)
    simp only [List.length_cons, List.length_append]
    omega
theorem GT.len {d : D} (h : GT d) : (txC d).length + 2 ≤ 10 * nodD d := by
  induction h with
  | word h =>
    have := (okW_ok h).2.1
    rw [txC_str, nodD_leaf rfl]
    omega
  | num h =>
    have := (small_ok h).2.1
    rw [txC_int, nodD_leaf rfl, List.length_cons]
    omega
  | call h _ ih =>
    have := (okW_ok h).2.1
    have h2 := txR_len ih
    rw [txC_call, nodD_call]
    simp only [List.length_cons, List.length_append, List.length_drop, List.length_nil]
    omega
theorem typed_gt {K : BK} (h : K.Ok) {ss : List Str} (hl : ss.length ≤ 1000) : ∀ (d : D) (s : Str), soD K ss d = some s → GT d := by
  refine D_ind (fun d hc s e => ?_) (fun w ds ih s e => ?_)
  · rcases leaf_cases e hc with ⟨i, rfl, hi⟩ | ⟨v, rfl, hv⟩
    · have hlt : i < ss.length := (List.getElem?_eq_some_iff.mp hi).1
      exact .num (by omega)
    · exact .word (plain_word h hv).1
  · obtain ⟨r, hr, he, rfl⟩ := call_typed e
    refine .call (row_word h hr) fun d hd => ?_
    obtain ⟨s, _, hs⟩ := typed_parts he d hd
    exact ih d hd s hs
theorem GT.sh {d : D} (h : GT d) : Sh d := by
  induction h with
  | word hv =>
    obtain ⟨w1, w2⟩ := words_short hv
    refine ⟨?_, ?_⟩
    · simp only [tame]
      exact w1
    · rw [nodD_leaf rfl]
      simp only [FL.wt]
      omega
  | num hi =>
    refine ⟨?_, ?_⟩
    · simp only [tame, Bool.and_eq_true, decide_eq_true_eq]
      omega
    · rw [nodD_leaf rfl]
      have := int_wt hi
      omega
  | call hw _ ih =>
    obtain ⟨w1, w2⟩ := words_short hw
    refine ⟨?_, ?_⟩
    · simp only [tame, tameL, Bool.and_eq_true]
      exact ⟨w1, tameL_of fun d h => (ih d h).tm⟩
    · rw [nodD_call]
      have := wtL_of (c := 20) fun d h => (ih d h).wt
      simp only [FL.wt, wtL]
      omega
theorem GT.kind {d : D} (h : GT d) : isCallD d = true ∨ (∃ i : Nat, d = .int i ∧ i < 1000) ∨ ∃ v, d = .str v := by
  cases h with
  | word h => exact .inr (.inr ⟨_, rfl⟩)
  | num h => exact .inr (.inl ⟨_, rfl, h⟩)
  | call h _ => exact .inl rfl
theorem GT.repr {d : D} (h : GT d) (hn : nodD d ≤ 40000) (hd : dp d ≤ 61) : ∃ z, fReprV [d] = some (.str z) := repr_sh h.sh hn hd h.kind
end KX

namespace KX
open PySem PySem.Spec PyProof.Rows L2 DL FL NdefX LamX
theorem txt_str {w : Str} : txt (.str w) = w := str_ext (by rw [txt_l, txC_str])
theorem txt_int (i : Nat) : txt (.int i) = ("#" : Str) ++ figs i := str_ext (by
  rw [txt_l, txC_int, app_l]
  have h : ("#" : Str).cps.toList = [35] := by decide +kernel
  rw [h]
  rfl)
theorem txt_call (w : Str) (ds : List D) : txt (.tup (.str w :: ds)) = w ++ "(" ++ Txt.join ", " (ds.map txt) ++ ")" := str_ext (by
  rw [txt_l, txC_call, app_l, app_l, app_l, TL.join_eq, join_l]
  have h : ("(" : Str).cps.toList = [40] := by decide +kernel
  have h2 : (")" : Str).cps.toList = [41] := by decide +kernel
  rw [h, h2]
  simp)
theorem len_l (a : Str) : a.length = a.cps.toList.length := by
  rw [Array.length_toList]
  rfl
theorem sum_lens {ds : List D} (h : ∀ d ∈ ds, GT d) : ((ds.map txt).map (·.length)).sum + (ds.map txt).length * (", " : Str).length ≤ 10 * nodL ds := by
  have e : (", " : Str).length = 2 := by decide +kernel
  rw [e]
  induction ds with
  | nil => simp
  | cons d ds ih =>
    have h1 := (h d (List.mem_cons_self ..)).len
    have h2 := ih fun x hx => h x (List.mem_cons_of_mem _ hx)
    simp only [List.map_cons, List.sum_cons, List.length_cons, nodL_cons]
    have h3 : (txt d).length = (txC d).length := by rw [len_l, txt_l]
    omega
theorem join_gt {ds : List D} (h : ∀ d ∈ ds, GT d) (hn : nodL ds ≤ 50000) : joinD ", " (ds.map fun d => D.str (txt d)) = some (.str (Txt.join ", " (ds.map txt))) := by
  have e : (ds.map fun d => D.str (txt d)) = (ds.map txt).map D.str := by rw [List.map_map]; rfl
  have := sum_lens h
  rw [e, joinD_strs, if_pos (by omega)]
theorem join_len {ds : List D} (h : ∀ d ∈ ds, GT d) : (Txt.join ", " (ds.map txt)).length ≤ 10 * nodL ds := by
  rw [TL.join_eq, len_l, join_l, List.length_drop]
  have := txR_len fun d hd => (h d hd).len
  omega
theorem figs_ok {i : Nat} (h : i < 1000) : fStrI [.int (i : Int)] = some (.str (figs i)) := by
  have h1 : (i : Int).natAbs < 2 ^ 10 := by simp; omega
  have h2 := PySem.Flt.log2_lt_of (by decide) h1
  rw [fStrI_int, if_pos (by omega)]
  rfl
theorem lens : ("(" : Str).length = 1 ∧ (")" : Str).length = 1 ∧ ("#" : Str).length = 1 := by decide +kernel
theorem written_ok : ∀ (n : Nat) (t : D), GT t → dp t < n → nodD t ≤ 40000 → m_l_written n [t] = some (.str (txt t))
  | 0, t, _, h, _ => by omega
  | n + 1, t, h, hd, hn => by
    obtain ⟨l1, l2, l3⟩ := lens
    cases h with
    | word h =>
      rw [txt_str]
      simp [m_l_written, fIsi, tyP, subTy]
    | num h =>
      rename_i i
      have hl := (small_ok h).2.1
      rw [← len_l] at hl
      rw [txt_int]
      simp [m_l_written, fIsi, tyP, subTy, figs_ok h, l3, show 1 + (figs i).length ≤ 1000000 by omega]
    | call hw hds =>
      rename_i w ds
      rw [dp_call] at hd
      rw [nodD_call] at hn
      have hw2 := (okW_ok hw).2.1
      rw [← len_l] at hw2
      have hj := join_len hds
      have hc : ∀ x0 : Option PV, mLcL (cYes ds) (gN 1) (mPure true) (e_l_written_1 (m_l_written n)) [1] ds [] [x0, none] = some (.ok (ds.map fun d => D.str (txt d)), [x0, none]) := fun x0 => by
        have := comp_look (toD := fun d : D => d) (c := cYes ds) (g := gN 1) (tt := mPure true) (te := e_l_written_1 (m_l_written n)) (vs := [1]) (ε := [x0, none]) (fun _ => true) (fun d => .str (txt d)) rfl ds (fun d hd2 => by
          have h1 := dp_mem hd2
          have h2 : nodD d ≤ nodL ds := nod_mem hd2
          simp [e_l_written_1, written_ok n d (hds d hd2) (by omega) (by omega)])
        rw [List.filter_eq_self.mpr fun _ _ => rfl] at this
        simpa using this
      have hdl := nod_len ds
      rw [txt_call]
      simp [m_l_written, show ds.length ≤ 1000000 by omega, fIsi, tyP, subTy, hc, join_gt hds (by omega), cut1, Str.length_append, l1, l2, show w.length + 1 ≤ 1000000 by omega, show w.length + 1 + (Txt.join ", " (ds.map txt)).length ≤ 1000000 by omega, show w.length + 1 + (Txt.join ", " (ds.map txt)).length + 1 ≤ 1000000 by omega]
end KX

namespace KX
open PySem PySem.Spec PyProof.Rows L2 DL FL NdefX LamX
theorem bools_fnX {α : Type} (p : α → Bool) (xs : List α) : bools (xs.map fun x => D.bl (p x)) = some (xs.map p) := by
  have := bools_map (xs.map p)
  rw [List.map_map] at this
  exact this
theorem is_number_okX {i : Nat} (h : i < 1000) : m_p_is_number [.str (figs i)] = some (.bl true) := by
  obtain ⟨h1, h2, h3, h4, _⟩ := small_ok h
  rw [← len_l] at h1 h2
  have h2' : ((figs i).length : Int) ≤ 3 := by omega
  have h1' : (1 : Int) ≤ (figs i).length := by omega
  have hz : (figs i).length ≤ 1000000 := by omega
  rcases h4 with h4 | h4
  · rw [h4]
    have e : ("0" : Str).length = 1 := by decide +kernel
    simp [m_p_is_number, truD, e]
  · cases e : (figs i).cps.toList with
    | nil =>
      rw [len_l, e] at h1
      cases h1
    | cons c cs =>
      rw [e] at h4
      have hc : c ≠ 48 := fun q => h4 (by rw [q]; rfl)
      have hne : ¬ (⟨#[c]⟩ : Str) = "0" := fun q => by
        have : (⟨#[c]⟩ : Str).cps.toList = ("0" : Str).cps.toList := by rw [q]
        have e2 : ("0" : Str).cps.toList = [48] := by decide +kernel
        rw [e2] at this
        simp at this
        exact hc this
      have ei : atI (c :: cs) 0 = some c := atI_get (by decide) rfl
      by_cases h0 : figs i = "0"
      · rw [h0]
        have e : ("0" : Str).length = 1 := by decide +kernel
        simp [m_p_is_number, truD, e]
      · simp [m_p_is_number, truD, hz, h1', h2', e, ei, h0, hne]
theorem sIx_at {n d k : Nat} (h : k ≤ n) : HT.sIx n d (some (k : Int)) = k := by
  rw [HT.sIx_nat]
  omega
theorem cut_at {T : Str} {A S R : List Nat} (h : T.cps.toList = A ++ (S ++ R)) {p q : Int} (hp : p = A.length) (hq : q = (A.length + S.length : Nat)) : cutS T (some p) (some q) = ⟨S.toArray⟩ := by
  have hl : T.length = A.length + (S.length + R.length) := by rw [len_l, h]; simp
  unfold cutS
  rw [hp, hq, sIx_at (by omega), sIx_at (by omega), h]
  congr 1
  simp
theorem at_ {A R : List Nat} {c : Nat} {p : Int} (hp : p = A.length) : atI (A ++ c :: R) p = some c := by
  refine atI_get (by omega) ?_
  rw [hp]
  simp
theorem stretch_okX {T z : Str} {S R : List Nat} (hT : T.length ≤ 1000000) {A : List Nat} (h : T.cps.toList = A ++ (S ++ R)) (hS : ∀ c ∈ S, c ∈ z.cps.toList) (hR : ∀ c ∈ R.head?, c ∉ z.cps.toList) (hl : S.length ≤ 50000) {p : Int} (hp : p = A.length) :
    m_p_stretch_of [.str T, .int p, .str z] = some (.str ⟨S.toArray⟩) := by
  have go : ∀ (S1 S2 : List Nat) (n : Nat), S = S1 ++ S2 → S2.length < n → mWhile (mAnd (mB (mOp2 fLt (mVar 3) (mCB fLen (mCons (mVar 0) mNil)))) (mB (mOp2 fInS (mIx (mVar 0) (mVar 3)) (mVar 2)))) b_p_stretch_of_1 n [some (.val (.str T)), some (.val (.int p)), some (.val (.str z)), some (.val (.int (p + S1.length)))] = some (.ok .nx, [some (.val (.str T)), some (.val (.int p)), some (.val (.str z)), some (.val (.int (p + S.length)))]) := by
    intro S1 S2
    induction S2 generalizing S1 with
    | nil =>
      intro n e hn
      obtain ⟨n, rfl⟩ : ∃ m, n = m + 1 := ⟨n - 1, by omega⟩
      rw [List.append_nil] at e
      subst e
      cases R with
      | nil =>
        have hl : T.length = A.length + S.length := by rw [len_l, h]; simp
        have : ¬ p + (S.length : Int) < T.length := by omega
        unfold mWhile
        simp [hT, this]
      | cons c R =>
        have hl : T.length = A.length + (S.length + (R.length + 1)) := by rw [len_l, h]; simp
        have h1 : p + (S.length : Int) < T.length := by omega
        have h2 : atI T.cps.toList (p + S.length) = some c := by
          rw [h, ← List.append_assoc]
          exact at_ (by rw [hp]; simp)
        have h3 := hR c rfl
        unfold mWhile
        simp [hT, h1, h2, h3]
    | cons c S2 ih =>
      intro n e hn
      rw [List.length_cons] at hn
      obtain ⟨n, rfl⟩ : ∃ m, n = m + 1 := ⟨n - 1, by omega⟩
      have hl : T.length = A.length + (S1.length + (S2.length + 1) + R.length) := by rw [len_l, h, e]; simp; omega
      have h1 : p + (S1.length : Int) < T.length := by omega
      have h2 : atI T.cps.toList (p + S1.length) = some c := by
        have : T.cps.toList = (A ++ S1) ++ c :: (S2 ++ R) := by rw [h, e]; simp
        rw [this]
        exact at_ (by rw [hp]; simp)
      have h3 := hS c (by rw [e]; simp)
      have := ih (S1 ++ [c]) n (by rw [e]; simp) (by omega)
      rw [List.length_append, List.length_singleton] at this
      have e5 : p + (S1.length : Int) + 1 = p + ((S1.length + 1 : Nat) : Int) := by omega
      unfold mWhile
      simp [hT, h1, h2, h3, b_p_stretch_of_1, e5]
      exact this
  have e := go [] S FUEL rfl (by unfold FUEL; omega)
  have e2 := cut_at h (p := p) (q := p + S.length) hp (by omega)
  simp at e
  simp [m_p_stretch_of, e, hT, e2]
end KX

namespace KX
open PySem PySem.Spec PyProof.Rows L2 DL FL NdefX LamX
def rdN : List Str := ["text", "spot", "begun", "ended"]
def rdP (T : Str) (p : Int) (q : PV) (e : D) : List PV := [.val (.str T), .val (.int p), q, .val e]
def rd (T : Str) (p : Int) (B : List (List D)) (e : D) : PV := .obj "TermReader" rdN (rdP T p (.lsts (B.map PV.lst)) e)
section
variable {T : Str} {p : Int} {B : List (List D)} {e : D} {r : PEnv}
@[simp] theorem rd_text : mFld "TermReader" 0 "text" (some (rd T p B e) :: r) = some (.ok (.str T), some (rd T p B e) :: r) := rfl
@[simp] theorem rd_spot : mFld "TermReader" 0 "spot" (some (rd T p B e) :: r) = some (.ok (.int p), some (rd T p B e) :: r) := rfl
@[simp] theorem rd_ended : mFld "TermReader" 0 "ended" (some (rd T p B e) :: r) = some (.ok e, some (rd T p B e) :: r) := rfl
@[simp] theorem rd_len : mLenF "TermReader" 0 "begun" (some (rd T p B e) :: r) = some (.ok (.int B.length), some (rd T p B e) :: r) := by
  have : ((B.map PV.lst).length : Int) = B.length := by simp
  rw [← this]
  rfl
@[simp] theorem rd_putS (d : D) {q : Int} : mPutF "TermReader" 0 "spot" (.val (.int q)) (some (rd T p B e) :: r) = some (.ok .nx, some (rd T q B e) :: r) := rfl
@[simp] theorem rd_putE {d : D} : mPutF "TermReader" 0 "ended" (.val d) (some (rd T p B e) :: r) = some (.ok .nx, some (rd T p B d) :: r) := rfl
@[simp] theorem mAugF_run (cn f : Str) (i : Nat) (pv : M D) (ε : PEnv) : mAugF cn i f pv ε = (mBind (mFld cn i f) fun x => mBind (mLift (toI x)) fun a => mBind pv fun y => mBind (mLift (toI y)) fun b => mPutF cn i f (.val (.int (a + b)))) ε := rfl
@[simp] theorem mSetF_run (cn f : Str) (i : Nat) (pa : M D) (ε : PEnv) : mSetF cn i f pa ε = (mBind pa fun d => mPutF cn i f (.val d)) ε := rfl
theorem rd_meth {nm : Str} {m : FM} {v : D} {q : PV} (hn : nm ∉ rdN) (h : m [rd T p B e] = some (.ok (.val v), [q])) : mV (mMeth "TermReader" 0 nm m (mPure [])) (some (rd T p B e) :: r) = some (.ok v, some q :: r) := by
  have h1 : mMeth "TermReader" 0 nm m (mPure []) (some (rd T p B e) :: r) = mCall m (mArgS 0 (mPure [])) (some (rd T p B e) :: r) := by
    show (if _ then _ else _) = _
    rw [if_pos ⟨rfl, hn⟩]
  have h2 : mCall m (mArgS 0 (mPure [])) (some (rd T p B e) :: r) = some (.ok (.val v), some q :: r) := by
    simp [h]
  unfold mV
  rw [h1, h2]
theorem fldB {α : Type} {k : PV → Option (α × PV)} {a : α} {q : PV} (h : k (.lsts (B.map PV.lst)) = some (a, q)) : mFldG "TermReader" 0 "begun" k (some (rd T p B e) :: r) = some (.ok a, some (.obj "TermReader" rdN (rdP T p q e)) :: r) := by
  have hl : (rdN.zip (rdP T p (.lsts (B.map PV.lst)) e)).lookup ("begun" : Str) = some (.lsts (B.map PV.lst)) := rfl
  have hp : putV "begun" q rdN (rdP T p (.lsts (B.map PV.lst)) e) = rdP T p q e := rfl
  unfold mFldG rd
  simp only [List.getElem?_cons_zero, if_true, hl, h, hp, List.set_cons_zero]
theorem rd_pop {ys : List D} : mTupPop "TermReader" 0 "begun" (some (rd T p (B ++ [ys]) e) :: r) = some (.ok (.tup ys), some (rd T p B e) :: r) := by
  refine fldB (q := .lsts (B.map PV.lst)) ?_
  rw [List.map_append, List.map_singleton]
  simp [popT]
theorem rd_last {ys : List D} {d : D} {pr : M D} (hl : ys.length ≤ 1000000) (h : pr (some (rd T p (B ++ [ys]) e) :: r) = some (.ok d, some (rd T p (B ++ [ys]) e) :: r)) : mAppLast "TermReader" 0 "begun" pr (some (rd T p (B ++ [ys]) e) :: r) = some (.ok .non, some (rd T p (B ++ [ys ++ [d]]) e) :: r) := by
  have h1 : lastL (.lsts ((B ++ [ys]).map PV.lst)) = some ((), .lsts ((B ++ [ys]).map PV.lst)) := by
    rw [List.map_append, List.map_singleton]
    simp [lastL, hl]
  have h2 : lastA d (.lsts ((B ++ [ys]).map PV.lst)) = some (.non, .lsts ((B ++ [ys ++ [d]]).map PV.lst)) := by
    rw [List.map_append, List.map_singleton, List.map_append, List.map_singleton]
    simp [lastA, hl]
  have g1 : mFldG "TermReader" 0 "begun" lastL (some (rd T p (B ++ [ys]) e) :: r) = some (.ok (), some (rd T p (B ++ [ys]) e) :: r) := fldB h1
  have g2 : mFldG "TermReader" 0 "begun" (lastA d) (some (rd T p (B ++ [ys]) e) :: r) = some (.ok .non, some (rd T p (B ++ [ys ++ [d]]) e) :: r) := fldB h2
  unfold mAppLast
  simp [g1, h, g2]
theorem rd_push {ys : List D} {po : M PV} (hB : B.length ≤ 1000000) (h : po (none :: r) = some (.ok (.lst ys), none :: r)) : mAppN "TermReader" 0 "begun" po (some (rd T p B e) :: r) = some (.ok .non, some (rd T p (B ++ [ys]) e) :: r) := by
  have h1 : mAppN "TermReader" 0 "begun" po (some (rd T p B e) :: r) = if (B.map PV.lst).length ≤ 1000000 then match po (none :: r) with
      | some (.ok v, ε') => match ε'[0]? with
        | some none => some (.ok .non, ε'.set 0 (some (.obj "TermReader" rdN (rdP T p (.lsts (B.map PV.lst ++ [v])) e))))
        | _ => none
      | _ => none
      else none := rfl
  rw [h1, if_pos (by rwa [List.length_map]), h]
  simp [rd]
theorem close_ok {ys : List D} : m_p_TermReader_close [rd T p (B ++ [ys]) e] = some (.ok (.val .non), [rd T (p + 1) B (.tup ys)]) := by
  simp [m_p_TermReader_close, rd_pop]
theorem init_ok : m_p_TermReader___init__ [.obj "TermReader" [] [], .val (.str T)] = some (.ok (.val .non), [rd T 0 [] .non, .val (.str T)]) := rfl
end
end KX

namespace KX
open PySem PySem.Spec PyProof.Rows L2 DL FL NdefX LamX
def isL (c : Nat) : Bool := decide (97 ≤ c) && decide (c < 123)
def isF (c : Nat) : Bool := decide (48 ≤ c) && decide (c < 58)
def nO (R : List Nat) : Nat := R.count 40
def nC (R : List Nat) : Nat := R.count 41
def Mb (k : Nat) (R : List Nat) : Prop := ∀ P Q, R = P ++ Q → nO P ≤ nC P + k
theorem nO_app (a b : List Nat) : nO (a ++ b) = nO a + nO b := List.count_append ..
theorem nC_app (a b : List Nat) : nC (a ++ b) = nC a + nC b := List.count_append ..
theorem nO_cons (c : Nat) (a : List Nat) : nO (c :: a) = (if c = 40 then 1 else 0) + nO a := by
  unfold nO
  rw [List.count_cons]
  by_cases h : c = 40
  · simp [h]; omega
  · simp [h]
theorem nC_cons (c : Nat) (a : List Nat) : nC (c :: a) = (if c = 41 then 1 else 0) + nC a := by
  unfold nC
  rw [List.count_cons]
  by_cases h : c = 41
  · simp [h]; omega
  · simp [h]
theorem nO_nil : nO [] = 0 := rfl
theorem nC_nil : nC [] = 0 := rfl
theorem no_par {w : List Nat} (h : ∀ c ∈ w, c ≠ 40 ∧ c ≠ 41) : nO w = 0 ∧ nC w = 0 :=
  ⟨List.count_eq_zero.mpr fun m => (h 40 m).1 rfl, List.count_eq_zero.mpr fun m => (h 41 m).2 rfl⟩
theorem Mb.mono {k l : Nat} {R : List Nat} (h : Mb k R) (hl : k ≤ l) : Mb l R := fun P Q e => Nat.le_trans (h P Q e) (by omega)
theorem Mb.behind {k : Nat} {X R : List Nat} (h : Mb k (X ++ R)) (hX : nC X ≤ nO X) : Mb k R := fun P Q e => by
  have := h (X ++ P) Q (by rw [e, List.append_assoc])
  rw [nO_app, nC_app] at this
  omega
theorem Mb.opened {k : Nat} {w R : List Nat} (h : Mb (k + 1) (w ++ 40 :: R)) (hw : nC w ≤ nO w) : Mb k R := fun P Q e => by
  have := h (w ++ 40 :: P) Q (by rw [e]; simp)
  rw [nO_app, nC_app, nO_cons, nC_cons] at this
  simp at this
  omega
theorem Mb.opened_pos {k : Nat} {w R : List Nat} (h : Mb k (w ++ 40 :: R)) (hw : nC w ≤ nO w) : 1 ≤ k := by
  have := h (w ++ [40]) R (by simp)
  rw [nO_app, nC_app] at this
  simp [nO_cons, nC_cons, nO_nil, nC_nil] at this
  omega
theorem Mb.app {k : Nat} {A B : List Nat} (hA : Mb k A) (hb : nO A ≤ nC A) (hB : Mb k B) : Mb k (A ++ B) := fun P Q e => by
  rcases List.append_eq_append_iff.mp e with ⟨a, rfl, e2⟩ | ⟨a, e1, rfl⟩
  · have := hB a Q e2
    rw [nO_app, nC_app]
    omega
  · exact hA P a e1
theorem Mb.low {k : Nat} {R : List Nat} (h : nO R ≤ k) : Mb k R := fun P Q e => by
  have : nO P ≤ nO R := by rw [e, nO_app]; omega
  omega
theorem nC_le (X : List Nat) : nC X ≤ X.length := List.count_le_length
theorem Mb.edit {k : Nat} {A X C s : List Nat} (h : Mb k (A ++ (X ++ C))) : Mb (k + X.length + nO s) (A ++ (s ++ C)) := fun P Q e => by
  rcases List.append_eq_append_iff.mp e with ⟨a, rfl, e2⟩ | ⟨a, rfl, rfl⟩
  · rcases List.append_eq_append_iff.mp e2 with ⟨b, rfl, e3⟩ | ⟨b, rfl, rfl⟩
    · have h1 := h (A ++ (X ++ b)) Q (by rw [e3]; simp)
      simp only [nO_app, nC_app] at h1 ⊢
      have := nC_le X
      omega
    · have h1 := h A (X ++ C) rfl
      simp only [nO_app, nC_app] at h1 ⊢
      omega
  · have h1 := h P (a ++ (X ++ C)) (by simp)
    omega
theorem span_eq (p : Nat → Bool) (R : List Nat) : R.takeWhile p ++ R.dropWhile p = R := List.takeWhile_append_dropWhile
theorem tw_all (p : Nat → Bool) (R : List Nat) : ∀ c ∈ R.takeWhile p, p c = true := fun c h => by
  have := List.all_takeWhile (p := p) (l := R)
  exact List.all_eq_true.mp this c h
theorem dw_head (p : Nat → Bool) (R : List Nat) : ∀ c ∈ (R.dropWhile p).head?, p c = false := fun c h => by
  have := List.head?_dropWhile_not p R
  rw [Option.mem_def.mp h] at this
  simpa using this
def numB (F : List Nat) : Bool := decide (1 ≤ F.length) && decide (F.length ≤ 3) && (decide (F = [48]) || decide (F.head? ≠ some 48))
def wB (w : List Nat) : Bool := decide (1 ≤ w.length) && decide (w.length ≤ 8)
def valF (F : List Nat) : Nat := F.foldl (fun a c => 10 * a + (c - 48)) 0
inductive Bg where
  | leaf (d : D)
  | op (w : Str)
def bg (R : List Nat) : Option (Bg × List Nat) :=
  if R.head? = some 35 then
    if numB (R.tail.takeWhile isF) then some (.leaf (.int (valF (R.tail.takeWhile isF) : Nat)), R.tail.dropWhile isF) else none
  else if wB (R.takeWhile isL) then
    if (R.dropWhile isL).head? = some 40 then
      if (R.dropWhile isL).tail.head? = some 41 then some (.leaf (.tup [.str ⟨(R.takeWhile isL).toArray⟩]), (R.dropWhile isL).tail.tail)
      else some (.op ⟨(R.takeWhile isL).toArray⟩, (R.dropWhile isL).tail)
    else some (.leaf (.str ⟨(R.takeWhile isL).toArray⟩), R.dropWhile isL)
  else none
theorem head_tail {R : List Nat} {c : Nat} (h : R.head? = some c) : R = c :: R.tail := by
  cases R with
  | nil => cases h
  | cons a R => cases h; rfl
inductive BgS : List Nat → Option (Bg × List Nat) → Prop
  | num {F R : List Nat} (hF : ∀ c ∈ F, isF c = true) (hR : ∀ c ∈ R.head?, isF c = false) (h : numB F = true) : BgS (35 :: (F ++ R)) (some (.leaf (.int (valF F : Nat)), R))
  | nonum {F R : List Nat} (hF : ∀ c ∈ F, isF c = true) (hR : ∀ c ∈ R.head?, isF c = false) (h : numB F = false) : BgS (35 :: (F ++ R)) none
  | bare {w R : List Nat} (hw : ∀ c ∈ w, isL c = true) (h : wB w = true) : BgS (w ++ 40 :: 41 :: R) (some (.leaf (.tup [.str ⟨w.toArray⟩]), R))
  | op {w R : List Nat} (hw : ∀ c ∈ w, isL c = true) (h : wB w = true) (hR : R.head? ≠ some 41) : BgS (w ++ 40 :: R) (some (.op ⟨w.toArray⟩, R))
  | word {w R : List Nat} (hw : ∀ c ∈ w, isL c = true) (h : wB w = true) (hR : ∀ c ∈ R.head?, isL c = false) (h4 : R.head? ≠ some 40) : BgS (w ++ R) (some (.leaf (.str ⟨w.toArray⟩), R))
  | noword {w R : List Nat} (hw : ∀ c ∈ w, isL c = true) (h : wB w = false) (hR : ∀ c ∈ R.head?, isL c = false) (h35 : (w ++ R).head? ≠ some 35) : BgS (w ++ R) none
theorem bg_s (R : List Nat) : BgS R (bg R) := by
  unfold bg
  by_cases h : R.head? = some 35
  · rw [if_pos h]
    have e := head_tail h
    have e2 : R = 35 :: (R.tail.takeWhile isF ++ R.tail.dropWhile isF) := by rw [span_eq]; exact e
    by_cases hn : numB (R.tail.takeWhile isF) = true
    · rw [if_pos hn]
      conv => lhs; rw [e2]
      exact .num (tw_all _ _) (dw_head _ _) hn
    · rw [if_neg hn]
      conv => lhs; rw [e2]
      exact .nonum (tw_all _ _) (dw_head _ _) (by simpa using hn)
  · rw [if_neg h]
    have e2 := (span_eq isL R).symm
    by_cases hw : wB (R.takeWhile isL) = true
    · rw [if_pos hw]
      by_cases h4 : (R.dropWhile isL).head? = some 40
      · rw [if_pos h4]
        have e3 := head_tail h4
        by_cases h5 : (R.dropWhile isL).tail.head? = some 41
        · rw [if_pos h5]
          have e4 := head_tail h5
          have e5 : R = R.takeWhile isL ++ 40 :: 41 :: (R.dropWhile isL).tail.tail := by
            rw [← e4, ← e3]
            exact e2
          conv => lhs; rw [e5]
          exact .bare (tw_all _ _) hw
        · rw [if_neg h5]
          have e5 : R = R.takeWhile isL ++ 40 :: (R.dropWhile isL).tail := by
            rw [← e3]
            exact e2
          conv => lhs; rw [e5]
          exact .op (tw_all _ _) hw h5
      · rw [if_neg h4]
        conv => lhs; rw [e2]
        exact .word (tw_all _ _) hw (dw_head _ _) h4
    · rw [if_neg hw]
      conv => lhs; rw [e2]
      exact .noword (tw_all _ _) (by simpa using hw) (dw_head _ _) (by rw [← e2]; exact h)
def pL (f : List Nat → Option (D × List Nat)) : Nat → List Nat → List D → Option (D × List Nat)
  | 0, _, _ => none
  | m + 1, R, acc => match f R with
    | none => none
    | some (t, R1) => if R1.head? = some 41 then some (.tup (acc ++ [t]), R1.tail) else if R1.take 2 = [44, 32] then pL f m (R1.drop 2) (acc ++ [t]) else none
def pT : Nat → List Nat → Option (D × List Nat)
  | 0, _ => none
  | n + 1, R => match bg R with
    | none => none
    | some (.leaf t, R') => some (t, R')
    | some (.op w, R') => pL (pT n) R'.length R' [.str w]
theorem take2 {R : List Nat} (h : R.take 2 = [44, 32]) : R = 44 :: 32 :: R.drop 2 := by
  conv => lhs; rw [← List.take_append_drop 2 R, h]
  rfl
theorem lets_np {w : List Nat} (hw : ∀ c ∈ w, isL c = true) : nO w = 0 ∧ nC w = 0 := no_par fun c h => by
  have := hw c h
  simp only [isL, Bool.and_eq_true, decide_eq_true_eq] at this
  omega
theorem figs_np {w : List Nat} (hw : ∀ c ∈ w, isF c = true) : nO w = 0 ∧ nC w = 0 := no_par fun c h => by
  have := hw c h
  simp only [isF, Bool.and_eq_true, decide_eq_true_eq] at this
  omega
structure Rdd (R : List Nat) (t : D) (R' X : List Nat) : Prop where
  eq : R = X ++ R'
  pos : 1 ≤ X.length
  bal : nO X = nC X
theorem bg_leaf {R R' : List Nat} {t : D} (h : bg R = some (.leaf t, R')) : ∃ X, Rdd R t R' X := by
  have s := bg_s R
  rw [h] at s
  cases s with
  | num hF hR hk =>
    rename_i F
    obtain ⟨a, b⟩ := figs_np hF
    exact ⟨35 :: _, rfl, by simp, by rw [nO_cons, nC_cons, a, b]; rfl⟩
  | bare hw hk =>
    rename_i w
    obtain ⟨a, b⟩ := lets_np hw
    exact ⟨_ ++ [40, 41], (by simp; rfl), by simp, by simp [nO_app, nC_app, nO_cons, nC_cons, nO_nil, nC_nil, a, b]⟩
  | word hw hk hR h4 =>
    rename_i w
    obtain ⟨a, b⟩ := lets_np hw
    simp only [wB, Bool.and_eq_true, decide_eq_true_eq] at hk
    exact ⟨_, rfl, hk.1, by rw [a, b]⟩
theorem bg_op {R R' : List Nat} {w : Str} (h : bg R = some (.op w, R')) : ∃ v : List Nat, w = ⟨v.toArray⟩ ∧ R = v ++ 40 :: R' ∧ (∀ c ∈ v, isL c = true) ∧ wB v = true ∧ R'.head? ≠ some 41 := by
  have s := bg_s R
  rw [h] at s
  cases s with
  | op hw hk hR => exact ⟨_, rfl, rfl, hw, hk, hR⟩
theorem pL_some {f : List Nat → Option (D × List Nat)} (hf : ∀ R t R', f R = some (t, R') → ∃ X, Rdd R t R' X) : ∀ (m : Nat) (R : List Nat) (acc : List D) (t : D) (R' : List Nat), pL f m R acc = some (t, R') → ∃ X, R = X ++ 41 :: R' ∧ 1 ≤ X.length ∧ nO X = nC X
  | 0, R, acc, t, R', h => by cases h
  | m + 1, R, acc, t, R', h => by
    rw [pL] at h
    split at h
    · cases h
    · rename_i t1 R1 e
      obtain ⟨X, e1, p1, b1⟩ := hf R t1 R1 e
      split at h
      · rename_i h1
        cases h
        exact ⟨X, by rw [e1]; congr 1; exact head_tail h1, p1, b1⟩
      · split at h
        · rename_i h1 h2
          obtain ⟨Y, e2, p2, b2⟩ := pL_some hf m _ _ t R' h
          refine ⟨X ++ 44 :: 32 :: Y, ?_, by simp; omega, ?_⟩
          · rw [e1, take2 h2, e2]
            simp
          · simp only [nO_app, nC_app, nO_cons, nC_cons]
            simp
            omega
        · cases h
theorem pT_some : ∀ (n : Nat) (R : List Nat) (t : D) (R' : List Nat), pT n R = some (t, R') → ∃ X, Rdd R t R' X
  | 0, R, t, R', h => by cases h
  | n + 1, R, t, R', h => by
    rw [pT] at h
    split at h
    · cases h
    · rename_i t1 R1 e
      cases h
      exact bg_leaf e
    · rename_i w R1 e
      obtain ⟨v, _, e2, hv, hw, _⟩ := bg_op e
      obtain ⟨a, b⟩ := lets_np hv
      obtain ⟨X, e3, p3, b3⟩ := pL_some (fun R t R' => pT_some n R t R') _ _ _ _ _ h
      refine ⟨v ++ 40 :: (X ++ [41]), by rw [e2, e3]; simp, by simp; omega, ?_⟩
      simp only [nO_app, nC_app, nO_cons, nC_cons, nO_nil, nC_nil, a, b]
      simp
      omega
inductive PTm : D → Prop
  | word {w : List Nat} (hw : ∀ c ∈ w, isL c = true) (h : wB w = true) : PTm (.str ⟨w.toArray⟩)
  | num {i : Nat} (h : i < 1000) : PTm (.int i)
  | call {w : List Nat} {ds : List D} (hw : ∀ c ∈ w, isL c = true) (h : wB w = true) (hd : ∀ d ∈ ds, PTm d) : PTm (.tup (.str ⟨w.toArray⟩ :: ds))
theorem valF_lt {F : List Nat} (hF : ∀ c ∈ F, isF c = true) (h : numB F = true) : valF F < 1000 := by
  simp only [numB, Bool.and_eq_true, decide_eq_true_eq] at h
  have hd : ∀ c ∈ F, 48 ≤ c ∧ c < 58 := fun c hc => by
    have := hF c hc
    simp only [isF, Bool.and_eq_true, decide_eq_true_eq] at this
    exact this
  obtain ⟨⟨h1, h3⟩, _⟩ := h
  match F, h1, h3, hd with
  | [a], _, _, hd =>
    have ha := hd a (by simp)
    simp [valF]
    omega
  | [a, b], _, _, hd =>
    have ha := hd a (by simp)
    have hb := hd b (by simp)
    simp [valF]
    omega
  | [a, b, c], _, _, hd =>
    have ha := hd a (by simp)
    have hb := hd b (by simp)
    have hc := hd c (by simp)
    simp [valF]
    omega
  | _ :: _ :: _ :: _ :: _, _, h3, _ => simp at h3
theorem bg_leaf_t {R R' : List Nat} {t : D} (h : bg R = some (.leaf t, R')) : PTm t := by
  have s := bg_s R
  rw [h] at s
  cases s with
  | num hF hR hk => exact .num (valF_lt hF hk)
  | bare hw hk => exact .call hw hk (fun _ h => nomatch h)
  | word hw hk hR h4 => exact .word hw hk
theorem pL_t {f : List Nat → Option (D × List Nat)} (hf : ∀ R t R', f R = some (t, R') → PTm t) {w : List Nat} (hw : ∀ c ∈ w, isL c = true) (h8 : wB w = true) : ∀ (m : Nat) (R : List Nat) (acc : List D) (t : D) (R' : List Nat), (∀ d ∈ acc, PTm d) → pL f m R (.str ⟨w.toArray⟩ :: acc) = some (t, R') → PTm t
  | 0, R, acc, t, R', _, h => by cases h
  | m + 1, R, acc, t, R', ha, h => by
    rw [pL] at h
    split at h
    · cases h
    · rename_i t1 R1 e
      have h1 := hf R t1 R1 e
      have h2 : ∀ d ∈ acc ++ [t1], PTm d := fun d hd => by
        rcases List.mem_append.mp hd with hd | hd
        · exact ha d hd
        · rw [List.mem_singleton.mp hd]; exact h1
      split at h
      · cases h
        exact .call hw h8 h2
      · split at h
        · exact pL_t hf hw h8 m _ (acc ++ [t1]) t R' h2 h
        · cases h
theorem pT_t : ∀ (n : Nat) (R : List Nat) (t : D) (R' : List Nat), pT n R = some (t, R') → PTm t
  | 0, R, t, R', h => by cases h
  | n + 1, R, t, R', h => by
    rw [pT] at h
    split at h
    · cases h
    · rename_i t1 R1 e
      cases h
      exact bg_leaf_t e
    · rename_i w R1 e
      obtain ⟨v, rfl, _, hv, hw, _⟩ := bg_op e
      exact pL_t (fun R t R' => pT_t n R t R') hv hw _ _ [] t R' (fun _ h => nomatch h) h
end KX

namespace KX
open PySem PySem.Spec PyProof.Rows L2 DL FL NdefX LamX
section
variable {T : Str} {p : Int} {B : List (List D)} {e : D} {A R w F : List Nat}
theorem sg35 : (⟨#[35]⟩ : Str) = "#" := by decide +kernel
theorem sg40 : (⟨#[40]⟩ : Str) = "(" := by decide +kernel
theorem sg41 : (⟨#[41]⟩ : Str) = ")" := by decide +kernel
theorem sg48 : (⟨#[48]⟩ : Str) = "0" := by decide +kernel
theorem sgcs : (⟨#[44, 32]⟩ : Str) = ", " := by decide +kernel
theorem sg0 : (⟨#[]⟩ : Str) = "" := by decide +kernel
theorem st_inj {a b : List Nat} : (⟨a.toArray⟩ : Str) = ⟨b.toArray⟩ ↔ a = b := by
  constructor
  · intro q
    have : (⟨a.toArray⟩ : Str).cps.toList = (⟨b.toArray⟩ : Str).cps.toList := by rw [q]
    simpa using this
  · intro q
    rw [q]
theorem st_l (a : List Nat) : (⟨a.toArray⟩ : Str).cps.toList = a := by simp
theorem st_len (a : List Nat) : (⟨a.toArray⟩ : Str).length = a.length := by rw [len_l, st_l]
theorem back (w : Str) : (⟨w.cps.toList.toArray⟩ : Str) = w := rfl
theorem sg_ne {a b : Nat} {s : Str} (hs : (⟨#[a]⟩ : Str) = s) (h : b ≠ a) : ¬ (⟨#[b]⟩ : Str) = s := fun q => by
  rw [← hs] at q
  have : (⟨#[b]⟩ : Str).cps.toList = (⟨#[a]⟩ : Str).cps.toList := by rw [q]
  simp at this
  exact h this
theorem figs_in {c : Nat} : c ∈ ("0123456789" : Str).cps.toList ↔ isF c = true := by
  have e : ("0123456789" : Str).cps.toList = (List.range 10).map (48 + ·) := by decide +kernel
  rw [e, List.mem_map]
  simp only [isF, Bool.and_eq_true, decide_eq_true_eq]
  constructor
  · rintro ⟨a, h, rfl⟩
    have := List.mem_range.mp h
    omega
  · intro h
    exact ⟨c - 48, List.mem_range.mpr (by omega), by omega⟩
theorem lets_in {c : Nat} : c ∈ ("abcdefghijklmnopqrstuvwxyz" : Str).cps.toList ↔ isL c = true := by
  have e : ("abcdefghijklmnopqrstuvwxyz" : Str).cps.toList = (List.range 26).map (97 + ·) := by decide +kernel
  rw [e, List.mem_map]
  simp only [isL, Bool.and_eq_true, decide_eq_true_eq]
  constructor
  · rintro ⟨a, h, rfl⟩
    have := List.mem_range.mp h
    omega
  · intro h
    exact ⟨c - 97, List.mem_range.mpr (by omega), by omega⟩
theorem is_word_yes (hw : ∀ c ∈ w, isL c = true) (h : wB w = true) : m_p_is_word [.str ⟨w.toArray⟩] = some (.bl true) := by
  simp only [wB, Bool.and_eq_true, decide_eq_true_eq] at h
  obtain ⟨z, hz0⟩ : ∃ z : Str, z = ⟨w.toArray⟩ := ⟨_, rfl⟩
  have hzl : z.cps.toList = w := by rw [hz0]
  have hlen : z.length = w.length := by rw [len_l, hzl]
  rw [← hz0]
  have hz : z.length ≤ 1000000 := by omega
  have ec := comp_look (toD := fun c => D.str ⟨#[c]⟩) (c := cYes (signsD z)) (g := gN 1) (tt := mPure true) (te := e_p_is_word_1) (vs := [1]) (ε := [some (.val (.str z)), none]) (fun _ => true) (fun _ => .bl true) rfl z.cps.toList fun c hc => by
    have h4 : c ∈ ("abcdefghijklmnopqrstuvwxyz" : Str).cps.toList := lets_in.mpr (hw c (by rw [← hzl]; exact hc))
    simp [e_p_is_word_1, h4]
  rw [List.filter_eq_self.mpr fun _ _ => rfl] at ec
  have ec' : mLcL (cYes (signsD z)) (gN 1) (mPure true) e_p_is_word_1 [1] (signsD z) [] [some (.val (.str z)), none] = _ := ec
  have hl : (signsD z).length ≤ 1000000 := by
    show (z.cps.toList.map _).length ≤ _
    rw [List.length_map, Array.length_toList]
    exact hz
  have eb := bools_fnX (fun _ => true) z.cps.toList
  have h2' : (z.length : Int) ≤ 8 := by omega
  have h1' : (1 : Int) ≤ z.length := by omega
  have hall : (z.cps.toList.map fun _ => true).all id = true := by simp
  obtain ⟨xs, hxs⟩ : ∃ xs, xs = z.cps.toList := ⟨_, rfl⟩
  rw [← hxs] at ec' eb hall
  simp [m_p_is_word, fIsi, tyP, subTy, hz, h1', h2', hl, ec', eb, hall]
theorem is_word_no (h : wB w = false) (hl : w.length ≤ 1000000) : m_p_is_word [.str ⟨w.toArray⟩] = some (.bl false) := by
  obtain ⟨z, hz0⟩ : ∃ z : Str, z = ⟨w.toArray⟩ := ⟨_, rfl⟩
  have hlen : z.length = w.length := by rw [hz0, st_len]
  rw [← hz0]
  have hz : z.length ≤ 1000000 := by omega
  by_cases h1 : 1 ≤ w.length
  · have h2 : ¬ w.length ≤ 8 := fun h2 => by simp [wB, h1, h2] at h
    have h1' : (1 : Int) ≤ z.length := by omega
    have h2' : ¬ (z.length : Int) ≤ 8 := by omega
    simp [m_p_is_word, fIsi, tyP, subTy, hz, h1', h2']
  · have h1' : ¬ (1 : Int) ≤ z.length := by omega
    simp [m_p_is_word, fIsi, tyP, subTy, hz, h1']
theorem figs_1 : ∀ a : Fin 10, (figs a.val).cps.toList = [48 + a.val] := by decide +kernel
theorem figs_2 : ∀ a b : Fin 10, a.val ≠ 0 → (figs (10 * a.val + b.val)).cps.toList = [48 + a.val, 48 + b.val] := by decide +kernel
theorem figs_3 : ∀ a b c : Fin 10, a.val ≠ 0 → (figs (10 * (10 * a.val + b.val) + c.val)).cps.toList = [48 + a.val, 48 + b.val, 48 + c.val] := by decide +kernel
theorem figs_val (hF : ∀ c ∈ F, isF c = true) (h : numB F = true) : (figs (valF F)).cps.toList = F := by
  simp only [numB, Bool.and_eq_true, Bool.or_eq_true, decide_eq_true_eq] at h
  have hd : ∀ c ∈ F, ∃ a : Fin 10, c = 48 + a.val := fun c hc => by
    have := hF c hc
    simp only [isF, Bool.and_eq_true, decide_eq_true_eq] at this
    exact ⟨⟨c - 48, by omega⟩, by simp; omega⟩
  obtain ⟨⟨h1, h3⟩, h0⟩ := h
  match F, h1, h3, hd, h0 with
  | [a], _, _, hd, _ =>
    obtain ⟨x, rfl⟩ := hd a (by simp)
    have e : valF [48 + x.val] = x.val := by simp [valF]
    rw [e]
    exact figs_1 x
  | [a, b], _, _, hd, h0 =>
    obtain ⟨x, rfl⟩ := hd a (by simp)
    obtain ⟨y, rfl⟩ := hd b (by simp)
    have e : valF [48 + x.val, 48 + y.val] = 10 * x.val + y.val := by simp [valF]
    rw [e]
    exact figs_2 x y fun q => by simp [q] at h0
  | [a, b, c], _, _, hd, h0 =>
    obtain ⟨x, rfl⟩ := hd a (by simp)
    obtain ⟨y, rfl⟩ := hd b (by simp)
    obtain ⟨z, rfl⟩ := hd c (by simp)
    have e : valF [48 + x.val, 48 + y.val, 48 + z.val] = 10 * (10 * x.val + y.val) + z.val := by simp [valF]
    rw [e]
    exact figs_3 x y z fun q => by simp [q] at h0
  | _ :: _ :: _ :: _ :: _, _, h3, _, _ => simp at h3
theorem figs_st (hF : ∀ c ∈ F, isF c = true) (h : numB F = true) : (⟨F.toArray⟩ : Str) = figs (valF F) := by
  have := figs_val hF h
  rw [← back (figs (valF F)), this]
theorem is_number_no (h : numB F = false) (hl : F.length ≤ 1000000) : m_p_is_number [.str ⟨F.toArray⟩] = some (.bl false) := by
  obtain ⟨z, hz0⟩ : ∃ z : Str, z = ⟨F.toArray⟩ := ⟨_, rfl⟩
  have hlen : z.length = F.length := by rw [hz0, st_len]
  have hzl : z.cps.toList = F := by rw [hz0]
  have hz : z.length ≤ 1000000 := by omega
  rw [← hz0]
  by_cases h1 : 1 ≤ F.length
  · by_cases h2 : F.length ≤ 3
    · have h3 : F ≠ [48] ∧ F.head? = some 48 := by
        simp only [numB, h1, h2, decide_true, Bool.true_and, Bool.or_eq_false_iff, decide_eq_false_iff_not, Decidable.not_not] at h
        exact h
      have h1' : (1 : Int) ≤ z.length := by omega
      have h2' : (z.length : Int) ≤ 3 := by omega
      have hne : ¬ z = "0" := fun q => h3.1 (by
        rw [← hzl, q, ← sg48])
      have ha : atI z.cps.toList 0 = some 48 := by
        rw [hzl, head_tail h3.2]
        exact atI_get (by decide) rfl
      simp [m_p_is_number, truD, hz, h1', h2', hne, ha, sg48]
    · have h1' : (1 : Int) ≤ z.length := by omega
      have h2' : ¬ (z.length : Int) ≤ 3 := by omega
      simp [m_p_is_number, hz, h1', h2']
  · have h1' : ¬ (1 : Int) ≤ z.length := by omega
    simp [m_p_is_number, hz, h1']
theorem cut_take {k : Nat} (h : T.cps.toList = A ++ R) (hp : p = A.length) : cutS T (some p) (some (p + (k : Int))) = ⟨(R.take k).toArray⟩ := by
  have hl : T.length = A.length + R.length := by rw [len_l, h]; simp
  have e : p + (k : Int) = ((A.length + k : Nat) : Int) := by omega
  unfold cutS
  rw [e, hp, HT.sIx_nat, HT.sIx_nat, h, hl]
  congr 2
  rw [show min A.length (A.length + R.length) = A.length from by omega, List.drop_left]
  by_cases hk : k ≤ R.length
  · rw [show min (A.length + k) (A.length + R.length) - A.length = k from by omega]
  · rw [show min (A.length + k) (A.length + R.length) - A.length = R.length from by omega, List.take_of_length_le (by omega), List.take_of_length_le (by omega)]
theorem cut_one {s : Str} {a : Nat} (hs : (⟨#[a]⟩ : Str) = s) (h : T.cps.toList = A ++ R) (hp : p = A.length) : (cutS T (some p) (some (p + 1)) = s) = (R.head? = some a) := by
  have := cut_take (k := 1) h hp
  rw [show ((1 : Nat) : Int) = 1 from rfl] at this
  rw [this, ← hs]
  refine propext ?_
  show (⟨(R.take 1).toArray⟩ : Str) = ⟨[a].toArray⟩ ↔ _
  rw [st_inj]
  cases R with
  | nil => simp
  | cons c R => simp
theorem begin_num {i : Nat} (hi : i < 1000) (h : T.cps.toList = A ++ 35 :: ((figs i).cps.toList ++ R)) (hR : ∀ c ∈ R.head?, isF c = false) (hT : T.length ≤ 40000) (hp : p = A.length) :
    m_p_TermReader_begin [rd T p B .non] = some (.ok (.val (.bl true)), [rd T (p + (1 + (figs i).length)) B (.int i)]) := by
  obtain ⟨h1, h2, h3, _, h5⟩ := small_ok hi
  have h4 := is_number_okX hi
  have hT' : T.length ≤ 1000000 := by omega
  have e1 : atI T.cps.toList p = some 35 := by
    rw [h]
    exact at_ hp
  have h2' : T.cps.toList = (A ++ [35]) ++ ((figs i).cps.toList ++ R) := by rw [h]; simp
  have e2 := stretch_okX (z := "0123456789") hT' h2' (fun c hc => figs_in.mpr (by simp only [isF, Bool.and_eq_true, decide_eq_true_eq]; exact h3 c hc)) (fun c hc q => absurd (figs_in.mp q) (by rw [hR c hc]; decide)) (by omega) (p := p + 1) (by rw [hp]; simp)
  rw [back] at e2
  have hl : (figs i).length ≤ 640 := by rw [len_l]; omega
  have hl2 : (figs i).length ≤ 1000000 := by omega
  simp [m_p_TermReader_begin, hT', e1, sg35, e2, h4, h5, hl, hl2]
theorem begin_nonum (hF : ∀ c ∈ F, isF c = true) (hn : numB F = false) (h : T.cps.toList = A ++ 35 :: (F ++ R)) (hR : ∀ c ∈ R.head?, isF c = false) (hT : T.length ≤ 40000) (hp : p = A.length) :
    m_p_TermReader_begin [rd T p B .non] = some (.ok (.val (.bl false)), [rd T p B .non]) := by
  have hT' : T.length ≤ 1000000 := by omega
  have hfl : F.length ≤ 40000 := by
    have : T.length = A.length + (F.length + R.length + 1) := by rw [len_l, h]; simp
    omega
  have h4 := is_number_no hn (by omega)
  have e1 : atI T.cps.toList p = some 35 := by
    rw [h]
    exact at_ hp
  have h2' : T.cps.toList = (A ++ [35]) ++ (F ++ R) := by rw [h]; simp
  have e2 := stretch_okX (z := "0123456789") hT' h2' (fun c hc => figs_in.mpr (hF c hc)) (fun c hc q => absurd (figs_in.mp q) (by rw [hR c hc]; decide)) (by omega) (p := p + 1) (by rw [hp]; simp)
  simp [m_p_TermReader_begin, hT', e1, sg35, e2, h4]
theorem word_stretch (hw : ∀ c ∈ w, isL c = true) (h : T.cps.toList = A ++ (w ++ R)) (hR : ∀ c ∈ R.head?, isL c = false) (hne : ∃ c ∈ (w ++ R).head?, c ≠ 35) (hT : T.length ≤ 40000) (hp : p = A.length) :
    m_p_stretch_of [.str T, .int p, .str "abcdefghijklmnopqrstuvwxyz"] = some (.str ⟨w.toArray⟩) ∧ (∃ c, atI T.cps.toList p = some c ∧ ¬ (⟨#[c]⟩ : Str) = "#") ∧ w.length ≤ 1000000 := by
  have hl : T.length = A.length + (w.length + R.length) := by rw [len_l, h]; simp
  have e2 := stretch_okX (z := "abcdefghijklmnopqrstuvwxyz") (show T.length ≤ 1000000 by omega) h (fun c hc => lets_in.mpr (hw c hc)) (fun c hc q => absurd (lets_in.mp q) (by rw [hR c hc]; decide)) (by omega) hp
  obtain ⟨c, hc, hc2⟩ := hne
  refine ⟨e2, ⟨c, ?_, sg_ne sg35 hc2⟩, by omega⟩
  have := head_tail (Option.mem_def.mp hc)
  rw [h, this]
  exact at_ hp
theorem lets_head (hw : ∀ c ∈ w, isL c = true) (h : wB w = true) : ∃ c ∈ (w ++ R).head?, c ≠ 35 := by
  simp only [wB, Bool.and_eq_true, decide_eq_true_eq] at h
  cases w with
  | nil => simp at h
  | cons c w =>
    have := hw c (by simp)
    simp only [isL, Bool.and_eq_true, decide_eq_true_eq] at this
    exact ⟨c, rfl, by omega⟩
theorem begin_word (hw : ∀ c ∈ w, isL c = true) (hb : wB w = true) (h : T.cps.toList = A ++ (w ++ R)) (hR : ∀ c ∈ R.head?, isL c = false) (h4 : R.head? ≠ some 40) (hT : T.length ≤ 40000) (hp : p = A.length) :
    m_p_TermReader_begin [rd T p B .non] = some (.ok (.val (.bl true)), [rd T (p + w.length) B (.str ⟨w.toArray⟩)]) := by
  have hT' : T.length ≤ 1000000 := by omega
  obtain ⟨e2, ⟨c, e1, hne⟩, hl⟩ := word_stretch hw h hR (lets_head hw hb) hT hp
  have hw2 := is_word_yes hw hb
  have h' : T.cps.toList = (A ++ w) ++ R := by rw [h]; simp
  have e3 : ¬ cutS T (some (p + w.length)) (some (p + w.length + 1)) = "(" := by
    rw [cut_one sg40 h' (by rw [hp]; simp)]
    exact h4
  have hl2 : (⟨w.toArray⟩ : Str).length = w.length := st_len w
  obtain ⟨z, hz⟩ : ∃ z : Str, z = ⟨w.toArray⟩ := ⟨_, rfl⟩
  rw [← hz] at e2 hw2 hl2 ⊢
  simp [m_p_TermReader_begin, hT', e1, hne, e2, hw2, hl, hl2, e3]
theorem begin_noword (hw : ∀ c ∈ w, isL c = true) (hb : wB w = false) (h : T.cps.toList = A ++ (w ++ R)) (hR : ∀ c ∈ R.head?, isL c = false) (hne : ∃ c ∈ (w ++ R).head?, c ≠ 35) (hT : T.length ≤ 40000) (hp : p = A.length) :
    m_p_TermReader_begin [rd T p B .non] = some (.ok (.val (.bl false)), [rd T p B .non]) := by
  have hT' : T.length ≤ 1000000 := by omega
  obtain ⟨e2, ⟨c, e1, hne⟩, hl⟩ := word_stretch hw h hR hne hT hp
  have hw2 := is_word_no hb hl
  obtain ⟨z, hz⟩ : ∃ z : Str, z = ⟨w.toArray⟩ := ⟨_, rfl⟩
  rw [← hz] at e2 hw2
  simp [m_p_TermReader_begin, hT', e1, hne, e2, hw2]
theorem np_L {R : List Nat} : ∀ c ∈ (40 :: R).head?, isL c = false := fun c hc => by
  cases hc
  rfl
theorem begin_op (hw : ∀ c ∈ w, isL c = true) (hb : wB w = true) (h : T.cps.toList = A ++ (w ++ 40 :: R)) (hR : R.head? ≠ some 41) (hT : T.length ≤ 40000) (hB : B.length ≤ 1000000) (hp : p = A.length) :
    m_p_TermReader_begin [rd T p B .non] = some (.ok (.val (.bl true)), [rd T (p + w.length + 1) (B ++ [[.str ⟨w.toArray⟩]]) .non]) := by
  have hT' : T.length ≤ 1000000 := by omega
  obtain ⟨e2, ⟨c, e1, hne⟩, hl⟩ := word_stretch hw h np_L (lets_head hw hb) hT hp
  have hw2 := is_word_yes hw hb
  have h' : T.cps.toList = (A ++ w) ++ 40 :: R := by rw [h]; simp
  have e3 : cutS T (some (p + w.length)) (some (p + w.length + 1)) = "(" := by
    rw [cut_one sg40 h' (by rw [hp]; simp)]
    rfl
  have h2' : T.cps.toList = (A ++ w ++ [40]) ++ R := by rw [h]; simp
  have e4 : ¬ cutS T (some (p + w.length + 1)) (some (p + w.length + 1 + 1)) = ")" := by
    rw [cut_one sg41 h2' (by rw [hp]; simp; omega)]
    exact hR
  have hl2 : (⟨w.toArray⟩ : Str).length = w.length := st_len w
  obtain ⟨z, hz⟩ : ∃ z : Str, z = ⟨w.toArray⟩ := ⟨_, rfl⟩
  rw [← hz] at e2 hw2 hl2 ⊢
  have e5 : mAppN "TermReader" 0 "begun" (mMap .lst (mLst (mCons (mVar 2) mNil))) [some (rd T (p + w.length) B .non), none, some (.val (.str z))] = _ := rd_push (ys := [.str z]) hB (by simp)
  simp [m_p_TermReader_begin, hT', e1, hne, e2, hw2, hl, hl2, e3, e4, e5]
theorem begin_bare (hw : ∀ c ∈ w, isL c = true) (hb : wB w = true) (h : T.cps.toList = A ++ (w ++ 40 :: 41 :: R)) (hT : T.length ≤ 40000) (hB : B.length ≤ 1000000) (hp : p = A.length) :
    m_p_TermReader_begin [rd T p B .non] = some (.ok (.val (.bl true)), [rd T (p + w.length + 1 + 1) B (.tup [.str ⟨w.toArray⟩])]) := by
  have hT' : T.length ≤ 1000000 := by omega
  obtain ⟨e2, ⟨c, e1, hne⟩, hl⟩ := word_stretch hw h np_L (lets_head hw hb) hT hp
  have hw2 := is_word_yes hw hb
  have h' : T.cps.toList = (A ++ w) ++ 40 :: 41 :: R := by rw [h]; simp
  have e3 : cutS T (some (p + w.length)) (some (p + w.length + 1)) = "(" := by
    rw [cut_one sg40 h' (by rw [hp]; simp)]
    rfl
  have h2' : T.cps.toList = (A ++ w ++ [40]) ++ 41 :: R := by rw [h]; simp
  have e4 : cutS T (some (p + w.length + 1)) (some (p + w.length + 1 + 1)) = ")" := by
    rw [cut_one sg41 h2' (by rw [hp]; simp; omega)]
    rfl
  have hl2 : (⟨w.toArray⟩ : Str).length = w.length := st_len w
  obtain ⟨z, hz⟩ : ∃ z : Str, z = ⟨w.toArray⟩ := ⟨_, rfl⟩
  rw [← hz] at e2 hw2 hl2 ⊢
  have e5 : mAppN "TermReader" 0 "begun" (mMap .lst (mLst (mCons (mVar 2) mNil))) [some (rd T (p + w.length) B .non), none, some (.val (.str z))] = _ := rd_push (ys := [.str z]) hB (by simp)
  have e6 : mV (mMeth "TermReader" 0 "close" m_p_TermReader_close (mPure [])) [some (rd T (p + w.length + 1) (B ++ [[.str z]]) .non), none, some (.val (.str z))] = _ := rd_meth (by decide +kernel) close_ok
  simp [m_p_TermReader_begin, hT', e1, hne, e2, hw2, hl, hl2, e3, e4, e5, e6, -mV_run]
theorem go_none {c : Nat} (h : T.cps.toList = A ++ c :: R) : m_p_TermReader_go_on [rd T p [] e] = some (.ok (.val (.bl false)), [rd T p [] e]) := by
  simp [m_p_TermReader_go_on]
theorem go_end {ys : List D} (h : T.cps.toList = A ++ 41 :: R) (hT : T.length ≤ 1000000) (hy : ys.length ≤ 1000000) (hp : p = A.length) :
    m_p_TermReader_go_on [rd T p (B ++ [ys]) e] = some (.ok (.val (.bl true)), [rd T (p + 1) B (.tup (ys ++ [e]))]) := by
  have e1 : atI T.cps.toList p = some 41 := by
    rw [h]
    exact at_ hp
  have e2 : mAppLast "TermReader" 0 "begun" (mFld "TermReader" 0 "ended") [some (rd T p (B ++ [ys]) e)] = _ := rd_last hy rd_ended
  have e6 : mV (mMeth "TermReader" 0 "close" m_p_TermReader_close (mPure [])) [some (rd T p (B ++ [ys ++ [e]]) e)] = _ := rd_meth (by decide +kernel) close_ok
  have hn : ¬ ((B.length : Int) + 1 = 0) := by omega
  simp [m_p_TermReader_go_on, hT, e1, e2, e6, sg41, hn, -mV_run]
theorem go_more {ys : List D} {c : Nat} (h : T.cps.toList = A ++ c :: R) (hc : c ≠ 41) (hT : T.length ≤ 1000000) (hy : ys.length ≤ 1000000) (hp : p = A.length) :
    m_p_TermReader_go_on [rd T p (B ++ [ys]) e] = some (.ok (.val (.bl (decide ((c :: R).take 2 = [44, 32])))), [rd T (p + 2) (B ++ [ys ++ [e]]) .non]) := by
  have e1 : atI T.cps.toList p = some c := by
    rw [h]
    exact at_ hp
  have e2 : mAppLast "TermReader" 0 "begun" (mFld "TermReader" 0 "ended") [some (rd T p (B ++ [ys]) e)] = _ := rd_last hy rd_ended
  have hne := sg_ne (b := c) sg41 hc
  have e3 : cutS T (some p) (some (p + 2)) = ⟨((c :: R).take 2).toArray⟩ := cut_take (k := 2) h hp
  have e4 : p + 2 - 2 = p := by omega
  have hn : ¬ ((B.length : Int) + 1 = 0) := by omega
  have e5 : ((⟨((c :: R).take 2).toArray⟩ : Str) = ", ") = ((c :: R).take 2 = [44, 32]) := by
    rw [← sgcs]
    exact propext st_inj
  obtain ⟨z, hz⟩ : ∃ z : Str, z = ⟨((c :: R).take 2).toArray⟩ := ⟨_, rfl⟩
  obtain ⟨b, hb⟩ : ∃ b : Prop, b = ((c :: R).take 2 = [44, 32]) := ⟨_, rfl⟩
  rw [← hz] at e3 e5
  by_cases hq : (c :: R).take 2 = [44, 32]
  · have e6 : z = ", " := e5.mpr hq
    rw [decide_eq_true hq]
    simp [m_p_TermReader_go_on, hT, e1, e2, e3, e4, hne, hn, e6]
  · have e6 : ¬ z = ", " := fun q => hq (e5.mp q)
    rw [decide_eq_false hq]
    simp [m_p_TermReader_go_on, hT, e1, e2, e3, e4, hne, hn, e6]
end
end KX

namespace KX
open PySem PySem.Spec PyProof.Rows L2 DL FL NdefX LamX
def LW (n : Nat) : M Res := mWhile (mB (mOp2 fLt (mFld "TermReader" 0 "spot") (mCB fLen (mCons (mFld "TermReader" 0 "text") mNil)))) b_p_TermReader_whole_term_1 n
def Steps (k : Nat) (s s' : PV) : Prop := ∀ (n : Nat) (x : Option PV), ∃ x', LW (n + k) [some s, x] = LW n [some s', x']
def NoRd (o : Option (Out Res × PEnv)) : Prop := (∃ s' x', o = some (.ok (.rt (.val .non)), [some s', x'])) ∨ ∃ T p B e x', o = some (.ok .nx, [some (rd T p B e), x']) ∧ (B ≠ [] ∨ e = .non)
def Fl (k : Nat) (s : PV) : Prop := ∀ (n : Nat) (x : Option PV), NoRd (LW (n + k) [some s, x])
theorem Steps.refl (a : PV) : Steps 0 a a := fun n x => ⟨x, rfl⟩
theorem Steps.trans {k l : Nat} {a b c : PV} (h : Steps k a b) (g : Steps l b c) : Steps (k + l) a c := fun n x => by
  obtain ⟨y, e1⟩ := h (n + l) x
  obtain ⟨z, e2⟩ := g n y
  have : n + (k + l) = n + l + k := by omega
  exact ⟨z, by rw [this, e1, e2]⟩
theorem Steps.fl {k l : Nat} {a b : PV} (h : Steps k a b) (g : Fl l b) : Fl (k + l) a := fun n x => by
  obtain ⟨y, e1⟩ := h (n + l) x
  have : n + (k + l) = n + l + k := by omega
  rw [this, e1]
  exact g n y
theorem Fl.mono {k l : Nat} {a : PV} (h : Fl k a) (hl : k ≤ l) : Fl l a := fun n x => by
  have := h (n + (l - k)) x
  rwa [show n + (l - k) + k = n + l from by omega] at this
section
variable {T : Str} {p p' : Int} {B B' : List (List D)} {e e' : D} {A R : List Nat}
theorem turn_begin (hT : T.length ≤ 40000) (hp : p < T.length) (h : m_p_TermReader_begin [rd T p B .non] = some (.ok (.val (.bl true)), [rd T p' B' e'])) : Steps 1 (rd T p B .non) (rd T p' B' e') := fun n x => by
  have hT' : T.length ≤ 1000000 := by omega
  have e6 : mV (mMeth "TermReader" 0 "begin" m_p_TermReader_begin (mPure [])) [some (rd T p B .non), x] = _ := rd_meth (by decide +kernel) h
  refine ⟨some (.val (.bl true)), ?_⟩
  unfold LW
  conv => lhs; unfold mWhile
  simp [hT', hp, b_p_TermReader_whole_term_1, e6, FL.isNon, -mV_run]
theorem turn_begin_no (hT : T.length ≤ 40000) (hp : p < T.length) (h : m_p_TermReader_begin [rd T p B .non] = some (.ok (.val (.bl false)), [rd T p' B' e'])) : Fl 1 (rd T p B .non) := fun n x => by
  have hT' : T.length ≤ 1000000 := by omega
  have e6 : mV (mMeth "TermReader" 0 "begin" m_p_TermReader_begin (mPure [])) [some (rd T p B .non), x] = _ := rd_meth (by decide +kernel) h
  refine .inl ⟨rd T p' B' e', some (.val (.bl false)), ?_⟩
  unfold LW
  conv => lhs; unfold mWhile
  simp [hT', hp, b_p_TermReader_whole_term_1, e6, FL.isNon, -mV_run]
theorem turn_go (hT : T.length ≤ 40000) (hp : p < T.length) (he : FL.isNon e = false) (h : m_p_TermReader_go_on [rd T p B e] = some (.ok (.val (.bl true)), [rd T p' B' e'])) : Steps 1 (rd T p B e) (rd T p' B' e') := fun n x => by
  have hT' : T.length ≤ 1000000 := by omega
  have e6 : mV (mMeth "TermReader" 0 "go_on" m_p_TermReader_go_on (mPure [])) [some (rd T p B e), x] = _ := rd_meth (by decide +kernel) h
  refine ⟨some (.val (.bl true)), ?_⟩
  unfold LW
  conv => lhs; unfold mWhile
  simp [hT', hp, b_p_TermReader_whole_term_1, e6, he, -mV_run]
theorem turn_go_no (hT : T.length ≤ 40000) (hp : p < T.length) (he : FL.isNon e = false) (h : m_p_TermReader_go_on [rd T p B e] = some (.ok (.val (.bl false)), [rd T p' B' e'])) : Fl 1 (rd T p B e) := fun n x => by
  have hT' : T.length ≤ 1000000 := by omega
  have e6 : mV (mMeth "TermReader" 0 "go_on" m_p_TermReader_go_on (mPure [])) [some (rd T p B e), x] = _ := rd_meth (by decide +kernel) h
  refine .inl ⟨rd T p' B' e', some (.val (.bl false)), ?_⟩
  unfold LW
  conv => lhs; unfold mWhile
  simp [hT', hp, b_p_TermReader_whole_term_1, e6, he, -mV_run]
theorem tail_len {c : Nat} : ∀ {l : List Nat}, l.head? = some c → l.length = l.tail.length + 1
  | [], h => nomatch h
  | _ :: _, _ => rfl
theorem at_end (hT : T.length ≤ 40000) (hp : (T.length : Int) ≤ p) (n : Nat) (x : Option PV) : LW (n + 1) [some (rd T p B e), x] = some (.ok .nx, [some (rd T p B e), x]) := by
  have hT' : T.length ≤ 1000000 := by omega
  have hp' : ¬ p < (T.length : Int) := by omega
  unfold LW
  conv => lhs; unfold mWhile
  simp [hT', hp']
theorem end_no (hT : T.length ≤ 40000) (hp : (T.length : Int) ≤ p) (h : B ≠ [] ∨ e = .non) : Fl 1 (rd T p B e) := fun n x => .inr ⟨T, p, B, e, x, at_end hT hp n x, h⟩
theorem PTm.notNon {t : D} (h : PTm t) : FL.isNon t = false := by cases h <;> rfl
theorem len_of (h : T.cps.toList = A ++ R) : T.length = A.length + R.length := by rw [len_l, h]; simp
theorem bg_turn (hT : T.length ≤ 40000) (h : T.cps.toList = A ++ R) (hR : R ≠ []) (hB : B.length ≤ 100000) : match bg R with
    | none => Fl 1 (rd T A.length B .non)
    | some (.leaf t, R') => ∀ A', T.cps.toList = A' ++ R' → Steps 1 (rd T A.length B .non) (rd T A'.length B t)
    | some (.op w, R') => ∀ A', T.cps.toList = A' ++ R' → Steps 1 (rd T A.length B .non) (rd T A'.length (B ++ [[.str w]]) .non) := by
  have hl := len_of h
  have hpos : 0 < R.length := List.length_pos_iff.mpr hR
  have hp : (A.length : Int) < T.length := by omega
  have s := bg_s R
  generalize bg R = o at s
  cases s with
  | num hF hR2 hk =>
    rename_i F R'
    intro A' h'
    have hl' := len_of h'
    have ef := figs_val hF hk
    have e1 : T.cps.toList = A ++ 35 :: ((figs (valF F)).cps.toList ++ R') := by rw [h, ef]
    have hlf : (figs (valF F)).length = F.length := by rw [len_l, ef]
    have e2 := begin_num (B := B) (valF_lt hF hk) e1 hR2 hT rfl
    have e3 : (A.length : Int) + (1 + (figs (valF F)).length) = A'.length := by
      rw [hlf]
      simp at hl
      omega
    rw [e3] at e2
    exact turn_begin hT hp e2
  | nonum hF hR2 hk => exact turn_begin_no hT hp (begin_nonum hF hk h hR2 hT rfl)
  | bare hw hk =>
    rename_i w R'
    intro A' h'
    have hl' := len_of h'
    have e2 := begin_bare (B := B) hw hk h hT (by omega) rfl
    have e3 : (A.length : Int) + w.length + 1 + 1 = A'.length := by
      simp at hl
      omega
    rw [e3] at e2
    exact turn_begin hT hp e2
  | op hw hk hR2 =>
    rename_i w R'
    intro A' h'
    have hl' := len_of h'
    have e2 := begin_op (B := B) hw hk h hR2 hT (by omega) rfl
    have e3 : (A.length : Int) + w.length + 1 = A'.length := by
      simp at hl
      omega
    rw [e3] at e2
    exact turn_begin hT hp e2
  | word hw hk hR2 h4 =>
    rename_i w R'
    intro A' h'
    have hl' := len_of h'
    have e2 := begin_word (B := B) hw hk h hR2 h4 hT rfl
    have e3 : (A.length : Int) + w.length = A'.length := by
      simp at hl
      omega
    rw [e3] at e2
    exact turn_begin hT hp e2
  | noword hw hk hR2 h35 =>
    rename_i w R'
    refine turn_begin_no hT hp (begin_noword hw hk h hR2 ?_ hT rfl)
    cases e : w ++ R' with
    | nil => exact absurd e hR
    | cons c q =>
      rw [e] at h35
      exact ⟨c, rfl, fun q => h35 (by rw [q]; rfl)⟩
def Does (T : Str) (A : List Nat) (B : List (List D)) (s : PV) (n : Nat) (o : Option (D × List Nat)) : Prop := match o with
  | some (t, R') => ∃ A' j, T.cps.toList = A' ++ R' ∧ j + 2 * R'.length ≤ n ∧ Steps j s (rd T A'.length B t)
  | none => ∃ j, j ≤ n + 1 ∧ Fl j s
theorem parts_do (hT : T.length ≤ 40000) {f : List Nat → Option (D × List Nat)} {k : Nat} {B : List (List D)}
    (hf : ∀ (R A : List Nat) (B : List (List D)), T.cps.toList = A ++ R → Mb k R → B.length + k ≤ 1000 → Does T A B (rd T A.length B .non) (2 * R.length) (f R))
    (hs : ∀ R t R', f R = some (t, R') → PTm t ∧ ∃ X, Rdd R t R' X) (hB : B.length + 1 + k ≤ 1000) : ∀ (m : Nat) (R A : List Nat) (ys : List D), R.length ≤ m → T.cps.toList = A ++ R → Mb k R → ys.length + R.length ≤ 900000 →
      Does T A B (rd T A.length (B ++ [ys]) .non) (2 * R.length) (pL f m R ys)
  | 0, R, A, ys, hm, h, hb, hy => by
    have e : R = [] := List.length_eq_zero_iff.mp (by omega)
    subst e
    have hl := len_of h
    exact ⟨1, by omega, end_no hT (by simp at hl; omega) (.inl (by simp))⟩
  | m + 1, R, A, ys, hm, h, hb, hy => by
    have hd := hf R A (B ++ [ys]) h hb (by rw [List.length_append, List.length_singleton]; omega)
    rw [pL]
    cases e : f R with
    | none =>
      rw [e] at hd
      exact hd
    | some tr =>
      obtain ⟨t, R1⟩ := tr
      rw [e] at hd
      obtain ⟨A1, j, h1, hj, s1⟩ := hd
      obtain ⟨pt, X, e1, x1, x2⟩ := hs R t R1 e
      have hl := len_of h
      have hl1 := len_of h1
      have hb1 : Mb k R1 := (e1 ▸ hb).behind (by omega)
      have hlr : R.length = X.length + R1.length := by rw [e1]; simp
      dsimp only
      by_cases h41 : R1.head? = some 41
      · rw [if_pos h41]
        have e2 := head_tail h41
        have h2 : T.cps.toList = A1 ++ 41 :: R1.tail := by rw [← e2]; exact h1
        have hlt : R1.length = R1.tail.length + 1 := tail_len h41
        have s2 := turn_go hT (by omega) pt.notNon (go_end (p := A1.length) (B := B) (ys := ys) (e := t) h2 (by omega) (by omega) rfl)
        refine ⟨A1 ++ [41], j + 1, by rw [h2]; simp, by omega, ?_⟩
        have e3 : ((A1 ++ [41]).length : Int) = A1.length + 1 := by simp
        rw [e3]
        exact s1.trans s2
      · rw [if_neg h41]
        cases hR1 : R1 with
        | nil =>
          subst hR1
          simp only [List.take_nil]
          rw [if_neg (by simp)]
          refine ⟨j + 1, by omega, s1.fl (end_no hT (by simp at hl1; omega) (.inl (by simp)))⟩
        | cons c R2 =>
          have hc : c ≠ 41 := fun q => h41 (by rw [hR1, q]; rfl)
          have g := go_more (p := A1.length) (B := B) (ys := ys) (e := t) (hR1 ▸ h1) hc (by omega) (by omega) rfl
          have hlt : R1.length = R2.length + 1 := by rw [hR1]; simp
          by_cases h2 : (c :: R2).take 2 = [44, 32]
          · rw [if_pos h2]
            rw [decide_eq_true h2] at g
            have e2 := take2 h2
            have s2 := turn_go hT (by omega) pt.notNon g
            have h3 : T.cps.toList = (A1 ++ [44, 32]) ++ (c :: R2).drop 2 := by
              rw [h1, hR1]
              conv => lhs; rw [e2]
              simp
            have hld : R1.length = ((c :: R2).drop 2).length + 2 := by
              rw [hR1]
              conv => lhs; rw [e2]
              simp
            have hb3 : Mb k ((c :: R2).drop 2) := by
              have : R1 = [44, 32] ++ (c :: R2).drop 2 := by rw [hR1]; exact e2
              exact (this ▸ hb1).behind (by decide)
            have ih := parts_do hT hf hs hB m ((c :: R2).drop 2) (A1 ++ [44, 32]) (ys ++ [t]) (by omega) h3 hb3 (by rw [List.length_append, List.length_singleton]; omega)
            have e3 : ((A1 ++ [44, 32]).length : Int) = A1.length + 2 := by simp
            rw [e3] at ih
            have s12 := s1.trans s2
            revert ih
            cases pL f m ((c :: R2).drop 2) (ys ++ [t]) with
            | none =>
              rintro ⟨j2, hj2, fl⟩
              exact ⟨j + 1 + j2, by omega, s12.fl fl⟩
            | some q =>
              obtain ⟨t2, R3⟩ := q
              rintro ⟨A3, j2, h4, hj2, s3⟩
              exact ⟨A3, j + 1 + j2, h4, by omega, s12.trans s3⟩
          · rw [if_neg h2]
            rw [decide_eq_false h2] at g
            exact ⟨j + 1, by omega, s1.fl (turn_go_no hT (by omega) pt.notNon g)⟩
theorem read_do (hT : T.length ≤ 40000) : ∀ (n k : Nat) (R A : List Nat) (B : List (List D)), T.cps.toList = A ++ R → Mb k R → k < n → B.length + k ≤ 1000 → Does T A B (rd T A.length B .non) (2 * R.length) (pT n R)
  | 0, k, R, A, B, h, hb, hk, hB => by omega
  | n + 1, k, R, A, B, h, hb, hk, hB => by
    have hl := len_of h
    by_cases hR : R = []
    · subst hR
      have : pT (n + 1) [] = none := by rw [pT]; rfl
      rw [this]
      exact ⟨1, by omega, end_no hT (by simp at hl; omega) (.inr rfl)⟩
    have tb := bg_turn (B := B) hT h hR (by omega)
    rw [pT]
    cases e : bg R with
    | none =>
      rw [e] at tb
      have hpos : 0 < R.length := List.length_pos_iff.mpr hR
      exact ⟨1, by omega, tb⟩
    | some br =>
      obtain ⟨b, R'⟩ := br
      rw [e] at tb
      cases b with
      | leaf t =>
        obtain ⟨X, e1, x1, x2⟩ := bg_leaf e
        have h1 : T.cps.toList = (A ++ X) ++ R' := by rw [h, e1]; simp
        have hlr : R.length = X.length + R'.length := by rw [e1]; simp
        exact ⟨A ++ X, 1, h1, by omega, tb _ h1⟩
      | op w =>
        obtain ⟨v, rfl, e1, hv, hw, hne⟩ := bg_op e
        have h1 : T.cps.toList = (A ++ v ++ [40]) ++ R' := by rw [h, e1]; simp
        have hlr : R.length = v.length + (R'.length + 1) := by rw [e1]; simp
        obtain ⟨np1, np2⟩ := lets_np hv
        have hk1 : 1 ≤ k := (e1 ▸ hb).opened_pos (by omega)
        obtain ⟨k, rfl⟩ : ∃ l, k = l + 1 := ⟨k - 1, by omega⟩
        have hb1 : Mb k R' := (e1 ▸ hb).opened (by omega)
        have s1 := tb _ h1
        have d := parts_do (k := k) (B := B) hT (f := pT n) (fun R A B h hb hB => read_do hT n k R A B h hb (by omega) hB) (fun R t R' e => ⟨pT_t n R t R' e, pT_some n R t R' e⟩) (by omega) R'.length R' (A ++ v ++ [40]) [.str ⟨v.toArray⟩] (Nat.le_refl _) h1 hb1 (by simp; omega)
        dsimp only
        revert d
        cases pL (pT n) R'.length R' [.str ⟨v.toArray⟩] with
        | none =>
          rintro ⟨j, hj, fl⟩
          exact ⟨1 + j, by omega, s1.fl fl⟩
        | some q =>
          obtain ⟨t2, R3⟩ := q
          rintro ⟨A3, j, h3, hj, s3⟩
          exact ⟨A3, 1 + j, h3, by omega, s1.trans s3⟩
end
def rdT (T : Str) : Option D := match pT 60 T.cps.toList with
  | some (t, []) => some t
  | _ => none
theorem rdT_t {T : Str} {t : D} (h : rdT T = some t) : PTm t := by
  unfold rdT at h
  split at h
  · rename_i t' e
    cases h
    exact pT_t _ _ _ _ e
  · cases h
section
variable {T : Str}
theorem whole_ok (hT : T.length ≤ 40000) (hb : Mb 50 T.cps.toList) : ∃ s', m_p_TermReader_whole_term [rd T 0 [] .non] = some (.ok (.val ((rdT T).getD .non)), [s']) := by
  have d := read_do hT 60 50 T.cps.toList [] [] rfl hb (by omega) (by simp)
  have hl : T.cps.toList.length = T.length := (len_l T).symm
  unfold rdT
  have fin : ∀ {o}, LW FUEL [some (rd T 0 [] .non), none] = o → NoRd o → ∃ s', m_p_TermReader_whole_term [rd T 0 [] .non] = some (.ok (.val .non), [s']) := fun {o} e hn => by
    unfold LW at e
    rcases hn with ⟨s', x', rfl⟩ | ⟨T', p, B, e', x', rfl, hB⟩
    · exact ⟨s', by simp [m_p_TermReader_whole_term, e]⟩
    · by_cases hB0 : B = []
      · subst hB0
        have he' : e' = .non := hB.elim (fun q => absurd rfl q) id
        subst he'
        exact ⟨rd T' p [] .non, by simp [m_p_TermReader_whole_term, e]⟩
      · have hBl : ¬ (B.length : Int) = 0 := by
          have := List.length_pos_iff.mpr hB0
          omega
        have hBl2 : ¬ B.length = 0 := by omega
        exact ⟨rd T' p B e', by simp [m_p_TermReader_whole_term, e, hBl, hBl2, hB0]⟩
  cases e : pT 60 T.cps.toList with
  | none =>
    rw [e] at d
    obtain ⟨j, hj, fl⟩ := d
    have := fl (FUEL - j) none
    rw [show FUEL - j + j = FUEL from by unfold FUEL; omega] at this
    exact fin rfl this
  | some tr =>
    obtain ⟨t, R'⟩ := tr
    rw [e] at d
    have pt := pT_t _ _ _ _ e
    obtain ⟨A', j, h1, hj, s1⟩ := d
    have hl1 := len_of h1
    cases R' with
    | nil =>
      obtain ⟨x', e1⟩ := s1 (FUEL - j) none
      rw [show FUEL - j + j = FUEL from by unfold FUEL; omega] at e1
      obtain ⟨m, hm⟩ : ∃ m, FUEL - j = m + 1 := ⟨FUEL - j - 1, by unfold FUEL; omega⟩
      rw [hm, at_end (p := (A'.length : Int)) hT (by simp at hl1; omega)] at e1
      unfold LW at e1
      rw [show (([] : List Nat).length : Int) = 0 from rfl] at e1
      exact ⟨rd T A'.length [] t, by simp [m_p_TermReader_whole_term, e1]⟩
    | cons c R2 =>
      have hp : (A'.length : Int) < T.length := by simp at hl1; omega
      have s2 := turn_go_no hT hp pt.notNon (go_none (p := A'.length) (e := t) h1)
      have := (s1.fl s2) (FUEL - (j + 1)) none
      rw [show FUEL - (j + 1) + (j + 1) = FUEL from by unfold FUEL; omega] at this
      exact fin rfl this
theorem term_in_ok (hT : T.length ≤ 40000) (hb : Mb 50 T.cps.toList) : m_p_term_in [.str T] = some ((rdT T).getD .non) := by
  obtain ⟨s', e3⟩ := whole_ok hT hb
  have g1 : mMake "TermReader" m_p_TermReader___init__ (mArgV (mVar 0) (mPure [])) [some (.val (.str T))] = some (.ok (rd T 0 [] .non), [some (.val (.str T))]) := by
    simp [mMake, init_ok]
  have g2 : mObjM "TermReader" "whole_term" (mMake "TermReader" m_p_TermReader___init__ (mArgV (mVar 0) (mPure []))) [some (.val (.str T))] = some (.ok (rd T 0 [] .non), [some (.val (.str T))]) := by
    unfold mObjM
    rw [g1]
    show (if _ then _ else _) = _
    rw [if_pos ⟨rfl, by decide +kernel⟩]
    rfl
  have g3 : mMethN "TermReader" "whole_term" m_p_TermReader_whole_term (mMake "TermReader" m_p_TermReader___init__ (mArgV (mVar 0) (mPure []))) (mPure []) [some (.val (.str T))] = some (.ok (.val ((rdT T).getD .non)), [some (.val (.str T))]) := by
    unfold mMethN
    simp [g2, e3]
  simp [m_p_term_in, g3]
theorem read_term_ok (hT : T.length ≤ 40000) (hb : Mb 50 T.cps.toList) : m_p_read_term [.str T] = some (match rdT T with | some t => .ok t | none => .ex (.int 0)) := by
  have e4 := term_in_ok hT hb
  cases h : rdT T with
  | some t =>
    rw [h] at e4
    simp at e4
    have := (rdT_t h).notNon
    simp [m_p_read_term, fIsi, tyP, subTy, e4, this, runX_eq]
  | none =>
    rw [h] at e4
    simp at e4
    simp [m_p_read_term, fIsi, tyP, subTy, e4, FL.isNon, runX_eq]
theorem told_ok (hT : T.length ≤ 40000) (hb : Mb 50 T.cps.toList) : m_l_told [.str T] = some (match rdT T with | some t => .ilst [t] | none => .tup [.int 0]) := by
  have e := read_term_ok hT hb
  cases h : rdT T with
  | some t =>
    rw [h] at e
    simp [m_l_told, e]
  | none =>
    rw [h] at e
    simp [m_l_told, e]
end
end KX

namespace KX
open PySem PySem.Spec PyProof.Rows L2 DL FL NdefX LamX
theorem strip_len (x y : Str) : (PySem.Txt.lstripChars x y).length + (x.cps.toList.takeWhile y.cps.contains).length = x.length := by
  have hle : (x.cps.toList.takeWhile y.cps.contains).length ≤ x.length := by
    rw [len_l]
    exact (List.takeWhile_sublist _).length_le
  unfold PySem.Txt.lstripChars PySem.Txt.stripBy
  split
  · rename_i h
    simp only [stripSame, Bool.and_eq_true, beq_iff_eq] at h
    have h1 : (x.cps.toList.takeWhile y.cps.contains).length = 0 := by simpa [stripLo] using h.1
    omega
  · show (PySem.Builtin.Str.strSub x (stripLo _ true x) (stripHi _ false x _)).length + _ = _
    simp only [stripLo, stripHi, if_true, PySem.Builtin.Str.strSub]
    show (x.cps.extract _ x.length).size + _ = x.cps.size
    have : x.length = x.cps.size := rfl
    simp
    omega
theorem has_L : ("abcdefghijklmnopqrstuvwxyz" : Str).cps.contains = isL := funext fun c => by
  have := @lets_in c
  rw [Bool.eq_iff_iff, ← this]
  simp
theorem has_F : ("0123456789" : Str).cps.contains = isF := funext fun c => by
  have := @figs_in c
  rw [Bool.eq_iff_iff, ← this]
  simp
theorem cut_from {T : Str} {A R : List Nat} (h : T.cps.toList = A ++ R) {p : Int} (hp : p = A.length) : cutS T (some p) none = ⟨R.toArray⟩ := by
  have hl : T.length = A.length + R.length := by rw [len_l, h]; simp
  unfold cutS
  rw [hp, HT.sIx_nat, HT.sIx_none, h, hl, show min A.length (A.length + R.length) = A.length from by omega, List.drop_left, List.take_of_length_le (by omega)]
theorem cut_to {T : Str} {R : List Nat} (h : T.cps.toList = R) (k : Nat) : cutS T none (some (k : Int)) = ⟨(R.take k).toArray⟩ := by
  have hl : T.length = R.length := by rw [len_l, h]
  unfold cutS
  rw [HT.sIx_nat, HT.sIx_none, h, hl, List.drop_zero]
  congr 2
  by_cases hk : k ≤ R.length
  · rw [show min k R.length - 0 = k from by omega]
  · rw [List.take_of_length_le (by omega), List.take_of_length_le (by omega)]
theorem cut_to1 {s : Str} {a : Nat} (hs : (⟨#[a]⟩ : Str) = s) {T : Str} {R : List Nat} (h : T.cps.toList = R) : (cutS T none (some 1) = s) = (R.head? = some a) := by
  have := cut_to h 1
  rw [show ((1 : Nat) : Int) = 1 from rfl] at this
  rw [this, ← hs]
  refine propext ?_
  show (⟨(R.take 1).toArray⟩ : Str) = ⟨[a].toArray⟩ ↔ _
  rw [st_inj]
  cases R with
  | nil => simp
  | cons c R => simp
theorem cut_to2 {T : Str} {R : List Nat} (h : T.cps.toList = R) : (cutS T none (some 2) = ", ") = (R.take 2 = [44, 32]) := by
  have := cut_to h 2
  rw [show ((2 : Nat) : Int) = 2 from rfl] at this
  rw [this, ← sgcs]
  exact propext st_inj
def resD : Option (D × List Nat) → D
  | some (t, R) => .tup [t, .str ⟨R.toArray⟩]
  | none => .non
theorem int_figs {F : List Nat} (hF : ∀ c ∈ F, isF c = true) (h : numB F = true) : fIntV [.str ⟨F.toArray⟩] = some (.int (valF F : Nat)) := by
  rw [figs_st hF h]
  obtain ⟨h1, h2, h3, _, h5⟩ := small_ok (valF_lt hF h)
  have hl : (figs (valF F)).length ≤ 640 := by rw [len_l]; omega
  simp [h5, hl]
theorem loop_ok {f : List Nat → Option (D × List Nat)} {m : List D → Option D} {k : Nat}
    (hf : ∀ R : List Nat, R.length ≤ 40000 → Mb k R → m [.str ⟨R.toArray⟩] = some (resD (f R)))
    (hs : ∀ R t R', f R = some (t, R') → PTm t ∧ ∃ X, Rdd R t R' X) {c : PEnv → Bool} (hc : ∀ ε, c ε = true) {x0 x1 x2 x3 : Option PV} : ∀ (ds : List D) (R : List Nat) (acc : List D) (x6 x7 : Option PV), R.length ≤ 40000 → Mb k R → acc.length + R.length ≤ 900000 →
      (∃ ε', mLoop c (gN 6) (b_l_term_at_1 m) ds [x0, x1, x2, x3, some (.val (.str ⟨R.toArray⟩)), some (.val (.tup acc)), x6, x7] = some (.ok (.rt (.val (resD (pL f ds.length R acc)))), ε')) ∨
      (pL f ds.length R acc = none ∧ ∃ ε', mLoop c (gN 6) (b_l_term_at_1 m) ds [x0, x1, x2, x3, some (.val (.str ⟨R.toArray⟩)), some (.val (.tup acc)), x6, x7] = some (.ok .nx, ε'))
  | [], R, acc, x6, x7, hR, hb, ha => .inr ⟨rfl, _, by simp only [mLoop, hc, if_true]; rfl⟩
  | d :: ds, R, acc, x6, x7, hR, hb, ha => by
    have e1 := hf R hR hb
    have hl : (⟨R.toArray⟩ : Str).length = R.length := st_len R
    obtain ⟨z, hz⟩ : ∃ z : Str, z = ⟨R.toArray⟩ := ⟨_, rfl⟩
    rw [← hz] at e1 ⊢
    have hg : ∀ (ε : PEnv) (x4 x5 x6' x7' : Option PV), ε = [x0, x1, x2, x3, x4, x5, x6', x7'] → gN 6 d ε = some [x0, x1, x2, x3, x4, x5, some (.val d), x7'] := fun ε x4 x5 x6' x7' e => by rw [e]; rfl
    have one : ∀ {o : Res} {ε2 : PEnv}, b_l_term_at_1 m [x0, x1, x2, x3, some (.val (.str z)), some (.val (.tup acc)), some (.val d), x7] = some (.ok o, ε2) →
        mLoop c (gN 6) (b_l_term_at_1 m) (d :: ds) [x0, x1, x2, x3, some (.val (.str z)), some (.val (.tup acc)), x6, x7] = match o with
          | .nx => mLoop c (gN 6) (b_l_term_at_1 m) ds ε2
          | .ct => mLoop c (gN 6) (b_l_term_at_1 m) ds ε2
          | .bk => some (.ok .nx, ε2)
          | .rt v => some (.ok (.rt v), ε2) := fun {o ε2} e => by
      simp only [mLoop, hc, if_true, hg _ _ _ _ _ rfl, e]
      cases o <;> rfl
    rw [List.length_cons, pL]
    cases e : f R with
    | none =>
      rw [e] at e1
      have e1' : m [.str z] = some .non := e1
      refine .inl ⟨[x0, x1, x2, x3, some (.val (.str z)), some (.val (.tup acc)), some (.val d), some (.val .non)], (one (o := .rt (.val .non)) ?_).trans rfl⟩
      simp [b_l_term_at_1, e1', FL.isNon]
    | some tr =>
      obtain ⟨t, R1⟩ := tr
      rw [e] at e1
      obtain ⟨pt, X, q1, q2, q3⟩ := hs R t R1 e
      have hlr : R.length = X.length + R1.length := by rw [q1]; simp
      have hb1 : Mb k R1 := (q1 ▸ hb).behind (by omega)
      obtain ⟨z1, hz1⟩ : ∃ z1 : Str, z1 = ⟨R1.toArray⟩ := ⟨_, rfl⟩
      have hz1l : z1.cps.toList = R1 := by rw [hz1]
      have hl1 : z1.length ≤ 1000000 := by rw [len_l, hz1l]; omega
      obtain ⟨d0, hd0⟩ : ∃ d0 : D, d0 = .tup [t, .str z1] := ⟨_, rfl⟩
      have e1' : m [.str z] = some d0 := by rw [hd0, hz1]; exact e1
      have hx0 : fIx d0 (.int 0) = some t := by rw [hd0]; rfl
      have hx1 : fIx d0 (.int 1) = some (.str z1) := by rw [hd0]; rfl
      have hn0 : FL.isNon d0 = false := by rw [hd0]; rfl
      have ha1 : acc.length + 1 ≤ 1000000 := by omega
      dsimp only
      by_cases h41 : R1.head? = some 41
      · rw [if_pos h41]
        have c1 : cutS z1 none (some 1) = ")" := (cut_to1 sg41 hz1l).mpr h41
        have c2 : cutS z1 (some 1) none = ⟨R1.tail.toArray⟩ := cut_from (A := [41]) (by rw [hz1l]; exact head_tail h41) rfl
        refine .inl ⟨[x0, x1, x2, x3, some (.val (.str z1)), some (.val (.tup (acc ++ [t]))), some (.val d), some (.val d0)], (one (o := .rt (.val (.tup [.tup (acc ++ [t]), .str ⟨R1.tail.toArray⟩]))) ?_).trans rfl⟩
        simp [b_l_term_at_1, e1', hx0, hx1, hn0, ha1, hl1, c1, c2, FL.short]
      · rw [if_neg h41]
        have c1 : ¬ cutS z1 none (some 1) = ")" := fun q => h41 ((cut_to1 sg41 hz1l).mp q)
        by_cases h2 : R1.take 2 = [44, 32]
        · rw [if_pos h2]
          have c3 : cutS z1 none (some 2) = ", " := (cut_to2 hz1l).mpr h2
          have q4 : R1 = [44, 32] ++ R1.drop 2 := take2 h2
          have c2 : cutS z1 (some 2) none = ⟨(R1.drop 2).toArray⟩ := cut_from (A := [44, 32]) (by rw [hz1l]; exact q4) rfl
          have hlt : R1.length = (R1.drop 2).length + 2 := by
            have q5 := congrArg List.length q4
            rw [List.length_append] at q5
            exact q5.trans (Nat.add_comm 2 _)
          have hb2 : Mb k (R1.drop 2) := (q4 ▸ hb1).behind (by decide)
          have ih := loop_ok hf hs hc (x0 := x0) (x1 := x1) (x2 := x2) (x3 := x3) ds (R1.drop 2) (acc ++ [t]) (some (.val d)) (some (.val d0)) (by omega) hb2 (by rw [List.length_append, List.length_singleton]; omega)
          have st := one (o := .nx) (ε2 := [x0, x1, x2, x3, some (.val (.str ⟨(R1.drop 2).toArray⟩)), some (.val (.tup (acc ++ [t]))), some (.val d), some (.val d0)]) (by
            simp [b_l_term_at_1, e1', hx0, hx1, hn0, ha1, hl1, c1, c2, c3, FL.short])
          rw [st]
          exact ih
        · rw [if_neg h2]
          have c3 : ¬ cutS z1 none (some 2) = ", " := fun q => h2 ((cut_to2 hz1l).mp q)
          refine .inl ⟨[x0, x1, x2, x3, some (.val (.str z1)), some (.val (.tup (acc ++ [t]))), some (.val d), some (.val d0)], (one (o := .rt (.val .non)) ?_).trans rfl⟩
          simp [b_l_term_at_1, e1', hx0, hx1, hn0, ha1, hl1, c1, c3, FL.short]
end KX

namespace KX
open PySem PySem.Spec PyProof.Rows L2 DL FL NdefX LamX
theorem split_L (w R : List Nat) (hw : ∀ c ∈ w, isL c = true) (hR : ∀ c ∈ R.head?, isL c = false) : (w ++ R).takeWhile isL = w := by
  rw [List.takeWhile_append_of_pos hw]
  cases R with
  | nil => simp
  | cons c R => rw [List.takeWhile_cons_of_neg (by rw [hR c rfl]; decide), List.append_nil]
theorem split_F (w R : List Nat) (hw : ∀ c ∈ w, isF c = true) (hR : ∀ c ∈ R.head?, isF c = false) : (w ++ R).takeWhile isF = w := by
  rw [List.takeWhile_append_of_pos hw]
  cases R with
  | nil => simp
  | cons c R => rw [List.takeWhile_cons_of_neg (by rw [hR c rfl]; decide), List.append_nil]
theorem strip_L {T : Str} {w R : List Nat} (h : T.cps.toList = w ++ R) (hw : ∀ c ∈ w, isL c = true) (hR : ∀ c ∈ R.head?, isL c = false) : ((PySem.Txt.lstripChars T "abcdefghijklmnopqrstuvwxyz").length : Int) = R.length := by
  have := strip_len T "abcdefghijklmnopqrstuvwxyz"
  rw [has_L, h, split_L w R hw hR, len_l T, h] at this
  simp at this
  omega
theorem strip_F {T : Str} {w R : List Nat} (h : T.cps.toList = w ++ R) (hw : ∀ c ∈ w, isF c = true) (hR : ∀ c ∈ R.head?, isF c = false) : ((PySem.Txt.lstripChars T "0123456789").length : Int) = R.length := by
  have := strip_len T "0123456789"
  rw [has_F, h, split_F w R hw hR, len_l T, h] at this
  simp at this
  omega
@[simp] theorem fLstrip_ss {a b : Str} (h : a.length ≤ 1000000) : fLstrip (.str a) (.str b) = some (.str (PySem.Txt.lstripChars a b)) := by
  show (if a.length ≤ 1000000 then _ else _) = _
  rw [if_pos h]
section
variable {R : List Nat} {n : Nat}
theorem at_num {F R : List Nat} (hF : ∀ c ∈ F, isF c = true) (hR : ∀ c ∈ R.head?, isF c = false) (hT : (35 :: (F ++ R)).length ≤ 40000) :
    m_l_term_at (n + 1) [.str ⟨(35 :: (F ++ R)).toArray⟩] = some (if numB F = true then .tup [.int (valF F : Nat), .str ⟨R.toArray⟩] else .non) := by
  obtain ⟨T, hT0⟩ : ∃ T : Str, T = ⟨(35 :: (F ++ R)).toArray⟩ := ⟨_, rfl⟩
  have hl : T.cps.toList = 35 :: (F ++ R) := by rw [hT0]
  have hlen : T.length = F.length + R.length + 1 := by rw [len_l, hl]; simp
  have hT' : T.length ≤ 1000000 := by simp at hT; omega
  have c1 : cutS T none (some 1) = "#" := (cut_to1 sg35 hl).mpr rfl
  obtain ⟨T1, hT1⟩ : ∃ T1 : Str, T1 = ⟨(F ++ R).toArray⟩ := ⟨_, rfl⟩
  have hl1 : T1.cps.toList = F ++ R := by rw [hT1]
  have c2 : cutS T (some 1) none = T1 := by rw [hT1]; exact cut_from (A := [35]) hl rfl
  have hlen1 : T1.length ≤ 1000000 := by rw [len_l, hl1]; simp at hT ⊢; omega
  have s1 := strip_F hl1 hF hR
  obtain ⟨S1, hS1⟩ : ∃ S1 : Str, S1 = PySem.Txt.lstripChars T1 "0123456789" := ⟨_, rfl⟩
  rw [← hS1] at s1
  have hS1l : S1.length ≤ 1000000 := by simp at hT; omega
  obtain ⟨f, hf⟩ : ∃ f : Str, f = ⟨F.toArray⟩ := ⟨_, rfl⟩
  have hfl : f.length = F.length := by rw [hf, st_len]
  have c3 : cutS T (some 1) (some ((T.length : Int) - S1.length)) = f := by
    have := cut_take (A := [35]) (R := F ++ R) (p := 1) (k := F.length) hl rfl
    rw [List.take_left] at this
    rw [show (T.length : Int) - S1.length = 1 + (F.length : Int) from by omega, this, hf]
  have hfl2 : f.length ≤ 1000000 := by omega
  have c4 : cutS T (some (1 + (f.length : Int))) none = ⟨R.toArray⟩ := cut_from (A := 35 :: F) (by rw [hl]; simp) (by rw [hfl]; simp; omega)
  rw [← hT0, m_l_term_at]
  have hn0 : (f = "") = (F = []) := by
    rw [hf, ← sg0]
    exact propext st_inj
  have hn48 : (f = "0") = (F = [48]) := by
    rw [hf, ← sg48]
    exact propext st_inj
  by_cases hn : numB F = true
  · rw [if_pos hn]
    have e5 := int_figs hF hn
    rw [← hf] at e5
    simp only [numB, Bool.and_eq_true, Bool.or_eq_true, decide_eq_true_eq] at hn
    obtain ⟨⟨g1, g2⟩, g3⟩ := hn
    have k1 : ¬ f = "" := by rw [hn0]; rintro rfl; simp at g1
    have k2 : ¬ (3 : Int) < f.length := by omega
    by_cases k3 : f = "0"
    · have hl0 : ("0" : Str).length = 1 := by decide +kernel
      rw [k3] at c3 c4 e5
      rw [hl0] at c4
      simp at c4
      have k00 : ¬ ("0" : Str) = "" := by decide +kernel
      simp [hT', hlen1, hS1l, hl0, c1, c2, c3, c4, ← hS1, e5, k00, FL.short]
    · have g4 : F.head? ≠ some 48 := by
        rcases g3 with g3 | g3
        · exact absurd (hn48.mpr g3) k3
        · exact g3
      obtain ⟨a, F', rfl⟩ : ∃ a F', F = a :: F' := by
        cases F with
        | nil => simp at g1
        | cons a F' => exact ⟨a, F', rfl⟩
      have ha : atI f.cps.toList 0 = some a := by
        rw [hf]
        exact atI_get (by decide) rfl
      have ha2 : ¬ (⟨#[a]⟩ : Str) = "0" := sg_ne sg48 fun q => g4 (by rw [q]; rfl)
      simp [hT', hlen1, hS1l, hfl2, c1, c2, c3, c4, ← hS1, e5, k1, k2, k3, ha, ha2, FL.short]
  · rw [if_neg hn]
    by_cases k1 : f = ""
    · have hl0 : ("" : Str).length = 0 := by decide +kernel
      rw [k1] at c3
      simp [hT', hlen1, hS1l, hl0, c1, c2, c3, ← hS1, FL.short]
    · have g1 : 1 ≤ F.length := by
        rcases Nat.eq_zero_or_pos F.length with q | q
        · exact absurd (hn0.mpr (List.length_eq_zero_iff.mp q)) k1
        · exact q
      by_cases k2 : (3 : Int) < f.length
      · simp [hT', hlen1, hS1l, hfl2, c1, c2, c3, ← hS1, k1, k2, FL.short]
      · have g2 : F.length ≤ 3 := by omega
        have h3 : F ≠ [48] ∧ F.head? = some 48 := by
          have hn' : numB F = false := by simpa using hn
          simp only [numB, g1, g2, decide_true, Bool.true_and, Bool.or_eq_false_iff, decide_eq_false_iff_not, Decidable.not_not] at hn'
          exact hn'
        have k3 : ¬ f = "0" := by rw [hn48]; exact h3.1
        have ha : atI f.cps.toList 0 = some 48 := by
          rw [hf, st_l, head_tail h3.2]
          exact atI_get (by decide) rfl
        simp [hT', hlen1, hS1l, hfl2, c1, c2, c3, ← hS1, k1, k2, k3, ha, sg48, FL.short]
structure WAt (T : Str) (w R : List Nat) (f : Str) (S r : Str) : Prop where
  hT' : T.length ≤ 1000000
  c1 : ¬ cutS T none (some 1) = "#"
  hS : S = PySem.Txt.lstripChars T "abcdefghijklmnopqrstuvwxyz"
  hSl : S.length ≤ 1000000
  c3 : cutS T none (some ((T.length : Int) - S.length)) = f
  hfl : f.length = w.length
  hfl2 : f.length ≤ 1000000
  c4 : cutS T (some (f.length : Int)) none = r
  hrl : r.cps.toList = R
  hrl2 : r.length ≤ 1000000
theorem w_at {T : Str} {w R : List Nat} (hw : ∀ c ∈ w, isL c = true) (hR : ∀ c ∈ R.head?, isL c = false) (h35 : (w ++ R).head? ≠ some 35) (hT : T.length ≤ 40000) (hl : T.cps.toList = w ++ R) : ∃ S, WAt T w R ⟨w.toArray⟩ S ⟨R.toArray⟩ := by
  have hlen : T.length = w.length + R.length := by rw [len_l, hl]; simp
  have s1 := strip_L hl hw hR
  refine ⟨_, by omega, fun q => h35 ((cut_to1 sg35 hl).mp q), rfl, by omega, ?_, st_len w, by rw [st_len]; omega, ?_, st_l R, by rw [st_len]; omega⟩
  · have := cut_to hl w.length
    rw [List.take_left] at this
    rw [show (T.length : Int) - ((PySem.Txt.lstripChars T "abcdefghijklmnopqrstuvwxyz").length : Nat) = (w.length : Int) from by omega]
    exact this
  · rw [st_len]
    exact cut_from hl rfl
theorem at_noword {w R : List Nat} (hw : ∀ c ∈ w, isL c = true) (hb : wB w = false) (hR : ∀ c ∈ R.head?, isL c = false) (h35 : (w ++ R).head? ≠ some 35) (hT : (w ++ R).length ≤ 40000) :
    m_l_term_at (n + 1) [.str ⟨(w ++ R).toArray⟩] = some .non := by
  obtain ⟨T, hT0⟩ : ∃ T : Str, T = ⟨(w ++ R).toArray⟩ := ⟨_, rfl⟩
  obtain ⟨S, W⟩ := w_at (T := T) hw hR h35 (by rw [hT0, st_len]; exact hT) (by rw [hT0])
  rw [← hT0, m_l_term_at]
  obtain ⟨f, hf⟩ : ∃ f : Str, f = ⟨w.toArray⟩ := ⟨_, rfl⟩
  rw [← hf] at W
  obtain ⟨hT', c1, hS, hSl, c3, hfl, hfl2, c4, hrl, hrl2⟩ := W
  by_cases g1 : 1 ≤ w.length
  · have g2 : ¬ w.length ≤ 8 := fun g2 => by simp [wB, g1, g2] at hb
    have g1' : (1 : Int) ≤ f.length := by omega
    have g2' : ¬ (f.length : Int) ≤ 8 := by omega
    simp [hT', hSl, hfl2, c1, c3, c4, ← hS, g1', g2', FL.short]
  · have g1' : ¬ (1 : Int) ≤ f.length := by omega
    simp [hT', hSl, hfl2, c1, c3, c4, ← hS, g1', FL.short]
theorem at_word {w R : List Nat} (hw : ∀ c ∈ w, isL c = true) (hb : wB w = true) (hR : ∀ c ∈ R.head?, isL c = false) (h4 : R.head? ≠ some 40) (hT : (w ++ R).length ≤ 40000) :
    m_l_term_at (n + 1) [.str ⟨(w ++ R).toArray⟩] = some (.tup [.str ⟨w.toArray⟩, .str ⟨R.toArray⟩]) := by
  obtain ⟨T, hT0⟩ : ∃ T : Str, T = ⟨(w ++ R).toArray⟩ := ⟨_, rfl⟩
  obtain ⟨S, W⟩ := w_at (T := T) hw hR (fun q => by
    obtain ⟨c, hc, hc2⟩ := lets_head (R := R) hw hb
    rw [q] at hc
    cases hc
    exact hc2 rfl) (by rw [hT0, st_len]; exact hT) (by rw [hT0])
  rw [← hT0, m_l_term_at]
  obtain ⟨f, hf⟩ : ∃ f : Str, f = ⟨w.toArray⟩ := ⟨_, rfl⟩
  obtain ⟨r, hr⟩ : ∃ r : Str, r = ⟨R.toArray⟩ := ⟨_, rfl⟩
  rw [← hf, ← hr] at W
  rw [← hf, ← hr]
  obtain ⟨hT', c1, hS, hSl, c3, hfl, hfl2, c4, hrl, hrl2⟩ := W
  simp only [wB, Bool.and_eq_true, decide_eq_true_eq] at hb
  have g1' : (1 : Int) ≤ f.length := by omega
  have g2' : (f.length : Int) ≤ 8 := by omega
  have c5 : ¬ cutS r none (some 1) = "(" := fun q => h4 ((cut_to1 sg40 hrl).mp q)
  simp [hT', hSl, hfl2, hrl2, c1, c3, c4, c5, ← hS, g1', g2', FL.short]
theorem at_bare {w R : List Nat} (hw : ∀ c ∈ w, isL c = true) (hb : wB w = true) (hT : (w ++ 40 :: 41 :: R).length ≤ 40000) :
    m_l_term_at (n + 1) [.str ⟨(w ++ 40 :: 41 :: R).toArray⟩] = some (.tup [.tup [.str ⟨w.toArray⟩], .str ⟨R.toArray⟩]) := by
  obtain ⟨T, hT0⟩ : ∃ T : Str, T = ⟨(w ++ 40 :: 41 :: R).toArray⟩ := ⟨_, rfl⟩
  obtain ⟨S, W⟩ := w_at (T := T) (R := 40 :: 41 :: R) hw np_L (fun q => by
    obtain ⟨c, hc, hc2⟩ := lets_head (R := 40 :: 41 :: R) hw hb
    rw [q] at hc
    cases hc
    exact hc2 rfl) (by rw [hT0, st_len]; exact hT) (by rw [hT0])
  rw [← hT0, m_l_term_at]
  obtain ⟨f, hf⟩ : ∃ f : Str, f = ⟨w.toArray⟩ := ⟨_, rfl⟩
  obtain ⟨r, hr⟩ : ∃ r : Str, r = ⟨(40 :: 41 :: R).toArray⟩ := ⟨_, rfl⟩
  rw [← hf, ← hr] at W
  rw [← hf]
  obtain ⟨hT', c1, hS, hSl, c3, hfl, hfl2, c4, hrl, hrl2⟩ := W
  simp only [wB, Bool.and_eq_true, decide_eq_true_eq] at hb
  have g1' : (1 : Int) ≤ f.length := by omega
  have g2' : (f.length : Int) ≤ 8 := by omega
  have c5 : cutS r none (some 1) = "(" := (cut_to1 sg40 hrl).mpr rfl
  obtain ⟨r2, hr2⟩ : ∃ r : Str, r = ⟨(41 :: R).toArray⟩ := ⟨_, rfl⟩
  have c6 : cutS r (some 1) none = r2 := by rw [hr2]; exact cut_from (A := [40]) hrl rfl
  have hr2l : r2.cps.toList = 41 :: R := by rw [hr2]
  have hr2l2 : r2.length ≤ 1000000 := by
    have := len_l r
    rw [hrl] at this
    have h2 := len_l r2
    rw [hr2l] at h2
    simp at this h2
    omega
  have c7 : cutS r2 none (some 1) = ")" := (cut_to1 sg41 hr2l).mpr rfl
  have c8 : cutS r2 (some 1) none = ⟨R.toArray⟩ := cut_from (A := [41]) hr2l rfl
  simp [hT', hSl, hfl2, hrl2, hr2l2, c1, c3, c4, c5, c6, c7, c8, ← hS, g1', g2', FL.short]
theorem at_op {w R : List Nat} {k : Nat} (hw : ∀ c ∈ w, isL c = true) (hb : wB w = true) (hR : R.head? ≠ some 41) (hT : (w ++ 40 :: R).length ≤ 40000) (hM : Mb k R)
    (hf : ∀ R : List Nat, R.length ≤ 40000 → Mb k R → m_l_term_at n [.str ⟨R.toArray⟩] = some (resD (pT n R))) :
    m_l_term_at (n + 1) [.str ⟨(w ++ 40 :: R).toArray⟩] = some (resD (pL (pT n) R.length R [.str ⟨w.toArray⟩])) := by
  obtain ⟨T, hT0⟩ : ∃ T : Str, T = ⟨(w ++ 40 :: R).toArray⟩ := ⟨_, rfl⟩
  obtain ⟨S, W⟩ := w_at (T := T) (R := 40 :: R) hw np_L (fun q => by
    obtain ⟨c, hc, hc2⟩ := lets_head (R := 40 :: R) hw hb
    rw [q] at hc
    cases hc
    exact hc2 rfl) (by rw [hT0, st_len]; exact hT) (by rw [hT0])
  rw [← hT0, m_l_term_at]
  obtain ⟨f, hf0⟩ : ∃ f : Str, f = ⟨w.toArray⟩ := ⟨_, rfl⟩
  obtain ⟨r, hr⟩ : ∃ r : Str, r = ⟨(40 :: R).toArray⟩ := ⟨_, rfl⟩
  rw [← hf0, ← hr] at W
  obtain ⟨hT', c1, hS, hSl, c3, hfl, hfl2, c4, hrl, hrl2⟩ := W
  simp only [wB, Bool.and_eq_true, decide_eq_true_eq] at hb
  have g1' : (1 : Int) ≤ f.length := by omega
  have g2' : (f.length : Int) ≤ 8 := by omega
  have c5 : cutS r none (some 1) = "(" := (cut_to1 sg40 hrl).mpr rfl
  obtain ⟨r2, hr2⟩ : ∃ r : Str, r = ⟨R.toArray⟩ := ⟨_, rfl⟩
  have c6 : cutS r (some 1) none = r2 := by rw [hr2]; exact cut_from (A := [40]) hrl rfl
  have hr2l : r2.cps.toList = R := by rw [hr2]
  have hRl : R.length ≤ 40000 := by simp at hT; omega
  have hr2l3 : r2.length = R.length := by rw [len_l, hr2l]
  have hr2l2 : r2.length ≤ 1000000 := by omega
  have c7 : ¬ cutS r2 none (some 1) = ")" := fun q => hR ((cut_to1 sg41 hr2l).mp q)
  have lo := loop_ok (m := m_l_term_at n) hf (fun R t R' e => ⟨pT_t n R t R' e, pT_some n R t R' e⟩) (c := cYes (DL.intsFrom 0 R.length)) (fun _ => rfl) (x0 := some (.val (.str T))) (x1 := some (.val (.str "abcdefghijklmnopqrstuvwxyz"))) (x2 := none) (x3 := some (.val (.str f))) (DL.intsFrom 0 R.length) R [.str f] none none hRl hM (by simp; omega)
  have hdl : (DL.intsFrom 0 R.length).length = R.length := by rw [intsFrom_eq]; simp
  rw [hdl, ← hr2] at lo
  rw [← hf0]
  have hr1 : rng1 [.int (r2.length : Nat)] = some (DL.intsFrom 0 R.length) := by
    have := rng1_ok (j := (R.length : Int)) (by omega) (by omega)
    rw [Int.toNat_natCast] at this
    rw [hr2l3]
    exact this
  have hdef : ∀ E : PEnv, E = [some (.val (.str T)), some (.val (.str "abcdefghijklmnopqrstuvwxyz")), none, some (.val (.str f)), some (.val (.str r2)), some (.val (.tup [.str f])), none, none] →
      mFor (mRng1 (mCons (mCB fLen (mCons (mVar 4) mNil)) mNil)) cYes (gN 6) (b_l_term_at_1 (m_l_term_at n)) E = mLoop (cYes (DL.intsFrom 0 R.length)) (gN 6) (b_l_term_at_1 (m_l_term_at n)) (DL.intsFrom 0 R.length) E := fun E hE => by
    subst hE
    exact mFor_of (mRng1_of (ds := [.int (r2.length : Nat)]) (by simp [hr2l2]) hr1)
  suffices fin : ∃ ε', mSeq (mFor (mRng1 (mCons (mCB fLen (mCons (mVar 4) mNil)) mNil)) cYes (gN 6) (b_l_term_at_1 (m_l_term_at n))) (mRet (mPure .non)) [some (.val (.str T)), some (.val (.str "abcdefghijklmnopqrstuvwxyz")), none, some (.val (.str f)), some (.val (.str r2)), some (.val (.tup [.str f])), none, none] = some (.ok (.rt (.val (resD (pL (pT n) R.length R [.str f])))), ε') by
    obtain ⟨ε', e⟩ := fin
    refine fnP_of rfl (ε := ε') ?_
    refine (seq_nx (ε' := [some (.val (.str T)), some (.val (.str "abcdefghijklmnopqrstuvwxyz")), none, none, none, none, none, none]) (by simp [startP])).trans ?_
    refine (seq_nx (ε' := [some (.val (.str T)), some (.val (.str "abcdefghijklmnopqrstuvwxyz")), none, none, none, none, none, none]) (by simp [hT', c1])).trans ?_
    refine (seq_nx (ε' := [some (.val (.str T)), some (.val (.str "abcdefghijklmnopqrstuvwxyz")), none, some (.val (.str f)), none, none, none, none]) (by simp [hT', hSl, c3, ← hS])).trans ?_
    refine (seq_nx (ε' := [some (.val (.str T)), some (.val (.str "abcdefghijklmnopqrstuvwxyz")), none, some (.val (.str f)), some (.val (.str r)), none, none, none]) (by simp [hT', hfl2, c4])).trans ?_
    refine (seq_nx (ε' := [some (.val (.str T)), some (.val (.str "abcdefghijklmnopqrstuvwxyz")), none, some (.val (.str f)), some (.val (.str r)), none, none, none]) (by simp [hfl2, g1', g2'])).trans ?_
    refine (seq_nx (ε' := [some (.val (.str T)), some (.val (.str "abcdefghijklmnopqrstuvwxyz")), none, some (.val (.str f)), some (.val (.str r)), none, none, none]) (by simp [hrl2, c5])).trans ?_
    refine (seq_nx (ε' := [some (.val (.str T)), some (.val (.str "abcdefghijklmnopqrstuvwxyz")), none, some (.val (.str f)), some (.val (.str r2)), some (.val (.tup [.str f])), none, none]) (by simp [hrl2, c6, FL.short])).trans ?_
    refine (seq_nx (ε' := [some (.val (.str T)), some (.val (.str "abcdefghijklmnopqrstuvwxyz")), none, some (.val (.str f)), some (.val (.str r2)), some (.val (.tup [.str f])), none, none]) (by simp [hr2l2, c7])).trans ?_
    exact e
  rcases lo with ⟨ε', e⟩ | ⟨e0, ε', e⟩
  · refine ⟨ε', ?_⟩
    rw [mSeq_run]
    simp only [mBind, hdef _ rfl, e]
    rfl
  · rw [e0]
    exact ⟨ε', (seq_nx ((hdef _ rfl).trans e)).trans rfl⟩
end
theorem term_at_ok : ∀ (n k : Nat) (R : List Nat), k < n → R.length ≤ 40000 → Mb k R → m_l_term_at n [.str ⟨R.toArray⟩] = some (resD (pT n R))
  | 0, k, R, hk, _, _ => by omega
  | n + 1, k, R, hk, hT, hM => by
    have s := bg_s R
    rw [pT]
    generalize bg R = o at s
    cases s with
    | num hF hR2 h => rw [at_num hF hR2 hT, if_pos h]; rfl
    | nonum hF hR2 h => rw [at_num hF hR2 hT, if_neg (by rw [h]; decide)]; rfl
    | bare hw h => rw [at_bare hw h hT]; rfl
    | word hw h hR2 h4 => rw [at_word hw h hR2 h4 hT]; rfl
    | noword hw h hR2 h35 => rw [at_noword hw h hR2 h35 hT]; rfl
    | op hw h hR2 =>
      obtain ⟨np1, np2⟩ := lets_np hw
      have hk1 : 1 ≤ k := hM.opened_pos (by omega)
      obtain ⟨k, rfl⟩ : ∃ l, k = l + 1 := ⟨k - 1, by omega⟩
      exact at_op hw h hR2 hT (hM.opened (by omega)) fun R hT hM => term_at_ok n k R (by omega) hT hM
end KX

namespace KX
open PySem PySem.Spec PyProof.Rows L2 DL FL NdefX LamX
theorem wtL_app : ∀ a b : List D, wtL (a ++ b) = wtL a + wtL b
  | [], b => by simp [wtL]
  | d :: a, b => by
    rw [List.cons_append]
    simp only [wtL, wtL_app a b]
    omega
theorem dpL_app : ∀ (a b : List D) (n : Nat), dpL a ≤ n → dpL b ≤ n → dpL (a ++ b) ≤ n
  | [], b, n, _, h => h
  | d :: a, b, n, h1, h2 => by
    rw [List.cons_append]
    simp only [dpL] at h1 ⊢
    have := dpL_app a b n (by omega) h2
    omega
theorem wt_str (w : List Nat) : FL.wt (.str ⟨w.toArray⟩) = w.length := by simp [FL.wt]
theorem bg_sz {R R' : List Nat} {t : D} (h : bg R = some (.leaf t, R')) : FL.wt t + 1 + 12 * R'.length ≤ 12 * R.length ∧ dp t ≤ 1 := by
  have s := bg_s R
  rw [h] at s
  cases s with
  | num hF hR hk =>
    have := int_wt (valF_lt hF hk)
    refine ⟨?_, by simp [dp]⟩
    simp only [List.length_cons, List.length_append]
    omega
  | bare hw hk =>
    refine ⟨?_, by simp [dp, dpL]⟩
    simp only [FL.wt, wtL, List.length_cons, List.length_append]
    simp
    omega
  | word hw hk hR h4 =>
    simp only [wB, Bool.and_eq_true, decide_eq_true_eq] at hk
    refine ⟨?_, by simp [dp]⟩
    rw [wt_str, List.length_append]
    omega
theorem pL_sz {f : List Nat → Option (D × List Nat)} {n : Nat} (hf : ∀ R t R', f R = some (t, R') → FL.wt t + 1 + 12 * R'.length ≤ 12 * R.length ∧ dp t ≤ n) : ∀ (m : Nat) (R : List Nat) (acc : List D) (t : D) (R' : List Nat), dpL acc ≤ n → pL f m R acc = some (t, R') → FL.wt t + 1 + 12 * R'.length ≤ wtL acc + 12 * R.length ∧ dp t ≤ n + 1
  | 0, R, acc, t, R', _, h => by cases h
  | m + 1, R, acc, t, R', ha, h => by
    rw [pL] at h
    split at h
    · cases h
    · rename_i t1 R1 e
      obtain ⟨h1, h2⟩ := hf R t1 R1 e
      have hd : dpL (acc ++ [t1]) ≤ n := dpL_app _ _ _ ha (by simp [dpL]; omega)
      have hw : wtL (acc ++ [t1]) = wtL acc + (FL.wt t1 + 1) := by rw [wtL_app]; simp [wtL]
      split at h
      · rename_i h4
        cases h
        have hl : R1.length = R1.tail.length + 1 := tail_len h4
        refine ⟨?_, ?_⟩
        · simp only [FL.wt, hw]
          omega
        · simp only [dp]
          omega
      · split at h
        · rename_i h4 h5
          have hl : R1.length = (R1.drop 2).length + 2 := by
            have q5 := congrArg List.length (take2 h5)
            exact q5
          obtain ⟨g1, g2⟩ := pL_sz hf m _ _ t R' hd h
          exact ⟨by omega, g2⟩
        · cases h
theorem pT_sz : ∀ (n : Nat) (R : List Nat) (t : D) (R' : List Nat), pT n R = some (t, R') → FL.wt t + 1 + 12 * R'.length ≤ 12 * R.length ∧ dp t ≤ n
  | 0, R, t, R', h => by cases h
  | n + 1, R, t, R', h => by
    rw [pT] at h
    split at h
    · cases h
    · rename_i t1 R1 e
      cases h
      obtain ⟨a, b⟩ := bg_sz e
      exact ⟨a, by omega⟩
    · rename_i w R1 e
      obtain ⟨v, rfl, e2, hv, hw, _⟩ := bg_op e
      have hl : R.length = v.length + (R1.length + 1) := by rw [e2]; simp
      obtain ⟨a, b⟩ := pL_sz (fun R t R' => pT_sz n R t R') _ _ _ t R' (by simp [dpL, dp]) h
      have hw2 : wtL [.str (⟨v.toArray⟩ : Str)] = v.length + 1 := by simp [wtL, FL.wt]
      exact ⟨by omega, b⟩
theorem PTm.tame {t : D} (h : PTm t) : FL.tame t = true := by
  have hs : ∀ {w : List Nat}, (∀ c ∈ w, isL c = true) → FL.tame (.str ⟨w.toArray⟩) = true := fun {w} hw => by
    simp only [FL.tame, List.all_eq_true, decide_eq_true_eq]
    intro c hc
    have h1 := hw c (by simpa using hc)
    simp only [isL, Bool.and_eq_true, decide_eq_true_eq] at h1
    have : (16 : Nat) ^ 8 = 4294967296 := by decide
    omega
  induction h with
  | word hw _ => exact hs hw
  | num hi =>
    simp only [FL.tame, Bool.and_eq_true, decide_eq_true_eq]
    omega
  | call hw _ _ ih =>
    simp only [FL.tame, tameL, Bool.and_eq_true]
    have := hs hw
    simp only [FL.tame] at this
    exact ⟨this, tameL_of ih⟩
def Gd (T : Str) : Prop := T.length ≤ 3000 ∧ Mb 40 T.cps.toList
theorem Gd.of_short {T : Str} (h : T.length ≤ 40) : Gd T := ⟨by omega, Mb.low (Nat.le_trans (List.count_le_length ..) (by rw [← len_l]; exact h))⟩
section
variable {T : Str}
theorem term_of_ok (h : Gd T) : m_l_term_of [.str T] = some (match rdT T with | some t => .ilst [t] | none => .ilst []) := by
  have e := term_at_ok 60 50 T.cps.toList (by omega) (by rw [← len_l]; have := h.1; omega) (h.2.mono (by omega))
  rw [back] at e
  unfold rdT
  cases e2 : pT 60 T.cps.toList with
  | none =>
    rw [e2] at e
    have e' : m_l_term_at 60 [.str T] = some .non := e
    simp [m_l_term_of, e', FL.isNon]
  | some tr =>
    obtain ⟨t, R'⟩ := tr
    rw [e2] at e
    obtain ⟨d0, hd0⟩ : ∃ d0 : D, d0 = .tup [t, .str ⟨R'.toArray⟩] := ⟨_, rfl⟩
    have e' : m_l_term_at 60 [.str T] = some d0 := by rw [hd0]; exact e
    have hx0 : fIx d0 (.int 0) = some t := by rw [hd0]; rfl
    obtain ⟨r, hr⟩ : ∃ r : Str, r = ⟨R'.toArray⟩ := ⟨_, rfl⟩
    have hx1 : fIx d0 (.int 1) = some (.str r) := by rw [hd0, hr]; rfl
    have hn0 : FL.isNon d0 = false := by rw [hd0]; rfl
    have hr0 : (r = "") = (R' = []) := by
      rw [hr, ← sg0]
      exact propext st_inj
    cases R' with
    | nil =>
      have hr1 : r = "" := hr0.mpr rfl
      simp [m_l_term_of, e', hx0, hx1, hn0, hr1, FL.short]
    | cons c R2 =>
      have hr1 : ¬ r = "" := fun q => by rw [hr0] at q; cases q
      simp [m_l_term_of, e', hx0, hx1, hn0, hr1, FL.short]
theorem repr_read {t : D} (hT : T.length ≤ 40000) (h : rdT T = some t) : ∃ z, fReprLV [.ilst [t]] = some (.str z) := by
  have pt := rdT_t h
  unfold rdT at h
  split at h
  · rename_i t' e
    cases h
    obtain ⟨a, b⟩ := pT_sz _ _ _ _ e
    rw [← len_l] at a
    refine ⟨_, reprL_tame (ds := [t]) (by simp only [tameL, pt.tame, Bool.and_self]) ?_ ?_⟩
    · simp only [wtL]
      omega
    · simp only [dpL]
      omega
  · cases h
theorem repr_row : ∃ z, fReprLV [.tup [.int 0]] = some (.str z) := ⟨_, repr_tame (ds := [.int 0]) (by decide +kernel) (by decide +kernel) (by decide +kernel)⟩
theorem right_ok (h : Gd T) : m_l_right [.str T] = some (.bl true) := by
  have e1 := term_of_ok h
  have e2 := told_ok (T := T) (by have := h.1; omega) (h.2.mono (by omega))
  cases e : rdT T with
  | some t =>
    rw [e] at e1 e2
    dsimp only at e1 e2
    obtain ⟨z, hz⟩ := repr_read (by have := h.1; omega) e
    obtain ⟨d, hd⟩ : ∃ d : D, d = .ilst [t] := ⟨_, rfl⟩
    have ht : truL d = some true := by rw [hd]; rfl
    rw [← hd] at e1 e2 hz
    simp [m_l_right, e1, e2, ht, hz]
  | none =>
    rw [e] at e1 e2
    dsimp only at e1 e2
    obtain ⟨z, hz⟩ := repr_row
    obtain ⟨d, hd⟩ : ∃ d : D, d = .tup [.int 0] := ⟨_, rfl⟩
    have ht : truL (.ilst []) = some false := rfl
    rw [← hd] at hz e2
    have hs : FL.short 1000 [D.int 0] = some [.int 0] := rfl
    simp [m_l_right, e1, e2, ht, hs, ← hd, hz]
end
theorem told_no {d : D} (h : fIsi [d, .ty "str"] = some (.bl false)) : m_l_told [d] = some (.tup [.int 0]) := by
  simp [m_l_told, m_p_read_term, h, runX_eq]
end KX

namespace KX
open PySem PySem.Spec PyProof.Rows L2 DL FL NdefX LamX
def sgns : List Str := ["", " ", ",", "(", ")", "#", "a", "z", "0", "12", ", ", "A", "-", "()", "thing", "\n", "="]
theorem sgns_ok : ∀ s ∈ sgns, s.length ≤ 5 ∧ nO s.cps.toList ≤ 1 := by decide +kernel
theorem bend_ok {T s : Str} {a d : Nat} (hT : T.length ≤ 100000) (ha : a ≤ T.length) (hs : s.length ≤ 5) (hd : d ≤ 2) (hn : nO s.cps.toList ≤ 1) :
    ∃ T' : Str, cutS T none (some (a : Int)) ++ s ++ cutS T (some ((a : Int) + d)) none = T' ∧ T'.length ≤ T.length + 5 ∧ (∀ k, Mb k T.cps.toList → Mb (k + 3) T'.cps.toList) ∧ (cutS T none (some (a : Int))).length ≤ 100000 ∧ (cutS T none (some (a : Int)) ++ s).length ≤ 100005 ∧ (cutS T (some ((a : Int) + d)) none).length ≤ 100000 := by
  have h1 : cutS T none (some (a : Int)) = ⟨(T.cps.toList.take a).toArray⟩ := cut_to rfl a
  have hl := len_l T
  have h2 : cutS T (some ((a : Int) + d)) none = ⟨(T.cps.toList.drop (a + d)).toArray⟩ := by
    by_cases h : a + d ≤ T.length
    · exact cut_from (A := T.cps.toList.take (a + d)) (List.take_append_drop ..).symm (by rw [List.length_take]; omega)
    · unfold cutS
      have e : (a : Int) + d = ((a + d : Nat) : Int) := by omega
      rw [e, HT.sIx_nat, HT.sIx_none, List.drop_of_length_le (by omega), List.drop_of_length_le (by omega)]
      simp
  rw [h1, h2]
  have hs' := len_l s
  refine ⟨_, rfl, ?_, fun k hk => ?_, ?_, ?_, ?_⟩
  · rw [Str.length_append, Str.length_append, st_len (T.cps.toList.take a), st_len (T.cps.toList.drop (a + d)), List.length_take, List.length_drop]
    omega
  · rw [app_l, app_l, st_l, st_l, List.append_assoc]
    have e : T.cps.toList = T.cps.toList.take a ++ ((T.cps.toList.drop a).take d ++ T.cps.toList.drop (a + d)) := by
      conv => lhs; rw [← List.take_append_drop a T.cps.toList]
      congr 1
      rw [← List.drop_drop, List.take_append_drop]
    rw [e] at hk
    refine (Mb.edit (s := s.cps.toList) hk).mono ?_
    rw [List.length_take]
    omega
  · rw [st_len, List.length_take]; omega
  · rw [Str.length_append, st_len (T.cps.toList.take a), List.length_take]; omega
  · rw [st_len, List.length_drop]; omega
theorem bent_turn {n : Int} {p : PV} {T : Str} {x2 x3 x4 x5 : Option PV} (h : Hand n p) (hn : n ≤ 900000) (hT : T.length ≤ 90000) :
    ∃ (T' : Str) (p' : PV) (y3 y4 y5 : Option PV), b_l_text_bent_1 [some p, some (.val (.str T)), x2, x3, x4, x5] = some (.ok .nx, [some p', some (.val (.str T')), x2, y3, y4, y5]) ∧ T'.length ≤ T.length + 5 ∧ (∀ k, Mb k T.cps.toList → Mb (k + 3) T'.cps.toList) ∧ Hand (n + 3) p' := by
  obtain ⟨a, p1, e1, a0, a1, hp1⟩ := take_ok (many := (T.length : Int) + 1) h (by omega) (by omega) (by omega)
  obtain ⟨x, p2, e2, hx, hp2⟩ := pickL_ok (xs := sgns.map D.str) hp1 (by omega) (by simp [sgns]) (by decide +kernel)
  obtain ⟨s, hs, rfl⟩ := List.mem_map.mp hx
  obtain ⟨s1, s2⟩ := sgns_ok s hs
  obtain ⟨d, p3, e3, d0, d1, hp3⟩ := take_ok (many := 3) hp2 (by omega) (by omega) (by omega)
  obtain ⟨a, rfl⟩ : ∃ b : Nat, a = b := ⟨a.toNat, by omega⟩
  obtain ⟨d, rfl⟩ : ∃ b : Nat, d = b := ⟨d.toNat, by omega⟩
  obtain ⟨T', eT, l1, l2, l3, l4, l5⟩ := bend_ok (T := T) (s := s) (a := a) (d := d) (by omega) (by omega) s1 (by omega) s2
  have hT' : T.length ≤ 1000000 := by omega
  generalize hA : cutS T none (some (a : Int)) = A at eT l3 l4
  generalize hC : cutS T (some ((a : Int) + d)) none = C at eT l5
  have hs1 : A.length + s.length ≤ 1000000 := by rw [← Str.length_append]; omega
  have hs2 : (A ++ s).length + C.length ≤ 1000000 := by omega
  refine ⟨T', p3, some (.val (.int a)), some (.lst (sgns.map D.str)), some (.val (.str s)), ?_, l1, l2, hp3.mono (by omega)⟩
  unfold b_l_text_bent_1
  refine (seq_nx (ε' := [some p1, some (.val (.str T)), x2, some (.val (.int a)), x4, x5]) (by
    simp [hT', e1])).trans ?_
  refine (seq_nx (ε' := [some p1, some (.val (.str T)), x2, some (.val (.int a)), some (.lst (sgns.map D.str)), x5]) (by
    simp [sgns, FL.short])).trans ?_
  refine (seq_nx (ε' := [some p2, some (.val (.str T)), x2, some (.val (.int a)), some (.lst (sgns.map D.str)), some (.val (.str s))]) (by
    generalize sgns.map D.str = L at e2
    simp [e2])).trans ?_
  generalize sgns.map D.str = L
  have hs2' : A.length + s.length + C.length ≤ 1000000 := by rw [← Str.length_append]; exact hs2
  simp [hT', e3, hA, hC, hs1, hs2, hs2', ← eT, Str.length_append]
theorem bent_ok {n : Int} {p : PV} {T : Str} (h : Hand n p) (hn : n ≤ 800000) (hT : T.length ≤ 80000) :
    ∃ (T' : Str) (p' : PV), m_l_text_bent [p, .val (.str T)] = some (.ok (.val (.str T')), [p', .val (.str T)]) ∧ T'.length ≤ T.length + 10 ∧ (∀ k, Mb k T.cps.toList → Mb (k + 6) T'.cps.toList) ∧ Hand (n + 10) p' := by
  obtain ⟨d, p1, e1, d0, d1, hp1⟩ := take_ok (many := 2) h (by omega) (by omega) (by omega)
  obtain ⟨ε', er, T', p2, x2, x3, x4, x5, hl, hm, hp2, rfl⟩ := run_range (c := cYes (DL.intsFrom 0 (1 + d).toNat)) (n := (1 + d).toNat) (g := gN 2) (b := b_l_text_bent_1) (fun j ε => ∃ (T' : Str) (q : PV) (x2 x3 x4 x5 : Option PV), T'.length ≤ T.length + 5 * j ∧ (∀ k, Mb k T.cps.toList → Mb (k + 3 * j) T'.cps.toList) ∧ Hand (n + 1 + 3 * j) q ∧ ε = [some q, some (.val (.str T')), x2, x3, x4, x5]) (fun _ => rfl) (by
      rintro j ε hj ⟨T1, q, x2, x3, x4, x5, hl, hm, hq, rfl⟩
      obtain ⟨T2, q2, y3, y4, y5, e, l1, l2, hq2⟩ := bent_turn (x2 := some (.val (.int (j : Nat)))) (x3 := x3) (x4 := x4) (x5 := x5) hq (by omega) (T := T1) (by omega)
      change Goes (b_l_text_bent_1 [some q, some (.val (.str T1)), some (.val (.int (j : Nat))), x3, x4, x5]) _
      rw [e]
      exact ⟨rfl, T2, q2, _, y3, y4, y5, by omega, fun k hk => (l2 _ (hm k hk)).mono (by omega), hq2.mono (by omega), rfl⟩)
    (ε := [some p1, some (.val (.str T)), none, none, none, none]) ⟨T, p1, none, none, none, none, by omega, fun k hk => hk.mono (by omega), hp1.mono (by omega), rfl⟩
  have hr := rng1_ok (j := 1 + d) (by omega) (by omega)
  refine ⟨T', p2, ?_, by omega, fun k hk => (hm k hk).mono (by omega), hp2.mono (by omega)⟩
  refine fnF_of rfl (ε := [some p2, some (.val (.str T')), x2, x3, x4, x5]) ?_ rfl
  unfold startP
  have e1' : mV (mCall m_l_take (mArgS 0 (mArgV (mPure (.int 2)) (mPure [])))) [some p, some (.val (.str T)), none, none, none, none] = some (.ok (.int d), [some p1, some (.val (.str T)), none, none, none, none]) := by simp [e1]
  refine (seq_nx (ε' := [some p2, some (.val (.str T')), x2, x3, x4, x5]) ?_).trans (by simp)
  refine (mFor_of (mRng1_of (ds := [.int (1 + d)]) (ε' := [some p1, some (.val (.str T)), none, none, none, none]) ?_ hr)).trans er
  show mCons _ mNil [some p, some (.val (.str T)), none, none, none, none] = _
  simp [e1', -mV_run]
end KX

namespace KX
open PySem PySem.Spec PyProof.Rows L2 DL FL NdefX LamX
theorem Mb.step {k : Nat} {Z : List Nat} (h : Mb k Z) : Mb (k + 1) (40 :: Z) := fun P Q e => by
  cases P with
  | nil => simp [nO_nil]
  | cons c P =>
    rw [List.cons_append] at e
    cases e
    have := h P Q rfl
    rw [nO_cons, nC_cons]
    simp
    omega
theorem Mb.nil {k : Nat} : Mb k [] := Mb.low (by simp [nO_nil])
theorem okW_L {w : Str} (h : okW w = true) : nO w.cps.toList = 0 ∧ nC w.cps.toList = 0 := no_par fun c hc => by
  have := (okW_ok h).2.2 c hc
  omega
theorem parts_bal {ds : List D} (h : ∀ d ∈ ds, nO (txC d) = nC (txC d) ∧ Mb (dp d) (txC d)) : nO (txR ds) = nC (txR ds) ∧ Mb (dpL ds) (txR ds) := by
  induction ds with
  | nil => rw [txR_nil]; exact ⟨rfl, Mb.nil⟩
  | cons d ds ih =>
    obtain ⟨a, b⟩ := h d (List.mem_cons_self ..)
    obtain ⟨a2, b2⟩ := ih fun x hx => h x (List.mem_cons_of_mem _ hx)
    rw [txR_cons]
    have e : 44 :: 32 :: (txC d ++ txR ds) = [44, 32] ++ (txC d ++ txR ds) := rfl
    refine ⟨?_, ?_⟩
    · rw [e]
      simp only [nO_app, nC_app]
      rw [a, a2]
      rfl
    · rw [e]
      refine Mb.app (Mb.low (by have z : nO [44, 32] = 0 := (by decide +kernel); omega)) (by decide +kernel) (Mb.app (b.mono ?_) (by omega) (b2.mono ?_))
      · simp only [dpL]; omega
      · simp only [dpL]; omega
theorem GT.bal {t : D} (h : GT t) : nO (txC t) = nC (txC t) ∧ Mb (dp t) (txC t) := by
  induction h with
  | word h =>
    rw [txC_str]
    obtain ⟨a, b⟩ := okW_L h
    exact ⟨by omega, Mb.low (by omega)⟩
  | num h =>
    rename_i i
    have hf : nO (figs i).cps.toList = 0 ∧ nC (figs i).cps.toList = 0 := no_par fun c hc => by
      have := (small_ok h).2.2.1 c hc
      omega
    rw [txC_int]
    refine ⟨by rw [nO_cons, nC_cons, hf.1, hf.2]; rfl, Mb.low (by rw [nO_cons, hf.1]; simp)⟩
  | call hw hd ih =>
    rename_i w ds
    obtain ⟨a, b⟩ := parts_bal ih
    obtain ⟨c, d⟩ := okW_L hw
    have h2 : nO ((txR ds).drop 2) = nC ((txR ds).drop 2) ∧ Mb (dpL ds) ((txR ds).drop 2) := by
      cases ds with
      | nil => rw [txR_nil]; exact ⟨rfl, Mb.nil⟩
      | cons x ds =>
        rw [txR_cons] at a b ⊢
        have e : 44 :: 32 :: (txC x ++ txR ds) = [44, 32] ++ (txC x ++ txR ds) := rfl
        rw [e] at a b
        refine ⟨?_, b.behind (by decide +kernel)⟩
        have h3 : nO [44, 32] = 0 := by decide +kernel
        have h4 : nC [44, 32] = 0 := by decide +kernel
        rw [nO_app, nC_app, h3, h4] at a
        show nO (txC x ++ txR ds) = nC (txC x ++ txR ds)
        omega
    obtain ⟨h3, h4⟩ := h2
    rw [txC_call]
    have e1 : nO [41] = 0 := by decide +kernel
    have e2 : nC [41] = 1 := by decide +kernel
    have hdp : dp (.tup (.str w :: ds)) = dpL ds + 1 := dp_call w ds
    refine ⟨?_, ?_⟩
    · simp only [nO_app, nC_app, nO_cons, nC_cons, c, d, h3, e1, e2]
      simp
      try omega
    · rw [hdp]
      exact Mb.app (Mb.low (by omega)) (by omega) (Mb.step (Mb.app h4 (by omega) (Mb.low (by omega))))
theorem txt_gd {t : D} (h : GT t) (hn : nodD t ≤ 200) (hd : dp t ≤ 30) : Gd (txt t) ∧ (txt t).length ≤ 2000 ∧ Mb 30 (txt t).cps.toList := by
  have hl := h.len
  have hlt : (txt t).length = (txC t).length := by rw [len_l, txt_l]
  have hb : Mb 30 (txt t).cps.toList := by rw [txt_l]; exact h.bal.2.mono hd
  exact ⟨⟨by omega, hb.mono (by omega)⟩, by omega, hb⟩
end KX

namespace KX
open PySem PySem.Spec PyProof.Rows L2 DL FL NdefX LamX
theorem all_right {i j : Nat} {Ts : List Str} (hT : ∀ T ∈ Ts, Gd T) {te : M D} {ε : PEnv} (hi : ε[i]? = some (some (.lst (Ts.map D.str)))) (hl : Ts.length ≤ 1000000)
    (hg : ∀ T ∈ Ts, GoesG (gN j (.str T) (wipeP ε [j])) fun ε1 => te ε1 = some (.ok (.bl true), ε1) ∧ restore ε ε1 [j] = ε) :
    mAllF (mLc (mGetL i) (cSlot i) (gN j) (mPure true) te [j]) ε = some (.ok (.bl true), ε) := by
  have ec := comp_look (toD := D.str) (c := cSlot i (Ts.map D.str)) (g := gN j) (tt := mPure true) (te := te) (vs := [j]) (ε := ε) (fun _ => true) (fun _ => .bl true) (by simp [cSlot, hi]) Ts fun T h => by
    obtain ⟨ε1, e1, h2, h3⟩ := (hg T h).out
    rw [e1]
    exact ⟨rfl, fun _ => h2, h3⟩
  rw [List.filter_eq_self.mpr fun _ _ => rfl] at ec
  have eb := bools_fnX (fun _ : Str => true) Ts
  have hall : (Ts.map fun _ => true).all id = true := by simp
  obtain ⟨xs, hxs⟩ : ∃ xs, xs = Ts.map D.str := ⟨_, rfl⟩
  obtain ⟨bs, hbs⟩ : ∃ bs, bs = Ts.map fun _ => true := ⟨_, rfl⟩
  obtain ⟨ds, hds⟩ : ∃ ds, ds = Ts.map fun _ => D.bl true := ⟨_, rfl⟩
  have hxl : xs.length ≤ 1000000 := by rw [hxs, List.length_map]; exact hl
  rw [← hxs] at ec hi
  rw [← hbs] at eb hall
  rw [← hds] at ec eb
  simp [hi, hxl, ec, eb, hall]
inductive JBt (k5 k6 k7 k9 k10 : Option PV) (x0 x1 x2 x4 x8 x12 x13 x14 x15 : Option PV) (n : Int) : Nat → List D → PEnv → Prop
  | mk {j : Nat} {acc : List D} {p : PV} (Ts : List Str) (h1 : acc = Ts.map .str) (h2 : Ts.length = j) (h3 : ∀ T ∈ Ts, Gd T) (hp : Hand (n + 10 * j) p) :
      JBt k5 k6 k7 k9 k10 x0 x1 x2 x4 x8 x12 x13 x14 x15 n j acc [x0, x1, x2, some p, x4, k5, k6, k7, x8, k9, k10, none, x12, x13, x14, x15]
section
variable {K : BK}
theorem turn_ok (hK : K.Ok) {n : Int} {p : PV} (h : Hand n p) (hn : n ≤ 300000) {x0 x1 x2 x5 x6 x7 x9 x10 : Option PV} :
    ∃ (p' : PV) (y6 y7 y9 y10 : Option PV), b_law_1 [x0, x1, x2, some p, some (.val K.d), x5, x6, x7, none, x9, x10, none, none, none, none, none] = some (.ok .nx, [x0, x1, x2, some p', some (.val K.d), x5, y6, y7, none, y9, y10, none, none, none, none, none]) ∧ Hand (n + 2000) p' := by
  have hfew := hK.pk.few
  have hpl : K.ps.length ≤ 1000000 := by omega
  have hnl : (namesOf K.ps).length = K.ps.length := by unfold namesOf; rw [List.length_map]
  obtain ⟨ss, p2, e1, hss, hsl, hp2⟩ := sorts_drawn_ok hK (most := 12) h (by omega) (by omega) (by omega)
  obtain ⟨x, p3, e3, hx, hp3⟩ := pickL_ok (xs := D.str th :: D.str th :: (namesOf K.ps).map .str) hp2 (by omega) (by simp) (by simp; omega)
  obtain ⟨s, rfl, hs⟩ : ∃ s, x = .str s ∧ (s = th ∨ s ∈ namesOf K.ps) := by
    rcases List.mem_cons.mp hx with rfl | hx
    · exact ⟨th, rfl, .inl rfl⟩
    · rcases List.mem_cons.mp hx with rfl | hx
      · exact ⟨th, rfl, .inl rfl⟩
      · obtain ⟨s, hs, rfl⟩ := List.mem_map.mp hx
        exact ⟨s, rfl, .inr hs⟩
  obtain ⟨L, p4, e4, L0, L9, hp4⟩ := take_ok (many := 9) hp3 (by omega) (by omega) (by omega)
  obtain ⟨t, p5, e5, ht, hc, hp5, hd⟩ := open_ok (ss := ss) hK (by omega) 60 L s (by omega) (by omega) hs p4 _ hp4 (hbf_ok (by omega) (by omega))
  have hc15 := cf15 (L := L) (by omega)
  have gt := typed_gt hK (ss := ss) (by omega) t s ht
  obtain ⟨g1, g2, g3⟩ := txt_gd gt (by omega) (by omega)
  have e6 := written_ok 60 t gt (by omega) (by omega)
  have ecat : 2 + (namesOf K.ps).length ≤ 1000000 := by omega
  have en : mLcL (cYes (K.ps.map rowD)) (gN 8) (mPure true) e_law_1 [8] (K.ps.map rowD) [] [x0, x1, x2, some p2, some (.val K.d), x5, some (.val (strL ss)), x7, none, x9, x10, none, none, none, none, none] = _ :=
    names_comp (i := 8) rfl e_law_1 fun r _ => by simp [rowD, e_law_1]
  obtain ⟨T, hT⟩ : ∃ T, T = txt t := ⟨_, rfl⟩
  rw [← hT] at g1 g2 g3 e6
  obtain ⟨acc, ε', ec, ⟨Ts, rfl, hTl, hTs, hp6⟩⟩ := comp_range (c := cYes (DL.intsFrom 0 8)) (g := gN 11) (tt := mPure true) (te := e_law_2) (vs := [11]) (n := 8) (JBt x5 (some (.val (strL ss))) (some (.val (.str s))) (some (.val (.str T))) x10 x0 x1 x2 (some (.val K.d)) none none none none none (n + 1000)) (fun _ => rfl) (by
      rintro k acc ε hk ⟨Ts, rfl, hl, hs, hp⟩
      rename_i q
      obtain ⟨T2, q2, e, l1, l2, hq2⟩ := bent_ok (T := T) hp (by omega) (by omega)
      simp [e_law_2, e]
      exact ⟨Ts ++ [T2], by simp, by simp [hl], fun U hU => by
        rcases List.mem_append.mp hU with z | z
        · exact hs U z
        · rw [List.mem_singleton] at z
          subst z
          exact ⟨by omega, (l2 30 g3).mono (by omega)⟩, hq2.mono (by omega)⟩)
    (ε := [x0, x1, x2, some p5, some (.val K.d), x5, some (.val (strL ss)), some (.val (.str s)), none, some (.val (.str T)), x10, none, none, none, none, none]) ⟨[], rfl, rfl, (fun _ h => nomatch h), hp5.mono (by omega)⟩
  rename_i p6
  refine ⟨p6, some (.val (strL ss)), some (.val (.str s)), some (.val (.str T)), some (.lst ((T :: Ts).map D.str)), ?_, hp6.mono (by omega)⟩
  unfold b_law_1
  refine (seq_nx (ε' := [x0, x1, x2, some p2, some (.val K.d), x5, some (.val (strL ss)), x7, none, x9, x10, none, none, none, none, none]) (by
    simp [e1, FL.short])).trans ?_
  refine (seq_nx (ε' := [x0, x1, x2, some p3, some (.val K.d), x5, some (.val (strL ss)), some (.val (.str s)), none, x9, x10, none, none, none, none, none]) (by
    simp [hpl, en, ecat, e3])).trans ?_
  refine (seq_nx (ε' := [x0, x1, x2, some p5, some (.val K.d), x5, some (.val (strL ss)), some (.val (.str s)), none, some (.val (.str T)), x10, none, none, none, none, none]) (by
    simp [e4, e5, e6])).trans ?_
  have hr := rng1_ok (j := 8) (by omega) (by omega)
  refine (seq_nx (ε' := [x0, x1, x2, some p6, some (.val K.d), x5, some (.val (strL ss)), some (.val (.str s)), none, some (.val (.str T)), some (.lst ((T :: Ts).map D.str)), none, none, none, none, none]) (by
    have hcat : 1 + Ts.length ≤ 1000000 := by omega
    simp [hr, ec, hcat])).trans ?_
  have ha := all_right (i := 10) (j := 12) (Ts := T :: Ts) (te := e_law_3) (ε := [x0, x1, x2, some p6, some (.val K.d), x5, some (.val (strL ss)), some (.val (.str s)), none, some (.val (.str T)), some (.lst ((T :: Ts).map D.str)), none, none, none, none, none]) (fun U hU => by
    rcases List.mem_cons.mp hU with rfl | hU
    · exact g1
    · exact hTs U hU) rfl (by rw [List.length_cons]; omega) fun U hU => by
    have gU : Gd U := by
      rcases List.mem_cons.mp hU with rfl | hU
      · exact g1
      · exact hTs U hU
    have := right_ok gU
    simp [e_law_3, this]
  generalize mAllF (mLc (mGetL 10) (cSlot 10) (gN 12) (mPure true) e_law_3 [12]) = MA at ha ⊢
  simp only [List.map_cons] at ha
  simp [ha]
end
theorem cell_ok {ns : List Int} (hl : ns.length ≤ 63) {k : Int} (k0 : 0 ≤ k) (k1 : k ≤ 100) {x1 x3 x4 x5 x6 x7 x9 x10 : Option PV} :
    ∃ (y3 y4 y5 y6 y7 y9 y10 : Option PV), b_law_2 [some (.val (.ilst (ns.map D.int))), x1, some (.val (.int k)), x3, x4, x5, x6, x7, none, x9, x10, none, none, none, none, none] =
      some (.ok .nx, [some (.val (.ilst (ns.map D.int))), x1, some (.val (.int k)), y3, y4, y5, y6, y7, none, y9, y10, none, none, none, none, none]) := by
  obtain ⟨p, e1, hp⟩ := hand_ok hl k0 k1
  obtain ⟨K, p2, e2, hK, hp2⟩ := bare_kind_ok (many := 3) hp (by omega) (by omega) (by omega)
  obtain ⟨ε', er, p3, y5, y6, y7, y9, y10, hp3, rfl⟩ := run_range (c := cYes (DL.intsFrom 0 4)) (n := 4) (g := gN 5) (b := b_law_1) (fun j ε => ∃ (p : PV) (x5 x6 x7 x9 x10 : Option PV), Hand (100 + 2000 * j) p ∧ ε = [some (.val (.ilst (ns.map D.int))), x1, some (.val (.int k)), some p, some (.val K.d), x5, x6, x7, none, x9, x10, none, none, none, none, none]) (fun _ => rfl) (by
      rintro j ε hj ⟨q, x5, x6, x7, x9, x10, hq, rfl⟩
      obtain ⟨q2, y6, y7, y9, y10, e, hq2⟩ := turn_ok hK hq (by omega) (x0 := some (.val (.ilst (ns.map D.int)))) (x1 := x1) (x2 := some (.val (.int k))) (x5 := some (.val (.int (j : Nat)))) (x6 := x6) (x7 := x7) (x9 := x9) (x10 := x10)
      change Goes (b_law_1 [some (.val (.ilst (ns.map D.int))), x1, some (.val (.int k)), some q, some (.val K.d), some (.val (.int (j : Nat))), x6, x7, none, x9, x10, none, none, none, none, none]) _
      rw [e]
      exact ⟨rfl, q2, _, y6, y7, y9, y10, hq2.mono (by omega), rfl⟩)
    (ε := [some (.val (.ilst (ns.map D.int))), x1, some (.val (.int k)), some p2, some (.val K.d), x5, x6, x7, none, x9, x10, none, none, none, none, none]) ⟨p2, x5, x6, x7, x9, x10, by simpa using hp2, rfl⟩
  refine ⟨some p3, some (.val K.d), y5, y6, y7, y9, y10, ?_⟩
  unfold b_law_2
  refine (seq_nx (ε' := [some (.val (.ilst (ns.map D.int))), x1, some (.val (.int k)), some p, x4, x5, x6, x7, none, x9, x10, none, none, none, none, none]) (by
    simp [e1])).trans ?_
  refine (seq_nx (ε' := [some (.val (.ilst (ns.map D.int))), x1, some (.val (.int k)), some p2, some (.val K.d), x5, x6, x7, none, x9, x10, none, none, none, none, none]) (by
    simp [e2])).trans ?_
  have hr := rng1_ok (j := 4) (by omega) (by omega)
  exact (mFor_of (mRng1_of (ds := [.int 4]) (by simp) hr)).trans er
def edg1 : List Str := ["", " ", "#", "#0", "#00", "#01", "#999", "#1000", "#-1", "a", "abcdefgh", "abcdefghi", "a()", "a( )"]
def edg2 : List Str := ["a(b,c)", "a(b, c)", "a(b,  c)", "a(b, c", "a(b, c))", "a(, b)", "a(b, )", "()", "(a)", "a()()"]
def edg3 : List Str := ["a() ", "#1()"]
theorem edg_short : ∀ s ∈ edg1 ++ (edg2 ++ edg3), s.length ≤ 20 := by decide +kernel
def sig1 : Str := " !\"#$&'()*+,-./0123456789:;<=>?@"
def sig2 : Str := "ABCDEFGHIJKLMNOPQRSTUVWXYZ[\\]^_`abcdefghijklmnopqrstuvwxyz{|}~\n\t"
theorem sig_len : sig1.length ≤ 100 ∧ sig2.length ≤ 100 := by decide +kernel
def six (c : Nat) : List Str := ["#" ++ ⟨#[c]⟩, "#1" ++ ⟨#[c]⟩, "a" ++ ⟨#[c]⟩, ⟨#[c]⟩ ++ "a", "a(" ++ ⟨#[c]⟩ ++ ")", "a(b" ++ ⟨#[c]⟩ ++ " c)"]
theorem lens6 : ("#" : Str).length = 1 ∧ ("#1" : Str).length = 2 ∧ ("a" : Str).length = 1 ∧ ("a(" : Str).length = 2 ∧ (")" : Str).length = 1 ∧ ("a(b" : Str).length = 3 ∧ (" c)" : Str).length = 3 := by decide +kernel
theorem one_len (c : Nat) : (⟨#[c]⟩ : Str).length = 1 := rfl
theorem six_short (c : Nat) : ∀ s ∈ six c, s.length ≤ 20 := fun s h => by
  obtain ⟨a1, a2, a3, a4, a5, a6, a7⟩ := lens6
  simp only [six, List.mem_cons, List.not_mem_nil, or_false] at h
  rcases h with rfl | rfl | rfl | rfl | rfl | rfl <;> simp only [Str.length_append, one_len, a1, a2, a3, a4, a5, a6, a7] <;> omega
theorem edge_turn {x0 x2 x3 x4 x5 x6 x7 x8 x9 x10 x11 x12 x13 x15 : Option PV} {Es : List Str} {c : Nat} (hl : Es.length ≤ 10000) :
    b_law_3 [x0, some (.lst (Es.map D.str)), x2, x3, x4, x5, x6, x7, x8, x9, x10, x11, x12, x13, some (.val (.str ⟨#[c]⟩)), x15] = some (.ok .nx, [x0, some (.lst ((Es ++ six c).map D.str)), x2, x3, x4, x5, x6, x7, x8, x9, x10, x11, x12, x13, some (.val (.str ⟨#[c]⟩)), x15]) := by
  obtain ⟨a1, a2, a3, a4, a5, a6, a7⟩ := lens6
  obtain ⟨z, hz⟩ : ∃ z : Str, z = ⟨#[c]⟩ := ⟨_, rfl⟩
  have hz1 : z.length = 1 := by rw [hz]; rfl
  have h6 : (six c).map D.str = [.str ("#" ++ z), .str ("#1" ++ z), .str ("a" ++ z), .str (z ++ "a"), .str ("a(" ++ z ++ ")"), .str ("a(b" ++ z ++ " c)")] := by rw [hz]; rfl
  rw [List.map_append, h6, ← hz]
  obtain ⟨L, hL⟩ : ∃ L, L = Es.map D.str := ⟨_, rfl⟩
  have hLl : L.length ≤ 999994 := by rw [hL, List.length_map]; omega
  rw [← hL]
  simp [b_law_3, FL.short, Str.length_append, hz1, a1, a2, a3, a4, a5, a6, a7, hLl]
def odds : List D := [.non, .int 0, .bl true, .tup [.str "a"], .ilst [.str "a"], .edic, .tup [], .int 5]
theorem odds_no : ∀ d ∈ odds, fIsi [d, .ty "str"] = some (.bl false) := fun d h => by
  simp only [odds, List.mem_cons, List.not_mem_nil, or_false] at h
  rcases h with rfl | rfl | rfl | rfl | rfl | rfl | rfl | rfl <;> simp [fIsi, tyP, subTy]
theorem row_eq : fEq false (.tup [.int 0]) (.tup [.int 0]) = some (.bl true) := fEq_self (neg := false) (d := .tup [.int 0]) (by decide +kernel) (by decide +kernel)
theorem law_true : ∀ ns : List Int, ns.length ≤ 63 → m_law [.ilst (ns.map D.int)] = some (.bl true) := fun ns hl => by
  obtain ⟨S, hS⟩ : ∃ S, S = D.ilst (ns.map D.int) := ⟨_, rfl⟩
  obtain ⟨z, hz, z0, z1⟩ : ∃ z : Int, (∀ ε : PEnv, ε[0]? = some (some (.val (.ilst (ns.map D.int)))) → (mCons (mCB fMax (mCons (mPure (.int 2)) (mCons (mCB fMin (mCons (mPure (.int 4)) (mCons (mCB fLen (mCons (mVar 0) mNil)) mNil))) mNil))) mNil) ε = some (.ok [.int z], ε)) ∧ 0 ≤ z ∧ z ≤ 100 := by
    obtain ⟨N, hN⟩ : ∃ N : Int, N = (ns.length : Int) := ⟨_, rfl⟩
    refine ⟨if (if N < 4 then N else 4) > 2 then (if N < 4 then N else 4) else 2, fun ε h => ?_, by split <;> omega, by split <;> omega⟩
    have e : fLen [.ilst (ns.map D.int)] = some (.int N) := by rw [fLen_ilst, List.length_map, hN]
    rw [fLen_ilst] at e
    simp [h, e]
    simp at e
    rw [e]
  obtain ⟨E0, hE0⟩ : ∃ E0, E0 = edg1 ++ (edg2 ++ edg3) := ⟨_, rfl⟩
  have hE0s : ∀ s ∈ E0, s.length ≤ 20 := by rw [hE0]; exact edg_short
  have hE0l : E0.length ≤ 100 := by rw [hE0]; decide +kernel
  obtain ⟨ε', er, x2, x3, x4, x5, x6, x7, x9, x10, rfl⟩ := run_range (c := cYes (DL.intsFrom 0 z.toNat)) (n := z.toNat) (g := gN 2) (b := b_law_2) (fun k ε => ∃ (x2 x3 x4 x5 x6 x7 x9 x10 : Option PV), ε = [some (.val (.ilst (ns.map D.int))), some (.lst (E0.map D.str)), x2, x3, x4, x5, x6, x7, none, x9, x10, none, none, none, none, none]) (fun _ => rfl) (by
      rintro k ε hk ⟨x2, x3, x4, x5, x6, x7, x9, x10, rfl⟩
      obtain ⟨K, hK⟩ : ∃ K : Int, K = (k : Nat) := ⟨_, rfl⟩
      obtain ⟨y3, y4, y5, y6, y7, y9, y10, e⟩ := cell_ok hl (k := K) (by omega) (by omega) (x1 := some (.lst (E0.map D.str))) (x3 := x3) (x4 := x4) (x5 := x5) (x6 := x6) (x7 := x7) (x9 := x9) (x10 := x10)
      rw [← hK]
      change Goes (b_law_2 [some (.val (.ilst (ns.map D.int))), some (.lst (E0.map D.str)), some (.val (.int K)), x3, x4, x5, x6, x7, none, x9, x10, none, none, none, none, none]) _
      rw [e]
      exact ⟨rfl, _, y3, y4, y5, y6, y7, y9, y10, rfl⟩)
    (ε := [some (.val (.ilst (ns.map D.int))), some (.lst (E0.map D.str)), none, none, none, none, none, none, none, none, none, none, none, none, none, none]) ⟨none, none, none, none, none, none, none, none, rfl⟩
  have hf := (mFor_of (c := cYes) (g := gN 2) (b := b_law_2) (mRng1_of (hz [some (.val (.ilst (ns.map D.int))), some (.lst (E0.map D.str)), none, none, none, none, none, none, none, none, none, none, none, none, none, none] rfl) (rng1_ok (by omega) (by omega)))).trans er
  rw [← hS] at hf
  obtain ⟨sl1, sl2⟩ := sig_len
  have hsg : (sig1 ++ sig2).length ≤ 200 := by rw [Str.length_append]; omega
  obtain ⟨Z, hZ⟩ : ∃ Z : Str, Z = sig1 ++ sig2 := ⟨_, rfl⟩
  have hZl : Z.cps.toList.length ≤ 200 := by rw [← len_l, hZ]; exact hsg
  obtain ⟨ε2, er2, Es, y14, hEs, hEl, rfl⟩ := run_goes (α := Nat) (toD := fun c => D.str ⟨#[c]⟩) (c := cYes (signsD Z)) (g := gN 14) (b := b_law_3) (fun xs ε => ∃ (Es : List Str) (y14 : Option PV), (∀ s ∈ Es, s.length ≤ 20) ∧ Es.length + 6 * xs.length ≤ 5000 ∧ ε = [some (.val S), some (.lst (Es.map D.str)), x2, x3, x4, x5, x6, x7, none, x9, x10, none, none, some (.val (.str Z)), y14, none]) (fun _ _ _ => rfl) (by
      rintro c xs ε ⟨Es, y14, h1, h2, rfl⟩
      rw [List.length_cons] at h2
      have e := edge_turn (x0 := some (.val S)) (x2 := x2) (x3 := x3) (x4 := x4) (x5 := x5) (x6 := x6) (x7 := x7) (x8 := none) (x9 := x9) (x10 := x10) (x11 := none) (x12 := none) (x13 := some (.val (.str Z))) (x15 := none) (Es := Es) (c := c) (by omega)
      change Goes (b_law_3 [some (.val S), some (.lst (Es.map D.str)), x2, x3, x4, x5, x6, x7, none, x9, x10, none, none, some (.val (.str Z)), some (.val (.str ⟨#[c]⟩)), none]) _
      rw [e]
      refine ⟨rfl, Es ++ six c, _, fun s hs => ?_, ?_, rfl⟩
      · rcases List.mem_append.mp hs with hs | hs
        · exact h1 s hs
        · exact six_short c s hs
      · rw [List.length_append]
        show Es.length + 6 + 6 * xs.length ≤ 5000
        omega) Z.cps.toList [some (.val S), some (.lst (E0.map D.str)), x2, x3, x4, x5, x6, x7, none, x9, x10, none, none, some (.val (.str Z)), none, none] ⟨E0, none, hE0s, by omega, rfl⟩
  have gE : ∀ T ∈ Es, Gd T := fun T hT => Gd.of_short (by have := hEs T hT; omega)
  have ha := all_right (i := 1) (j := 12) (Ts := Es) (te := e_law_4) (ε := [some (.val S), some (.lst (Es.map D.str)), x2, x3, x4, x5, x6, x7, none, x9, x10, none, none, some (.val (.str Z)), y14, none]) gE rfl (by simp at hEl; omega) fun U hU => by
    have := right_ok (gE U hU)
    simp [e_law_4, this]
  have eo := comp_look (toD := fun d : D => d) (c := cYes odds) (g := gN 15) (tt := mPure true) (te := e_law_5) (vs := [15]) (ε := [some (.val S), some (.lst (Es.map D.str)), x2, x3, x4, x5, x6, x7, none, x9, x10, none, none, some (.val (.str Z)), y14, none]) (fun _ => true) (fun _ => .bl true) rfl odds fun d hd => by
    have h1 := told_no (odds_no d hd)
    have h2 := row_eq
    obtain ⟨w, hw⟩ : ∃ w : D, w = .tup [.int 0] := ⟨_, rfl⟩
    have hs : FL.short 1000 [D.int 0] = some [.int 0] := rfl
    rw [← hw] at h1 h2
    simp [e_law_5, h1, hs, ← hw, h2]
  rw [List.filter_eq_self.mpr fun _ _ => rfl, List.map_id'] at eo
  refine fnP_of rfl (ε := [some (.val S), some (.lst (Es.map D.str)), x2, x3, x4, x5, x6, x7, none, x9, x10, none, none, some (.val (.str Z)), y14, none]) ?_
  rw [← hS]
  have hE0' : E0.map D.str = edg1.map D.str ++ (edg2.map D.str ++ edg3.map D.str) := by rw [hE0, List.map_append, List.map_append]
  refine (seq_nx (ε' := [some (.val S), some (.lst (edg1.map D.str)), none, none, none, none, none, none, none, none, none, none, none, none, none, none]) (by
    simp [edg1, FL.short])).trans ?_
  refine (seq_nx (ε' := [some (.val S), some (.lst (edg1.map D.str ++ edg2.map D.str)), none, none, none, none, none, none, none, none, none, none, none, none, none, none]) (by
    have h1 : (edg1.map D.str).length ≤ 999990 := by decide +kernel
    generalize edg1.map D.str = L1 at h1
    simp [edg2, FL.short, h1])).trans ?_
  refine (seq_nx (ε' := [some (.val S), some (.lst (E0.map D.str)), none, none, none, none, none, none, none, none, none, none, none, none, none, none]) (by
    have h1 : (edg1.map D.str ++ edg2.map D.str).length ≤ 999998 := by decide +kernel
    rw [hE0', ← List.append_assoc]
    generalize edg1.map D.str ++ edg2.map D.str = L1 at h1
    simp [edg3, FL.short, h1])).trans ?_
  refine (seq_nx hf).trans ?_
  refine (seq_nx (ε' := [some (.val S), some (.lst (E0.map D.str)), x2, x3, x4, x5, x6, x7, none, x9, x10, none, none, some (.val (.str sig1)), none, none]) (by
    simp [sig1])).trans ?_
  refine (seq_nx (ε' := [some (.val S), some (.lst (E0.map D.str)), x2, x3, x4, x5, x6, x7, none, x9, x10, none, none, some (.val (.str Z)), none, none]) (by
    have h1 : sig1.length + sig2.length ≤ 1000000 := by omega
    have h2 : sig2 = "ABCDEFGHIJKLMNOPQRSTUVWXYZ[\\]^_`abcdefghijklmnopqrstuvwxyz{|}~\n\t" := rfl
    rw [hZ, ← h2]
    generalize sig1 = A at h1
    generalize sig2 = B at h1
    simp [h1])).trans ?_
  refine (seq_nx ((mFor_of (ds := signsD Z) (by
    have h1 : Z.length ≤ 1000000 := by rw [hZ]; omega
    simp [h1])).trans er2)).trans ?_
  refine (seq_nx (ε' := [some (.val S), some (.lst (Es.map D.str)), x2, x3, x4, x5, x6, x7, none, x9, x10, none, none, some (.val (.str Z)), y14, none]) (by
    generalize mAllF (mLc (mGetL 1) (cSlot 1) (gN 12) (mPure true) e_law_4 [12]) = MA at ha ⊢
    simp [ha])).trans ?_
  have eb : bools (odds.map fun _ => D.bl true) = some (odds.map fun _ => true) := bools_fnX (fun _ : D => true) odds
  have hbt : (odds.map fun _ => true).all id = true := by decide +kernel
  have hod : (mLst (mCons (mPure .non) (mCons (mPure (.int 0)) (mCons (mPure (.bl true)) (mCons (mTup (mCons (mPure (.str "a")) mNil)) (mCons (mFrz (mLst (mCons (mPure (.str "a")) mNil))) (mCons (mPure .edic) (mCons (mTup mNil) (mCons (mPure (.int 5)) mNil))))))))) [some (.val S), some (.lst (Es.map D.str)), x2, x3, x4, x5, x6, x7, none, x9, x10, none, none, some (.val (.str Z)), y14, none] = some (.ok odds, [some (.val S), some (.lst (Es.map D.str)), x2, x3, x4, x5, x6, x7, none, x9, x10, none, none, some (.val (.str Z)), y14, none]) := by
    simp [FL.short, odds]
  obtain ⟨O, hO⟩ : ∃ O, O = odds := ⟨_, rfl⟩
  have hOl : O.length ≤ 1000000 := by rw [hO]; decide +kernel
  rw [← hO] at hod eo eb hbt
  obtain ⟨ds, hds⟩ : ∃ ds, ds = O.map fun _ => D.bl true := ⟨_, rfl⟩
  obtain ⟨bs, hbs⟩ : ∃ bs, bs = O.map fun _ => true := ⟨_, rfl⟩
  rw [← hds] at eo eb
  rw [← hbs] at eb hbt
  have hlc : mLc (mLst (mCons (mPure .non) (mCons (mPure (.int 0)) (mCons (mPure (.bl true)) (mCons (mTup (mCons (mPure (.str "a")) mNil)) (mCons (mFrz (mLst (mCons (mPure (.str "a")) mNil))) (mCons (mPure .edic) (mCons (mTup mNil) (mCons (mPure (.int 5)) mNil))))))))) cYes (gN 15) (mPure true) e_law_5 [15] [some (.val S), some (.lst (Es.map D.str)), x2, x3, x4, x5, x6, x7, none, x9, x10, none, none, some (.val (.str Z)), y14, none] = some (.ok ds, [some (.val S), some (.lst (Es.map D.str)), x2, x3, x4, x5, x6, x7, none, x9, x10, none, none, some (.val (.str Z)), y14, none]) := by
    unfold mLc mBind
    rw [hod]
    simp only [hOl, if_true]
    exact eo
  generalize mLc (mLst (mCons (mPure .non) (mCons (mPure (.int 0)) (mCons (mPure (.bl true)) (mCons (mTup (mCons (mPure (.str "a")) mNil)) (mCons (mFrz (mLst (mCons (mPure (.str "a")) mNil))) (mCons (mPure .edic) (mCons (mTup mNil) (mCons (mPure (.int 5)) mNil))))))))) cYes (gN 15) (mPure true) e_law_5 [15] = ML at hlc ⊢
  simp [hlc, eb, hbt]
end KX

namespace KX
open PySem PySem.Spec PyProof.Rows L2 DL FL
theorem all_mk {l : PySem.W.OpenLaw} {w : World} {K : PySem.W.Frag} {h : Heap} {mg : Str → Option Value} {fa : Addr} (X : K.In h) (G : h.Ns mainGlobals mg) (hfa : mg "law" = some (.ref fa))
    {Cc0 : Addr} (ca0 : PySem.W.nsIn K mainGlobals "TermReader" = some (some (.ref Cc0))) (cb0 : PySem.W.plainGet K Cc0 Str.empty = true) (cc_0 : PySem.W.hasDictIn K Cc0 = true) (cd_0 : PySem.W.plainOver K Cc0 = true) (ce_0 : PySem.W.findIn K (.ref Cc0) "__setattr__" = some (some (.builtin "object.__setattr__"))) (cf0 : PySem.W.makesIn K Cc0 = true) (cg0 : PySem.W.keepIn K (.ref Cc0) = true)
    (cn0_0 : PySem.W.findIn K (.ref Cc0) "text" = some none)
    (cn0_1 : PySem.W.findIn K (.ref Cc0) "spot" = some none)
    (cn0_2 : PySem.W.findIn K (.ref Cc0) "begun" = some none)
    (cn0_3 : PySem.W.findIn K (.ref Cc0) "ended" = some none)
    {Cx0 Bx0 fx0 Nx0 : Addr} {nx0 qx0 : Str} {bsx0 bmx0 : List Value} {snx0 : List Str} {sux0 : List Value} {abx0 : Bool} {cox0 : Option Bool} {ddx0 : Option Addr} {x0_0 x1_0 x2_0 x3_0 x5_0 : Option Value} (exa0 : PySem.W.nsIn K mainGlobals "NoText" = some (some (.ref Cx0))) (exl0 : K.lookup Cx0 = some (excClassObj nx0 qx0 Cx0 Nx0 bsx0 bmx0 true snx0 sux0 abx0 cox0 ddx0 x0_0 x1_0 x2_0 x3_0 x5_0 "ValueError.__new__")) (exr0 : PySem.HandSPX.refsVE bmx0 = true) (exs0 : PySem.W.findIn K (.ref Cx0) "__setattr__" = some (some (.builtin "object.__setattr__"))) (exe0 : PySem.W.subIn K (.ref Cx0) (.type "BaseException") = some true) (ext0 : PySem.W.typeIn K (.ref Cx0) = some (.type "type")) (exk0 : PySem.W.keepIn K (.ref Cx0) = true) (exf0 : PySem.W.findIn K (.ref Cx0) "row" = some none) (exi0 : PySem.W.findIn K (.ref Cx0) "__init__" = some (some (.ref fx0))) (exj0 : PySem.W.isFn K (.ref fx0) = true)
    {odx0 anx0 : Option Addr} {slx0 : Array (Option Value)} {ocx0 kVx0 dcx0 pmx0 cdx0 ctx0 : Value} (exm0 : K.lookup fx0 = some ⟨ocx0, odx0, .func (PySem.W.fnOf "__init__" "NoText.__init__" (defArgs s_x_NoText) (defBody s_x_NoText) (defScope s_x_NoText) .none kVx0 dcx0 pmx0 anx0 cdx0 ctx0), slx0⟩) (exc0 : PySem.W.codeIn K cdx0 "NoText.__init__" = true) (exn0 : PySem.W.keepIn K (.ref fx0) = true)
    (exb0 : PySem.W.nsIn K mainGlobals "KindError" = some (some (.ref Bx0))) (exd0 : PySem.W.readsIn K Bx0 (.type "type") = true) (exg0 : PySem.W.specialIn K (.ref Bx0) "__getattribute__" = some (some (.builtin "type.__getattribute__"))) (exv0 : PySem.W.findCls K (.ref Bx0) (.type "type") "__init__" = some (.val (.builtin "ValueError.__init__")))
    {cve0 : Addr} (eea0 : PySem.W.nsIn K mainGlobals "KindError" = some (some (.ref cve0))) (eeb0 : PySem.W.subIn K (.ref cve0) (.type "BaseException") = some true) (eec0 : PySem.W.hasDictIn K cve0 = true) (eed0 : PySem.W.typeIn K (.ref cve0) = some (.type "type"))
    {cn0 : Addr} (ecn0 : PySem.W.nsIn K mainGlobals "NoLine" = some (some (.ref cn0)))
    {cn1 : Addr} (ecn1 : PySem.W.nsIn K mainGlobals "NoStep" = some (some (.ref cn1)))
    {cn2 : Addr} (ecn2 : PySem.W.nsIn K mainGlobals "Stuck" = some (some (.ref cn2)))
    {cn3 : Addr} (ecn3 : PySem.W.nsIn K mainGlobals "TooMany" = some (some (.ref cn3)))
    (ekg : PySem.W.findIn K (.ref Cx0) "__getattribute__" = some (some (.builtin "BaseException.__getattribute__"))) (ekk : PySem.W.findIn K (.ref Cx0) "__getattr__" = some none) (ekd : PySem.W.hasDictIn K Cx0 = true) (eka : PySem.W.findIn K (.ref Cx0) "__class__" = some (some (.builtin "object.__class__"))) (ekn : PySem.W.specialIn K (.builtin "object.__class__") "__get__" = some (some (.builtin "getset_descriptor.__get__"))) (ekt : PySem.W.takesIn K (.builtin "object.__class__") = some true) (ekm : PySem.W.mroIn K Cx0 (.type "object") = some true) (eky : PySem.W.kitAny K (.ref Cx0) [.ref cn0, .ref cn1, .ref cn2, .ref cn3] = some false) (ekv : PySem.W.kitOne K (.ref Cx0) (.type "ValueError") = some true) (eko : PySem.W.kitOne K (.ref Cx0) (.ref Cx0) = some true) (ekz : PySem.W.nsIn K mainGlobals "ValueError" = some none)
    (epx0 : PySem.W.subIn K (.ref Cx0) (.ref cve0) = some true)
    {f0 : Addr} {od0 an0 : Option Addr} {sl0 : Array (Option Value)} {oc0 kV0 dc0 pm0 cd0 ct0 : Value} (a0 : PySem.W.nsIn K mainGlobals "is_word" = some (some (.ref f0))) (l0 : K.lookup f0 = some ⟨oc0, od0, .func (PySem.W.fnOf "is_word" "is_word" (defArgs s_p_is_word) (defBody s_p_is_word) (defScope s_p_is_word) .none kV0 dc0 pm0 an0 cd0 ct0), sl0⟩) (c0 : PySem.W.codeIn K cd0 "is_word" = true) (k0 : PySem.W.keepIn K (.ref f0) = true)
    {f1 : Addr} {od1 an1 : Option Addr} {sl1 : Array (Option Value)} {oc1 kV1 dc1 pm1 cd1 ct1 : Value} (a1 : PySem.W.nsIn K mainGlobals "stretch_of" = some (some (.ref f1))) (l1 : K.lookup f1 = some ⟨oc1, od1, .func (PySem.W.fnOf "stretch_of" "stretch_of" (defArgs s_p_stretch_of) (defBody s_p_stretch_of) (defScope s_p_stretch_of) .none kV1 dc1 pm1 an1 cd1 ct1), sl1⟩) (c1 : PySem.W.codeIn K cd1 "stretch_of" = true) (k1 : PySem.W.keepIn K (.ref f1) = true)
    {f2 : Addr} {od2 an2 : Option Addr} {sl2 : Array (Option Value)} {oc2 kV2 dc2 pm2 cd2 ct2 : Value} (a2 : PySem.W.nsIn K mainGlobals "is_number" = some (some (.ref f2))) (l2 : K.lookup f2 = some ⟨oc2, od2, .func (PySem.W.fnOf "is_number" "is_number" (defArgs s_p_is_number) (defBody s_p_is_number) (defScope s_p_is_number) .none kV2 dc2 pm2 an2 cd2 ct2), sl2⟩) (c2 : PySem.W.codeIn K cd2 "is_number" = true) (k2 : PySem.W.keepIn K (.ref f2) = true)
    {f3 : Addr} {od3 an3 : Option Addr} {sl3 : Array (Option Value)} {oc3 kV3 dc3 pm3 cd3 ct3 : Value} (a3 : PySem.W.findIn K (.ref Cc0) "__init__" = some (some (.ref f3))) (j3 : PySem.W.isFn K (.ref f3) = true) (l3 : K.lookup f3 = some ⟨oc3, od3, .func (PySem.W.fnOf "__init__" "TermReader.__init__" (defArgs s_p_TermReader___init__) (defBody s_p_TermReader___init__) (defScope s_p_TermReader___init__) .none kV3 dc3 pm3 an3 cd3 ct3), sl3⟩) (c3 : PySem.W.codeIn K cd3 "TermReader.__init__" = true) (k3 : PySem.W.keepIn K (.ref f3) = true)
    {f4 : Addr} {od4 an4 : Option Addr} {sl4 : Array (Option Value)} {oc4 kV4 dc4 pm4 cd4 ct4 : Value} (a4 : PySem.W.findIn K (.ref Cc0) "begin" = some (some (.ref f4))) (j4 : PySem.W.isFn K (.ref f4) = true) (l4 : K.lookup f4 = some ⟨oc4, od4, .func (PySem.W.fnOf "begin" "TermReader.begin" (defArgs s_p_TermReader_begin) (defBody s_p_TermReader_begin) (defScope s_p_TermReader_begin) .none kV4 dc4 pm4 an4 cd4 ct4), sl4⟩) (c4 : PySem.W.codeIn K cd4 "TermReader.begin" = true) (k4 : PySem.W.keepIn K (.ref f4) = true)
    {f5 : Addr} {od5 an5 : Option Addr} {sl5 : Array (Option Value)} {oc5 kV5 dc5 pm5 cd5 ct5 : Value} (a5 : PySem.W.findIn K (.ref Cc0) "close" = some (some (.ref f5))) (j5 : PySem.W.isFn K (.ref f5) = true) (l5 : K.lookup f5 = some ⟨oc5, od5, .func (PySem.W.fnOf "close" "TermReader.close" (defArgs s_p_TermReader_close) (defBody s_p_TermReader_close) (defScope s_p_TermReader_close) .none kV5 dc5 pm5 an5 cd5 ct5), sl5⟩) (c5 : PySem.W.codeIn K cd5 "TermReader.close" = true) (k5 : PySem.W.keepIn K (.ref f5) = true)
    {f6 : Addr} {od6 an6 : Option Addr} {sl6 : Array (Option Value)} {oc6 kV6 dc6 pm6 cd6 ct6 : Value} (a6 : PySem.W.findIn K (.ref Cc0) "go_on" = some (some (.ref f6))) (j6 : PySem.W.isFn K (.ref f6) = true) (l6 : K.lookup f6 = some ⟨oc6, od6, .func (PySem.W.fnOf "go_on" "TermReader.go_on" (defArgs s_p_TermReader_go_on) (defBody s_p_TermReader_go_on) (defScope s_p_TermReader_go_on) .none kV6 dc6 pm6 an6 cd6 ct6), sl6⟩) (c6 : PySem.W.codeIn K cd6 "TermReader.go_on" = true) (k6 : PySem.W.keepIn K (.ref f6) = true)
    {f7 : Addr} {od7 an7 : Option Addr} {sl7 : Array (Option Value)} {oc7 kV7 dc7 pm7 cd7 ct7 : Value} (a7 : PySem.W.findIn K (.ref Cc0) "whole_term" = some (some (.ref f7))) (j7 : PySem.W.isFn K (.ref f7) = true) (l7 : K.lookup f7 = some ⟨oc7, od7, .func (PySem.W.fnOf "whole_term" "TermReader.whole_term" (defArgs s_p_TermReader_whole_term) (defBody s_p_TermReader_whole_term) (defScope s_p_TermReader_whole_term) .none kV7 dc7 pm7 an7 cd7 ct7), sl7⟩) (c7 : PySem.W.codeIn K cd7 "TermReader.whole_term" = true) (k7 : PySem.W.keepIn K (.ref f7) = true)
    {f8 : Addr} {od8 an8 : Option Addr} {sl8 : Array (Option Value)} {oc8 kV8 dc8 pm8 cd8 ct8 : Value} (a8 : PySem.W.nsIn K mainGlobals "term_in" = some (some (.ref f8))) (l8 : K.lookup f8 = some ⟨oc8, od8, .func (PySem.W.fnOf "term_in" "term_in" (defArgs s_p_term_in) (defBody s_p_term_in) (defScope s_p_term_in) .none kV8 dc8 pm8 an8 cd8 ct8), sl8⟩) (c8 : PySem.W.codeIn K cd8 "term_in" = true) (k8 : PySem.W.keepIn K (.ref f8) = true)
    {f9 : Addr} {od9 an9 : Option Addr} {sl9 : Array (Option Value)} {oc9 kV9 dc9 pm9 cd9 ct9 : Value} (a9 : PySem.W.nsIn K mainGlobals "read_term" = some (some (.ref f9))) (l9 : K.lookup f9 = some ⟨oc9, od9, .func (PySem.W.fnOf "read_term" "read_term" (defArgs s_p_read_term) (defBody s_p_read_term) (defScope s_p_read_term) .none kV9 dc9 pm9 an9 cd9 ct9), sl9⟩) (c9 : PySem.W.codeIn K cd9 "read_term" = true) (k9 : PySem.W.keepIn K (.ref f9) = true)
    {f10 : Addr} {od10 an10 : Option Addr} {sl10 : Array (Option Value)} {oc10 kV10 dc10 pm10 cd10 ct10 : Value} (a10 : PySem.W.nsIn K mainGlobals "_law_hand" = some (some (.ref f10))) (l10 : K.lookup f10 = some ⟨oc10, od10, .func (PySem.W.fnOf "_law_hand" "_law_hand" (defArgs s_l_hand) (defBody s_l_hand) (defScope s_l_hand) .none kV10 dc10 pm10 an10 cd10 ct10), sl10⟩) (c10 : PySem.W.codeIn K cd10 "_law_hand" = true) (k10 : PySem.W.keepIn K (.ref f10) = true)
    {f11 : Addr} {od11 an11 : Option Addr} {sl11 : Array (Option Value)} {oc11 kV11 dc11 pm11 cd11 ct11 : Value} (a11 : PySem.W.nsIn K mainGlobals "_law_take" = some (some (.ref f11))) (l11 : K.lookup f11 = some ⟨oc11, od11, .func (PySem.W.fnOf "_law_take" "_law_take" (defArgs s_l_take) (defBody s_l_take) (defScope s_l_take) .none kV11 dc11 pm11 an11 cd11 ct11), sl11⟩) (c11 : PySem.W.codeIn K cd11 "_law_take" = true) (k11 : PySem.W.keepIn K (.ref f11) = true)
    {f12 : Addr} {od12 an12 : Option Addr} {sl12 : Array (Option Value)} {oc12 kV12 dc12 pm12 cd12 ct12 : Value} (a12 : PySem.W.nsIn K mainGlobals "_law_pick" = some (some (.ref f12))) (l12 : K.lookup f12 = some ⟨oc12, od12, .func (PySem.W.fnOf "_law_pick" "_law_pick" (defArgs s_l_pick) (defBody s_l_pick) (defScope s_l_pick) .none kV12 dc12 pm12 an12 cd12 ct12), sl12⟩) (c12 : PySem.W.codeIn K cd12 "_law_pick" = true) (k12 : PySem.W.keepIn K (.ref f12) = true)
    {f13 : Addr} {od13 an13 : Option Addr} {sl13 : Array (Option Value)} {oc13 kV13 dc13 pm13 cd13 ct13 : Value} (a13 : PySem.W.nsIn K mainGlobals "_law_words" = some (some (.ref f13))) (l13 : K.lookup f13 = some ⟨oc13, od13, .func (PySem.W.fnOf "_law_words" "_law_words" (defArgs s_l_words) (defBody s_l_words) (defScope s_l_words) .none kV13 dc13 pm13 an13 cd13 ct13), sl13⟩) (c13 : PySem.W.codeIn K cd13 "_law_words" = true) (k13 : PySem.W.keepIn K (.ref f13) = true)
    {f14 : Addr} {od14 an14 : Option Addr} {sl14 : Array (Option Value)} {oc14 kV14 dc14 pm14 cd14 ct14 : Value} (a14 : PySem.W.nsIn K mainGlobals "_law_size" = some (some (.ref f14))) (l14 : K.lookup f14 = some ⟨oc14, od14, .func (PySem.W.fnOf "_law_size" "_law_size" (defArgs s_l_size) (defBody s_l_size) (defScope s_l_size) .none kV14 dc14 pm14 an14 cd14 ct14), sl14⟩) (c14 : PySem.W.codeIn K cd14 "_law_size" = true) (k14 : PySem.W.keepIn K (.ref f14) = true)
    {f15 : Addr} {od15 an15 : Option Addr} {sl15 : Array (Option Value)} {oc15 kV15 dc15 pm15 cd15 ct15 : Value} (a15 : PySem.W.nsIn K mainGlobals "_law_plains" = some (some (.ref f15))) (l15 : K.lookup f15 = some ⟨oc15, od15, .func (PySem.W.fnOf "_law_plains" "_law_plains" (defArgs s_l_plains) (defBody s_l_plains) (defScope s_l_plains) .none kV15 dc15 pm15 an15 cd15 ct15), sl15⟩) (c15 : PySem.W.codeIn K cd15 "_law_plains" = true) (k15 : PySem.W.keepIn K (.ref f15) = true)
    {f16 : Addr} {od16 an16 : Option Addr} {sl16 : Array (Option Value)} {oc16 kV16 dc16 pm16 cd16 ct16 : Value} (a16 : PySem.W.nsIn K mainGlobals "_law_makers" = some (some (.ref f16))) (l16 : K.lookup f16 = some ⟨oc16, od16, .func (PySem.W.fnOf "_law_makers" "_law_makers" (defArgs s_l_makers) (defBody s_l_makers) (defScope s_l_makers) .none kV16 dc16 pm16 an16 cd16 ct16), sl16⟩) (c16 : PySem.W.codeIn K cd16 "_law_makers" = true) (k16 : PySem.W.keepIn K (.ref f16) = true)
    {f17 : Addr} {od17 an17 : Option Addr} {sl17 : Array (Option Value)} {oc17 kV17 dc17 pm17 cd17 ct17 : Value} (a17 : PySem.W.nsIn K mainGlobals "_law_askings" = some (some (.ref f17))) (l17 : K.lookup f17 = some ⟨oc17, od17, .func (PySem.W.fnOf "_law_askings" "_law_askings" (defArgs s_l_askings) (defBody s_l_askings) (defScope s_l_askings) .none kV17 dc17 pm17 an17 cd17 ct17), sl17⟩) (c17 : PySem.W.codeIn K cd17 "_law_askings" = true) (k17 : PySem.W.keepIn K (.ref f17) = true)
    {f18 : Addr} {od18 an18 : Option Addr} {sl18 : Array (Option Value)} {oc18 kV18 dc18 pm18 cd18 ct18 : Value} (a18 : PySem.W.nsIn K mainGlobals "_law_bare_kind" = some (some (.ref f18))) (l18 : K.lookup f18 = some ⟨oc18, od18, .func (PySem.W.fnOf "_law_bare_kind" "_law_bare_kind" (defArgs s_l_bare_kind) (defBody s_l_bare_kind) (defScope s_l_bare_kind) .none kV18 dc18 pm18 an18 cd18 ct18), sl18⟩) (c18 : PySem.W.codeIn K cd18 "_law_bare_kind" = true) (k18 : PySem.W.keepIn K (.ref f18) = true)
    {f19 : Addr} {od19 an19 : Option Addr} {sl19 : Array (Option Value)} {oc19 kV19 dc19 pm19 cd19 ct19 : Value} (a19 : PySem.W.nsIn K mainGlobals "_law_open_term" = some (some (.ref f19))) (l19 : K.lookup f19 = some ⟨oc19, od19, .func (PySem.W.fnOf "_law_open_term" "_law_open_term" (defArgs s_l_open_term) (defBody s_l_open_term) (defScope s_l_open_term) .none kV19 dc19 pm19 an19 cd19 ct19), sl19⟩) (c19 : PySem.W.codeIn K cd19 "_law_open_term" = true) (k19 : PySem.W.keepIn K (.ref f19) = true)
    {f20 : Addr} {od20 an20 : Option Addr} {sl20 : Array (Option Value)} {oc20 kV20 dc20 pm20 cd20 ct20 : Value} (a20 : PySem.W.nsIn K mainGlobals "_law_sorts_drawn" = some (some (.ref f20))) (l20 : K.lookup f20 = some ⟨oc20, od20, .func (PySem.W.fnOf "_law_sorts_drawn" "_law_sorts_drawn" (defArgs s_l_sorts_drawn) (defBody s_l_sorts_drawn) (defScope s_l_sorts_drawn) .none kV20 dc20 pm20 an20 cd20 ct20), sl20⟩) (c20 : PySem.W.codeIn K cd20 "_law_sorts_drawn" = true) (k20 : PySem.W.keepIn K (.ref f20) = true)
    {f21 : Addr} {od21 an21 : Option Addr} {sl21 : Array (Option Value)} {oc21 kV21 dc21 pm21 cd21 ct21 : Value} (a21 : PySem.W.nsIn K mainGlobals "_law_written" = some (some (.ref f21))) (l21 : K.lookup f21 = some ⟨oc21, od21, .func (PySem.W.fnOf "_law_written" "_law_written" (defArgs s_l_written) (defBody s_l_written) (defScope s_l_written) .none kV21 dc21 pm21 an21 cd21 ct21), sl21⟩) (c21 : PySem.W.codeIn K cd21 "_law_written" = true) (k21 : PySem.W.keepIn K (.ref f21) = true)
    {f22 : Addr} {od22 an22 : Option Addr} {sl22 : Array (Option Value)} {oc22 kV22 dc22 pm22 cd22 ct22 : Value} (a22 : PySem.W.nsIn K mainGlobals "_law_term_at" = some (some (.ref f22))) (l22 : K.lookup f22 = some ⟨oc22, od22, .func (PySem.W.fnOf "_law_term_at" "_law_term_at" (defArgs s_l_term_at) (defBody s_l_term_at) (defScope s_l_term_at) .none kV22 dc22 pm22 an22 cd22 ct22), sl22⟩) (c22 : PySem.W.codeIn K cd22 "_law_term_at" = true) (k22 : PySem.W.keepIn K (.ref f22) = true)
    {f23 : Addr} {od23 an23 : Option Addr} {sl23 : Array (Option Value)} {oc23 kV23 dc23 pm23 cd23 ct23 : Value} (a23 : PySem.W.nsIn K mainGlobals "_law_term_of" = some (some (.ref f23))) (l23 : K.lookup f23 = some ⟨oc23, od23, .func (PySem.W.fnOf "_law_term_of" "_law_term_of" (defArgs s_l_term_of) (defBody s_l_term_of) (defScope s_l_term_of) .none kV23 dc23 pm23 an23 cd23 ct23), sl23⟩) (c23 : PySem.W.codeIn K cd23 "_law_term_of" = true) (k23 : PySem.W.keepIn K (.ref f23) = true)
    {f24 : Addr} {od24 an24 : Option Addr} {sl24 : Array (Option Value)} {oc24 kV24 dc24 pm24 cd24 ct24 : Value} (a24 : PySem.W.nsIn K mainGlobals "_law_text_bent" = some (some (.ref f24))) (l24 : K.lookup f24 = some ⟨oc24, od24, .func (PySem.W.fnOf "_law_text_bent" "_law_text_bent" (defArgs s_l_text_bent) (defBody s_l_text_bent) (defScope s_l_text_bent) .none kV24 dc24 pm24 an24 cd24 ct24), sl24⟩) (c24 : PySem.W.codeIn K cd24 "_law_text_bent" = true) (k24 : PySem.W.keepIn K (.ref f24) = true)
    {f25 : Addr} {od25 an25 : Option Addr} {sl25 : Array (Option Value)} {oc25 kV25 dc25 pm25 cd25 ct25 : Value} (a25 : PySem.W.nsIn K mainGlobals "_law_told" = some (some (.ref f25))) (l25 : K.lookup f25 = some ⟨oc25, od25, .func (PySem.W.fnOf "_law_told" "_law_told" (defArgs s_l_told) (defBody s_l_told) (defScope s_l_told) .none kV25 dc25 pm25 an25 cd25 ct25), sl25⟩) (c25 : PySem.W.codeIn K cd25 "_law_told" = true) (k25 : PySem.W.keepIn K (.ref f25) = true)
    {f26 : Addr} {od26 an26 : Option Addr} {sl26 : Array (Option Value)} {oc26 kV26 dc26 pm26 cd26 ct26 : Value} (a26 : PySem.W.nsIn K mainGlobals "_law_right" = some (some (.ref f26))) (l26 : K.lookup f26 = some ⟨oc26, od26, .func (PySem.W.fnOf "_law_right" "_law_right" (defArgs s_l_right) (defBody s_l_right) (defScope s_l_right) .none kV26 dc26 pm26 an26 cd26 ct26), sl26⟩) (c26 : PySem.W.codeIn K cd26 "_law_right" = true) (k26 : PySem.W.keepIn K (.ref f26) = true)
    {f27 : Addr} {od27 an27 : Option Addr} {sl27 : Array (Option Value)} {oc27 kV27 dc27 pm27 cd27 ct27 : Value} (a27 : PySem.W.nsIn K mainGlobals "law" = some (some (.ref f27))) (l27 : K.lookup f27 = some ⟨oc27, od27, .func (PySem.W.fnOf "law" "law" (defArgs s_law) (defBody s_law) (defScope s_law) .none kV27 dc27 pm27 an27 cd27 ct27), sl27⟩) (c27 : PySem.W.codeIn K cd27 "law" = true) (k27 : PySem.W.keepIn K (.ref f27) = true)
    {tk0 : Tok} (t0 : PySem.W.nsIn K mainGlobals "FIGURES" = some (some (.str "0123456789" tk0)))
    {tk1 : Tok} (t1 : PySem.W.nsIn K mainGlobals "LETTERS" = some (some (.str "abcdefghijklmnopqrstuvwxyz" tk1)))
    {tk2 : Tok} (t2 : PySem.W.nsIn K mainGlobals "MOST_FIGURES" = some (some (.int 3 tk2)))
    {tk3 : Tok} (t3 : PySem.W.nsIn K mainGlobals "MOST_LETTERS" = some (some (.int 8 tk3)))
    (z0 : PySem.W.nsIn K mainGlobals "len" = some none)
    (z1 : PySem.W.nsIn K mainGlobals "range" = some none)
    (z2 : PySem.W.nsIn K mainGlobals "int" = some none)
    (z3 : PySem.W.nsIn K mainGlobals "tuple" = some none)
    (z4 : PySem.W.nsIn K mainGlobals "list" = some none)
    (z5 : PySem.W.nsIn K mainGlobals "dict" = some none)
    (z6 : PySem.W.nsIn K mainGlobals "min" = some none)
    (z7 : PySem.W.nsIn K mainGlobals "max" = some none)
    (z8 : PySem.W.nsIn K mainGlobals "enumerate" = some none)
    (z9 : PySem.W.nsIn K mainGlobals "repr" = some none)
    (z10 : PySem.W.nsIn K mainGlobals "isinstance" = some none)
    (z11 : PySem.W.nsIn K mainGlobals "all" = some none)
    (z12 : PySem.W.nsIn K mainGlobals "any" = some none)
    (z13 : PySem.W.nsIn K mainGlobals "sum" = some none)
    (z14 : PySem.W.nsIn K mainGlobals "sorted" = some none)
    (z15 : PySem.W.nsIn K mainGlobals "zip" = some none)
    (z16 : PySem.W.nsIn K mainGlobals "reversed" = some none)
    (z17 : PySem.W.nsIn K mainGlobals "str" = some none)
    (z18 : PySem.W.nsIn K mainGlobals "bool" = some none)
    (z19 : PySem.W.nsIn K mainGlobals "set" = some none)
    : ∃ (fd : FuncData) (Ts : List Addr) (nm : Nat → Nat → Str) (cls : Str → Addr) (wd : World → Prop), (∀ (s : Shared) (v : Value), BindsTo s fd ⟨[v], []⟩ [("_law_script", v)]) ∧ (∀ P ∈ Ts, K.lookup P = none ∧ ∃ y c, y ∈ ([] : List Str) ∧ PySem.W.codeHdIn K c P = true ∧ TabAt K mg y c P) ∧ ∀ base : Heap, K.In base → base.Ns mainGlobals mg → (∀ P ∈ Ts, base.BuiltinsAt mg P ∧ mainGlobals ≠ P) → @FnD (ambOf Ts nm cls wd) l.prog w K mg base 63 fa fd ["_law_script"] (spP m_law) := by
  have e := hfa.symm.trans (PySem.W.mg_of X G a27)
  cases e
  have B : BI mg := ⟨fun x hx => by
    simp only [bltNames, List.mem_cons, List.not_mem_nil, or_false] at hx
    rcases hx with rfl | rfl | rfl | rfl | rfl | rfl | rfl | rfl | rfl | rfl | rfl | rfl | rfl | rfl | rfl | rfl | rfl | rfl | rfl | rfl
    · exact PySem.W.mg_none_of X G z0
    · exact PySem.W.mg_none_of X G z1
    · exact PySem.W.mg_none_of X G z2
    · exact PySem.W.mg_none_of X G z3
    · exact PySem.W.mg_none_of X G z4
    · exact PySem.W.mg_none_of X G z5
    · exact PySem.W.mg_none_of X G z6
    · exact PySem.W.mg_none_of X G z7
    · exact PySem.W.mg_none_of X G z8
    · exact PySem.W.mg_none_of X G z9
    · exact PySem.W.mg_none_of X G z10
    · exact PySem.W.mg_none_of X G z11
    · exact PySem.W.mg_none_of X G z12
    · exact PySem.W.mg_none_of X G z13
    · exact PySem.W.mg_none_of X G z14
    · exact PySem.W.mg_none_of X G z15
    · exact PySem.W.mg_none_of X G z16
    · exact PySem.W.mg_none_of X G z17
    · exact PySem.W.mg_none_of X G z18
    · exact PySem.W.mg_none_of X G z19⟩
  have F0 := fun_mk (st := s_p_is_word) l0 c0 k0
  have b0 := F0.binds (ps := ["thing"]) fun _ _ _ _ _ _ us hl => match us, hl with | [_], _ => rfl
  have F1 := fun_mk (st := s_p_stretch_of) l1 c1 k1
  have b1 := F1.binds (ps := ["text", "place", "signs"]) fun _ _ _ _ _ _ us hl => match us, hl with | [_, _, _], _ => rfl
  have F2 := fun_mk (st := s_p_is_number) l2 c2 k2
  have b2 := F2.binds (ps := ["figures"]) fun _ _ _ _ _ _ us hl => match us, hl with | [_], _ => rfl
  have F3 := fun_mk (st := s_p_TermReader___init__) l3 c3 k3
  have b3 := F3.binds (ps := ["self", "text"]) fun _ _ _ _ _ _ us hl => match us, hl with | [_, _], _ => rfl
  have F4 := fun_mk (st := s_p_TermReader_begin) l4 c4 k4
  have b4 := F4.binds (ps := ["self"]) fun _ _ _ _ _ _ us hl => match us, hl with | [_], _ => rfl
  have F5 := fun_mk (st := s_p_TermReader_close) l5 c5 k5
  have b5 := F5.binds (ps := ["self"]) fun _ _ _ _ _ _ us hl => match us, hl with | [_], _ => rfl
  have F6 := fun_mk (st := s_p_TermReader_go_on) l6 c6 k6
  have b6 := F6.binds (ps := ["self"]) fun _ _ _ _ _ _ us hl => match us, hl with | [_], _ => rfl
  have F7 := fun_mk (st := s_p_TermReader_whole_term) l7 c7 k7
  have b7 := F7.binds (ps := ["self"]) fun _ _ _ _ _ _ us hl => match us, hl with | [_], _ => rfl
  have F8 := fun_mk (st := s_p_term_in) l8 c8 k8
  have b8 := F8.binds (ps := ["text"]) fun _ _ _ _ _ _ us hl => match us, hl with | [_], _ => rfl
  have F9 := fun_mk (st := s_p_read_term) l9 c9 k9
  have b9 := F9.binds (ps := ["text"]) fun _ _ _ _ _ _ us hl => match us, hl with | [_], _ => rfl
  have F10 := fun_mk (st := s_l_hand) l10 c10 k10
  have b10 := F10.binds (ps := ["_law_script", "_law_k"]) fun _ _ _ _ _ _ us hl => match us, hl with | [_, _], _ => rfl
  have F11 := fun_mk (st := s_l_take) l11 c11 k11
  have b11 := F11.binds (ps := ["_law_hand_here", "_law_many"]) fun _ _ _ _ _ _ us hl => match us, hl with | [_, _], _ => rfl
  have F12 := fun_mk (st := s_l_pick) l12 c12 k12
  have b12 := F12.binds (ps := ["_law_hand_here", "_law_some"]) fun _ _ _ _ _ _ us hl => match us, hl with | [_, _], _ => rfl
  have F13 := fun_mk (st := s_l_words) l13 c13 k13
  have b13 := F13.binds (ps := ["_law_hand_here", "_law_many"]) fun _ _ _ _ _ _ us hl => match us, hl with | [_, _], _ => rfl
  have F14 := fun_mk (st := s_l_size) l14 c14 k14
  have b14 := F14.binds (ps := ["_law_hand_here", "_law_few", "_law_most"]) fun _ _ _ _ _ _ us hl => match us, hl with | [_, _, _], _ => rfl
  have F15 := fun_mk (st := s_l_plains) l15 c15 k15
  have b15 := F15.binds (ps := ["_law_hand_here", "_law_words_here"]) fun _ _ _ _ _ _ us hl => match us, hl with | [_, _], _ => rfl
  have F16 := fun_mk (st := s_l_makers) l16 c16 k16
  have b16 := F16.binds (ps := ["_law_hand_here", "_law_words_here", "_law_plains_here"]) fun _ _ _ _ _ _ us hl => match us, hl with | [_, _, _], _ => rfl
  have F17 := fun_mk (st := s_l_askings) l17 c17 k17
  have b17 := F17.binds (ps := ["_law_hand_here", "_law_words_here", "_law_plains_here", "_law_many"]) fun _ _ _ _ _ _ us hl => match us, hl with | [_, _, _, _], _ => rfl
  have F18 := fun_mk (st := s_l_bare_kind) l18 c18 k18
  have b18 := F18.binds (ps := ["_law_hand_here", "_law_many"]) fun _ _ _ _ _ _ us hl => match us, hl with | [_, _], _ => rfl
  have F19 := fun_mk (st := s_l_open_term) l19 c19 k19
  have b19 := F19.binds (ps := ["_law_hand_here", "_law_kind", "_law_sorts", "_law_sort", "_law_left"]) fun _ _ _ _ _ _ us hl => match us, hl with | [_, _, _, _, _], _ => rfl
  have F20 := fun_mk (st := s_l_sorts_drawn) l20 c20 k20
  have b20 := F20.binds (ps := ["_law_hand_here", "_law_kind", "_law_most"]) fun _ _ _ _ _ _ us hl => match us, hl with | [_, _, _], _ => rfl
  have F21 := fun_mk (st := s_l_written) l21 c21 k21
  have b21 := F21.binds (ps := ["_law_term"]) fun _ _ _ _ _ _ us hl => match us, hl with | [_], _ => rfl
  have F22 := fun_mk (st := s_l_term_at) l22 c22 k22
  have b22 := F22.binds (ps := ["_law_text"]) fun _ _ _ _ _ _ us hl => match us, hl with | [_], _ => rfl
  have F23 := fun_mk (st := s_l_term_of) l23 c23 k23
  have b23 := F23.binds (ps := ["_law_text"]) fun _ _ _ _ _ _ us hl => match us, hl with | [_], _ => rfl
  have F24 := fun_mk (st := s_l_text_bent) l24 c24 k24
  have b24 := F24.binds (ps := ["_law_hand_here", "_law_text"]) fun _ _ _ _ _ _ us hl => match us, hl with | [_, _], _ => rfl
  have F25 := fun_mk (st := s_l_told) l25 c25 k25
  have b25 := F25.binds (ps := ["_law_text"]) fun _ _ _ _ _ _ us hl => match us, hl with | [_], _ => rfl
  have F26 := fun_mk (st := s_l_right) l26 c26 k26
  have b26 := F26.binds (ps := ["_law_text"]) fun _ _ _ _ _ _ us hl => match us, hl with | [_], _ => rfl
  have F27 := fun_mk (st := s_law) l27 c27 k27
  have b27 := F27.binds (ps := ["_law_script"]) fun _ _ _ _ _ _ us hl => match us, hl with | [_], _ => rfl
  have T_FIGURES := PySem.W.mg_of X G t0
  have T_LETTERS := PySem.W.mg_of X G t1
  have T_MOST_FIGURES := PySem.W.mg_of X G t2
  have T_MOST_LETTERS := PySem.W.mg_of X G t3
  refine ⟨PySem.W.fnOf "law" "law" (defArgs s_law) (defBody s_law) (defScope s_law) .none kV27 dc27 pm27 an27 cd27 ct27, [], nmT, (fun x => if x = "TermReader" then Cc0 else if x = "NoText" then Cx0 else 0), (fun v => v = w), fun s v => .of_eq rfl, ?_, fun base hKb _ hTs => ?_⟩
  · exact fun P hP => nomatch hP
  letI : Amb := ambOf [] nmT (fun x => if x = "TermReader" then Cc0 else if x = "NoText" then Cx0 else 0) (fun v => v = w)
  have WD : Wd w := fun v => Iff.rfl
  have HC0 : Amb.cls "TermReader" = Cc0 := by
    show (if ("TermReader" : Str) = "TermReader" then Cc0 else if ("TermReader" : Str) = "NoText" then Cx0 else 0) = _
    simp
  have KC_TermReader : Cls K (Amb.cls "TermReader") := by rw [HC0]; exact ⟨cb0, cc_0, cd_0, ce_0⟩
  have NA_TermReader_text : NoAttr K (Amb.cls "TermReader") "text" := by rw [HC0]; exact cn0_0
  have NA_TermReader_spot : NoAttr K (Amb.cls "TermReader") "spot" := by rw [HC0]; exact cn0_1
  have NA_TermReader_begun : NoAttr K (Amb.cls "TermReader") "begun" := by rw [HC0]; exact cn0_2
  have NA_TermReader_ended : NoAttr K (Amb.cls "TermReader") "ended" := by rw [HC0]; exact cn0_3
  have HX0 : Amb.cls "NoText" = Cx0 := by
    show (if ("NoText" : Str) = "TermReader" then Cc0 else if ("NoText" : Str) = "NoText" then Cx0 else 0) = _
    rw [if_neg (by decide), if_pos rfl]
  have FX0 := fun_mk (st := s_x_NoText) exm0 exc0 exn0
  have bX0 := FX0.binds (ps := ["self", "row"]) fun _ _ _ _ _ _ us hl => match us, hl with | [_, _], _ => rfl
  have XD_NoText : ExcI l.prog w K mg base "NoText" "row" (Amb.cls "NoText") := by
    rw [HX0]
    exact c_x_NoText FX0 (PySem.W.mg_of X G exa0) ⟨⟨_, _, _, _, _, _, _, _, _, _, _, _, _, _, _, exl0, exr0⟩, exs0, exe0, ext0, exk0⟩ exf0 exi0 exj0 bX0 (PySem.W.mg_of X G exb0) ⟨exd0, exg0⟩ exv0 (B.all "str" (by decide))
  have GN_NoLine := PySem.W.mg_of X G ecn0
  have GN_NoStep := PySem.W.mg_of X G ecn1
  have GN_Stuck := PySem.W.mg_of X G ecn2
  have GN_TooMany := PySem.W.mg_of X G ecn3
  have TK_NoText : ToldD K (Amb.cls "NoText") "row" [.ref cn0, .ref cn1, .ref cn2, .ref cn3] := by
    rw [HX0]
    exact ⟨⟨ekg, ekk, exe0, ekd, eka, ekn, ekt, ekm⟩, ⟨ekg, ekk, exe0, ekd⟩, exf0, eky, eko⟩
  have GE_KindError := PySem.W.mg_of X G eea0
  have XM_NoText_KindError : PySem.W.exmOne K (.ref (Amb.cls "NoText")) (.ref cve0) = some true := by rw [HX0]; exact PySem.W.exm_ref eeb0 eec0 eed0 epx0
  have C_p_is_word := c_p_is_word (P := l.prog) (w := w) (base := base) F0 (PySem.W.mg_of X G a0) b0 B T_LETTERS T_MOST_LETTERS
  have C_p_stretch_of := c_p_stretch_of (P := l.prog) (w := w) (base := base) F1 (PySem.W.mg_of X G a1) b1 B
  have C_p_is_number := c_p_is_number (P := l.prog) (w := w) (base := base) F2 (PySem.W.mg_of X G a2) b2 B T_MOST_FIGURES
  have C_p_TermReader___init__ := c_p_TermReader___init__ (P := l.prog) (w := w) (base := base) F3 (by rw [HC0]; exact ⟨cf0, a3, j3, cg0⟩) (by rw [HC0]; exact PySem.W.mg_of X G ca0) b3 B KC_TermReader NA_TermReader_text NA_TermReader_spot NA_TermReader_begun NA_TermReader_ended
  have C_p_TermReader_close := c_p_TermReader_close (P := l.prog) (w := w) (base := base) F5 (by rw [HC0]; exact ⟨a5, j5, k5⟩) b5 B KC_TermReader NA_TermReader_text NA_TermReader_spot NA_TermReader_begun NA_TermReader_ended
  have C_l_hand := c_l_hand (P := l.prog) (w := w) (base := base) F10 (PySem.W.mg_of X G a10) b10 B
  have C_l_take := c_l_take (P := l.prog) (w := w) (base := base) F11 (PySem.W.mg_of X G a11) b11 B
  have C_p_TermReader_begin := c_p_TermReader_begin (P := l.prog) (w := w) (base := base) F4 (by rw [HC0]; exact ⟨a4, j4, k4⟩) b4 B KC_TermReader NA_TermReader_text NA_TermReader_spot NA_TermReader_begun NA_TermReader_ended C_p_stretch_of C_p_is_number C_p_is_word C_p_TermReader_close T_FIGURES T_LETTERS
  have C_p_TermReader_go_on := c_p_TermReader_go_on (P := l.prog) (w := w) (base := base) F6 (by rw [HC0]; exact ⟨a6, j6, k6⟩) b6 B KC_TermReader NA_TermReader_text NA_TermReader_spot NA_TermReader_begun NA_TermReader_ended C_p_TermReader_close
  have C_l_pick := c_l_pick (P := l.prog) (w := w) (base := base) F12 (PySem.W.mg_of X G a12) b12 B C_l_take
  have C_l_size := c_l_size (P := l.prog) (w := w) (base := base) F14 (PySem.W.mg_of X G a14) b14 B C_l_take
  have C_p_TermReader_whole_term := c_p_TermReader_whole_term (P := l.prog) (w := w) (base := base) F7 (by rw [HC0]; exact ⟨a7, j7, k7⟩) b7 B KC_TermReader NA_TermReader_text NA_TermReader_spot NA_TermReader_begun NA_TermReader_ended C_p_TermReader_begin C_p_TermReader_go_on
  have C_l_words := c_l_words (P := l.prog) (w := w) (base := base) F13 (PySem.W.mg_of X G a13) b13 B C_l_take C_l_pick
  have C_l_plains := c_l_plains (P := l.prog) (w := w) (base := base) F15 (PySem.W.mg_of X G a15) b15 B C_l_size
  have C_l_makers := c_l_makers (P := l.prog) (w := w) (base := base) F16 (PySem.W.mg_of X G a16) b16 B C_l_take C_l_pick C_l_size
  have C_l_askings := c_l_askings (P := l.prog) (w := w) (base := base) F17 (PySem.W.mg_of X G a17) b17 B C_l_take C_l_pick
  have C_l_sorts_drawn := c_l_sorts_drawn (P := l.prog) (w := w) (base := base) F20 (PySem.W.mg_of X G a20) b20 B C_l_take C_l_pick
  have C_l_text_bent := c_l_text_bent (P := l.prog) (w := w) (base := base) F24 (PySem.W.mg_of X G a24) b24 B C_l_take C_l_pick
  have C_p_term_in := c_p_term_in (P := l.prog) (w := w) (base := base) F8 (PySem.W.mg_of X G a8) b8 B KC_TermReader NA_TermReader_text NA_TermReader_spot NA_TermReader_begun NA_TermReader_ended C_p_TermReader_whole_term C_p_TermReader___init__
  have C_l_bare_kind := c_l_bare_kind (P := l.prog) (w := w) (base := base) F18 (PySem.W.mg_of X G a18) b18 B C_l_words C_l_plains C_l_makers C_l_askings C_l_size C_l_pick C_l_take
  have C_p_read_term := c_p_read_term (P := l.prog) (w := w) (base := base) F9 (PySem.W.mg_of X G a9) b9 B XD_NoText C_p_term_in
  have C_l_told := c_l_told (P := l.prog) (w := w) (base := base) F25 (PySem.W.mg_of X G a25) b25 B GN_NoLine GN_NoStep GN_Stuck GN_TooMany TK_NoText XD_NoText GE_KindError XM_NoText_KindError C_p_read_term
  have C_l_written := c_l_written (P := l.prog) (w := w) (base := base) F21 (PySem.W.mg_of X G a21) b21 B 60
  have C_l_term_at := c_l_term_at (P := l.prog) (w := w) (base := base) F22 (PySem.W.mg_of X G a22) b22 B 60
  have C_l_term_of := c_l_term_of (P := l.prog) (w := w) (base := base) F23 (PySem.W.mg_of X G a23) b23 B C_l_term_at
  have C_l_open_term := c_l_open_term (P := l.prog) (w := w) (base := base) F19 (PySem.W.mg_of X G a19) b19 B C_l_take C_l_pick 60
  have C_l_right := c_l_right (P := l.prog) (w := w) (base := base) F26 (PySem.W.mg_of X G a26) b26 B C_l_term_of C_l_told
  exact c_law F27 (PySem.W.mg_of X G a27) b27 B C_l_hand C_l_bare_kind C_l_sorts_drawn C_l_pick C_l_written C_l_open_term C_l_take C_l_text_bent C_l_right C_l_told
theorem room_law : RoomG 63 callerA := ⟨⟨rfl, by decide +kernel, by decide +kernel⟩, rfl⟩
theorem walk {l : PySem.W.OpenLaw} {q : Program} {loose : List Str} {XP : (Str → Option Value) → Heap → Prop} {YP : World → Heap → Prop} {d : DefRec} {K : Params → PySem.W.Frag} (hn : l.most = some 63) (hdf : d.params.defaults = []) (hrec : ∀ y ∈ ([] : List Str), ((recsOf q).any fun e => e.name == y) = true)
    (hY : ∀ (w : World) (h : Heap), YP w h → (K w.params).In h)
    (F : ∀ (w : World) (mg : Str → Option Value) (fa : Addr) (h : Heap), (K w.params).In h → h.Ns mainGlobals mg → mg d.name = some (.ref fa) →
      ∃ (fd : FuncData) (Ts : List Addr) (nm : Nat → Nat → Str) (cls : Str → Addr) (wd : World → Prop), (∀ (s : Shared) (u : Value), BindsTo s fd ⟨[u], []⟩ [("_law_script", u)]) ∧ (∀ P ∈ Ts, (K w.params).lookup P = none ∧ ∃ y c, y ∈ ([] : List Str) ∧ PySem.W.codeHdIn (K w.params) c P = true ∧ TabAt (K w.params) mg y c P) ∧
        ∀ base : Heap, (K w.params).In base → base.Ns mainGlobals mg → (∀ P ∈ Ts, base.BuiltinsAt mg P ∧ mainGlobals ≠ P) → @FnD (ambOf Ts nm cls wd) l.prog w (K w.params) mg base 63 fa fd ["_law_script"] (spP m_law)) :
    PySem.W.WalkO q loose XP YP l.row.toRowW d [] (fun f vs => PySem.call f vs) :=
  walkGC (n := 63) hn (by decide) hdf room_law hrec hY F fun ns hl => lawF (law_true ns hl)
end KX
open PySem PySem.W PyProof.Rows in
set_option maxRecDepth 100000 in
set_option maxHeartbeats 0 in
theorem PySem.Challenge.cw_lawkinds_k73_texts_of_no_terms_holds : PySem.Challenge.rw_lawkinds_k73_texts_of_no_terms.Holds := by
  w_on; o_law; k_head; (case hw => w_witness2)
  k_fill
  refine KX.walk (l := PySem.Challenge.rw_lawkinds_k73_texts_of_no_terms) rfl rfl ?hrec (fun w h Y => PySem.W.kIn_of Y) ?F
  case hrec => decide +kernel
  case F =>
    intro w mg fa h Ki G hmg
    refine' KX.all_mk Ki G hmg ?ca0 ?cb0 ?cc_0 ?cd_0 ?ce_0 ?cf0 ?cg0 ?cn0_0 ?cn0_1 ?cn0_2 ?cn0_3 ?exa0 ?exl0 ?exr0 ?exs0 ?exe0 ?ext0 ?exk0 ?exf0 ?exi0 ?exj0 ?exm0 ?exc0 ?exn0 ?exb0 ?exd0 ?exg0 ?exv0 ?eea0 ?eeb0 ?eec0 ?eed0 ?ecn0 ?ecn1 ?ecn2 ?ecn3 ?ekg ?ekk ?ekd ?eka ?ekn ?ekt ?ekm ?eky ?ekv ?eko ?ekz ?epx0 ?a0 ?l0 ?c0 ?k0 ?a1 ?l1 ?c1 ?k1 ?a2 ?l2 ?c2 ?k2 ?a3 ?j3 ?l3 ?c3 ?k3 ?a4 ?j4 ?l4 ?c4 ?k4 ?a5 ?j5 ?l5 ?c5 ?k5 ?a6 ?j6 ?l6 ?c6 ?k6 ?a7 ?j7 ?l7 ?c7 ?k7 ?a8 ?l8 ?c8 ?k8 ?a9 ?l9 ?c9 ?k9 ?a10 ?l10 ?c10 ?k10 ?a11 ?l11 ?c11 ?k11 ?a12 ?l12 ?c12 ?k12 ?a13 ?l13 ?c13 ?k13 ?a14 ?l14 ?c14 ?k14 ?a15 ?l15 ?c15 ?k15 ?a16 ?l16 ?c16 ?k16 ?a17 ?l17 ?c17 ?k17 ?a18 ?l18 ?c18 ?k18 ?a19 ?l19 ?c19 ?k19 ?a20 ?l20 ?c20 ?k20 ?a21 ?l21 ?c21 ?k21 ?a22 ?l22 ?c22 ?k22 ?a23 ?l23 ?c23 ?k23 ?a24 ?l24 ?c24 ?k24 ?a25 ?l25 ?c25 ?k25 ?a26 ?l26 ?c26 ?k26 ?a27 ?l27 ?c27 ?k27 ?t0 ?t1 ?t2 ?t3 ?z0 ?z1 ?z2 ?z3 ?z4 ?z5 ?z6 ?z7 ?z8 ?z9 ?z10 ?z11 ?z12 ?z13 ?z14 ?z15 ?z16 ?z17 ?z18 ?z19
    (case ca0 => k_is)
    (case cb0 => k_is)
    (case cc_0 => k_is)
    (case cd_0 => k_is)
    (case ce_0 => k_is)
    (case cf0 => k_is)
    (case cg0 => k_is)
    (case cn0_0 => k_is)
    (case cn0_1 => k_is)
    (case cn0_2 => k_is)
    (case cn0_3 => k_is)
    (case exa0 => k_is)
    (case exl0 => k_is)
    (case exr0 => decide +kernel)
    (case exs0 => k_is)
    (case exe0 => k_is)
    (case ext0 => k_is)
    (case exk0 => k_is)
    (case exf0 => k_is)
    (case exi0 => k_is)
    (case exj0 => k_is)
    (case exm0 => k_is)
    (case exc0 => k_is)
    (case exn0 => k_is)
    (case exb0 => k_is)
    (case exd0 => k_is)
    (case exg0 => k_is)
    (case exv0 => k_is)
    (case eea0 => k_is)
    (case eeb0 => k_is)
    (case eec0 => k_is)
    (case eed0 => k_is)
    (case ecn0 => k_is)
    (case ecn1 => k_is)
    (case ecn2 => k_is)
    (case ecn3 => k_is)
    (case ekg => k_is)
    (case ekk => k_is)
    (case ekd => k_is)
    (case eka => k_is)
    (case ekn => k_is)
    (case ekt => k_is)
    (case ekm => k_is)
    (case eky => kit_is)
    (case ekv => kit_is)
    (case eko => kit_is)
    (case ekz => k_is)
    (case epx0 => k_is)
    (case a0 => k_is)
    (case l0 => k_is)
    (case c0 => k_is)
    (case k0 => k_is)
    (case a1 => k_is)
    (case l1 => k_is)
    (case c1 => k_is)
    (case k1 => k_is)
    (case a2 => k_is)
    (case l2 => k_is)
    (case c2 => k_is)
    (case k2 => k_is)
    (case a3 => k_is)
    (case j3 => k_is)
    (case l3 => k_is)
    (case c3 => k_is)
    (case k3 => k_is)
    (case a4 => k_is)
    (case j4 => k_is)
    (case l4 => k_is)
    (case c4 => k_is)
    (case k4 => k_is)
    (case a5 => k_is)
    (case j5 => k_is)
    (case l5 => k_is)
    (case c5 => k_is)
    (case k5 => k_is)
    (case a6 => k_is)
    (case j6 => k_is)
    (case l6 => k_is)
    (case c6 => k_is)
    (case k6 => k_is)
    (case a7 => k_is)
    (case j7 => k_is)
    (case l7 => k_is)
    (case c7 => k_is)
    (case k7 => k_is)
    (case a8 => k_is)
    (case l8 => k_is)
    (case c8 => k_is)
    (case k8 => k_is)
    (case a9 => k_is)
    (case l9 => k_is)
    (case c9 => k_is)
    (case k9 => k_is)
    (case a10 => k_is)
    (case l10 => k_is)
    (case c10 => k_is)
    (case k10 => k_is)
    (case a11 => k_is)
    (case l11 => k_is)
    (case c11 => k_is)
    (case k11 => k_is)
    (case a12 => k_is)
    (case l12 => k_is)
    (case c12 => k_is)
    (case k12 => k_is)
    (case a13 => k_is)
    (case l13 => k_is)
    (case c13 => k_is)
    (case k13 => k_is)
    (case a14 => k_is)
    (case l14 => k_is)
    (case c14 => k_is)
    (case k14 => k_is)
    (case a15 => k_is)
    (case l15 => k_is)
    (case c15 => k_is)
    (case k15 => k_is)
    (case a16 => k_is)
    (case l16 => k_is)
    (case c16 => k_is)
    (case k16 => k_is)
    (case a17 => k_is)
    (case l17 => k_is)
    (case c17 => k_is)
    (case k17 => k_is)
    (case a18 => k_is)
    (case l18 => k_is)
    (case c18 => k_is)
    (case k18 => k_is)
    (case a19 => k_is)
    (case l19 => k_is)
    (case c19 => k_is)
    (case k19 => k_is)
    (case a20 => k_is)
    (case l20 => k_is)
    (case c20 => k_is)
    (case k20 => k_is)
    (case a21 => k_is)
    (case l21 => k_is)
    (case c21 => k_is)
    (case k21 => k_is)
    (case a22 => k_is)
    (case l22 => k_is)
    (case c22 => k_is)
    (case k22 => k_is)
    (case a23 => k_is)
    (case l23 => k_is)
    (case c23 => k_is)
    (case k23 => k_is)
    (case a24 => k_is)
    (case l24 => k_is)
    (case c24 => k_is)
    (case k24 => k_is)
    (case a25 => k_is)
    (case l25 => k_is)
    (case c25 => k_is)
    (case k25 => k_is)
    (case a26 => k_is)
    (case l26 => k_is)
    (case c26 => k_is)
    (case k26 => k_is)
    (case a27 => k_is)
    (case l27 => k_is)
    (case c27 => k_is)
    (case k27 => k_is)
    (case t0 => k_is)
    (case t1 => k_is)
    (case t2 => k_is)
    (case t3 => k_is)
    (case z0 => k_is)
    (case z1 => k_is)
    (case z2 => k_is)
    (case z3 => k_is)
    (case z4 => k_is)
    (case z5 => k_is)
    (case z6 => k_is)
    (case z7 => k_is)
    (case z8 => k_is)
    (case z9 => k_is)
    (case z10 => k_is)
    (case z11 => k_is)
    (case z12 => k_is)
    (case z13 => k_is)
    (case z14 => k_is)
    (case z15 => k_is)
    (case z16 => k_is)
    (case z17 => k_is)
    (case z18 => k_is)
    (case z19 => k_is)

