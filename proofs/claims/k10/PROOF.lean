import PyProof.Rows.All
import Wide.All
import OpenK.AllK
import Wide.FinOn
import HandS.ForMost
import HandS.Deep
import HandS.Wide
import HandS.Conv
import HandS.Nested
import HandS.TupAny
import HandS.TupLe
import HandS.Flow
import HandS.IsInst
import HandS.NoneIn
import HandS.Rev
import HandS.RevRange
import HandS.Zip
import KE.GoesEnum
import HandS.Style
import KE.KDictPairs
import HandS.TupMul
import KE.DataFind
import PyProof.ReprRoads
import PyProof.ReprLen
import KE.DataEq
import PyProof.NeKinds
import HandS.EndTab
import HandS.Lambda
import KE.KIndexOf
import KE.KEqNest
import PySem.Challenge.RW_lawkinds_k10_what_is_made
set_option Elab.async false
set_option linter.all false
set_option maxRecDepth 100000
set_option maxHeartbeats 4000000
set_option pp.maxSteps 400
namespace DL
open PySem PySem.Spec PyProof.Rows L2

/-- a value: tuples and lists that stay are plain data; ref: an object that may change, or a function -/
inductive D where
  | non | bl (b : Bool) | int (i : Int) | str (x : Str) | ty (n : String) | ref (a : Addr) | tup (ds : List D) | ilst (ds : List D) | edic
  deriving Inhabited

/-- a function object: what the heap tells of it, its code object, its cells -/
structure FK where
  p : Addr → Heap → Prop
  c : Addr
  qual : Str
  cl : List (Str × Addr)
  at_ : ∀ a h, p a h → PySem.W.FnAt a h
abbrev FK.o (F : FK) (a : Addr) : HO := .ext (F.p a)
/-- of a def -/
def FK.of (F : NdefX.NF) : FK := ⟨fun f h => ∃ (od : Option Addr) (sl : Array (Option Value)) (doc pm ctv : Value), h.get? f = some (⟨.type "function", od, .func (F.fd doc pm ctv), sl⟩ : Obj), F.c, F.qual, F.cl, fun a h ⟨od, sl, doc, pm, ctv, ho⟩ => ⟨_, od, _, sl, ho⟩⟩
/-- what stands at a reference -/
inductive Cell where
  | lst (ds : List D)
  | dic (kvs : List (Key × D))
  | sat (p : List D → Prop)
  | fn (F : FK)

/-- the tables of code objects of the defs that make functions -/
class Amb where
  tabs : List NdefX.NTab
instance (priority := low) : Amb := ⟨[]⟩
abbrev SD := Addr → Option Cell
abbrev ED := List (Option D)
def put (S : SD) (a : Addr) (c : Cell) : SD := fun b => if b = a then some c else S b
theorem put_same {S : SD} {a : Addr} {c : Cell} : put S a c a = some c := if_pos rfl
theorem put_ne {S : SD} {a b : Addr} {c : Cell} (h : b ≠ a) : put S a c b = S b := if_neg h
theorem put_put {S : SD} {a : Addr} {c c' : Cell} : put (put S a c) a c' = put S a c' := by
  funext b; unfold put; split <;> rfl
theorem put_comm {S : SD} {a b : Addr} {c c' : Cell} (h : a ≠ b) : put (put S a c) b c' = put (put S b c') a c := by
  funext x
  unfold put
  by_cases h1 : x = a
  · subst h1; rw [if_neg h, if_pos rfl, if_pos rfl]
  · by_cases h2 : x = b
    · subst h2; rw [if_pos rfl, if_neg h1, if_pos rfl]
    · simp only [if_neg h1, if_neg h2]

section
variable (K : PySem.W.Frag)
/-- a list that stays -/
def StL (H : Hp) (a : Addr) (vs : List V) : Prop := (∃ o, H a = some (.frz o (.lst vs))) ∨ SqL K (fun _ => none) a vs
/-- a plain tuple's object: no dict of its own -/
def PlainO (o : Obj) : Prop := o.cls = .type "tuple" ∧ o.dict = none ∧ ∃ its n, o.data = .seq its n
/-- a plain tuple -/
def PlT (H : Hp) (a : Addr) (vs : List V) : Prop := (∃ o, PlainO o ∧ H a = some (.frz o (.tup vs))) ∨
  ∃ (o : Obj) (its : Array Value) (n : Nat), K.lookup a = some o ∧ o.cls = .type "tuple" ∧ o.dict = none ∧ o.data = .seq its n ∧ its.size ≤ sizeLine ∧ Vals vs its.toList
mutual
def Den (H : Hp) : D → V → Prop
  | .non, v => v = .non
  | .bl b, v => v = .bl b
  | .int i, v => v = .int i
  | .str x, v => v = .str x
  | .ty n, v => v = .ty n
  | .ref a, v => v = .ref a
  | .tup ds, v => ∃ a vs, v = .ref a ∧ PlT K H a vs ∧ DenL H ds vs
  | .ilst ds, v => ∃ a vs, v = .ref a ∧ StL K H a vs ∧ DenL H ds vs
  | .edic, v => ∃ a o, v = .ref a ∧ H a = some (.frz o (.dK []))
def DenL (H : Hp) : List D → List V → Prop
  | [], vs => vs = []
  | d :: ds, vs => ∃ v r, vs = v :: r ∧ Den H d v ∧ DenL H ds r
end

def KVD (H : Hp) : List (Key × D) → List (Key × V) → Prop := Paired fun p q => p.1 = q.1 ∧ Den K H p.2 q.2
def CellOk (H : Hp) (a : Addr) : Cell → Prop
  | .lst ds => ∃ vs, H a = some (.lst vs) ∧ DenL K H ds vs
  | .dic kvs => ∃ kv, H a = some (.dK kv) ∧ KVD K H kvs kv
  | .sat p => ∃ ds vs, p ds ∧ H a = some (.lst vs) ∧ DenL K H ds vs
  | .fn F => H a = some (F.o a) ∧ H F.c = some (LamX.CodeO F.c F.qual)
structure RelS [Amb] (H : Hp) (S : SD) : Prop where
  cell : ∀ a c, S a = some c → CellOk K H a c
  tabs : NdefX.TabsN Amb.tabs H
def RelE (H : Hp) (σ : L2.St) (ε : ED) : Prop := σ.length = ε.length ∧ ∀ (i : Nat) (d : D), ε[i]? = some (some d) → ∃ v, σ[i]? = some (some v) ∧ Den K H d v
end
/-- what is tracked in H and not in S stays, and stays out of S -/
structure Frame (S : SD) (H : Hp) (S' : SD) (H' : Hp) : Prop where
  keep : ∀ a o, S a = none → H a = some o → (∀ ps, o ≠ .tbl ps) → H' a = some o ∧ S' a = none
  there : ∀ a, H' a = none → H a = none

section
variable [Amb] {K : PySem.W.Frag} {H H' H1 H2 : Hp} {S S' S1 S2 : SD}
theorem Frame.refl : Frame S H S H := ⟨fun _ _ h e _ => ⟨e, h⟩, fun _ h => h⟩
theorem Frame.trans (f : Frame S H S1 H1) (g : Frame S1 H1 S2 H2) : Frame S H S2 H2 := ⟨fun a o h e n =>
  let ⟨e1, h1⟩ := f.keep a o h e n
  g.keep a o h1 e1 n, fun a h => f.there a (g.there a h)⟩
theorem CellOk.at {a : Addr} {c : Cell} (h : CellOk K H a c) : ∃ o, H a = some o ∧ ((∃ xs, o = .lst xs) ∨ (∃ kv, o = .dK kv) ∨ ∃ F : FK, o = F.o a) := by
  cases c with
  | lst ds => obtain ⟨vs, e, _⟩ := h; exact ⟨_, e, .inl ⟨_, rfl⟩⟩
  | dic kvs => obtain ⟨kv, e, _⟩ := h; exact ⟨_, e, .inr (.inl ⟨_, rfl⟩)⟩
  | sat p => obtain ⟨_, vs, _, e, _⟩ := h; exact ⟨_, e, .inl ⟨_, rfl⟩⟩
  | fn F => exact ⟨_, h.1, .inr (.inr ⟨_, rfl⟩)⟩
theorem RelS.out {a : Addr} (r : RelS K H S) (h : ∀ o, H a = some o → (∀ xs, o ≠ .lst xs) ∧ (∀ kv, o ≠ .dK kv) ∧ ∀ F : FK, o ≠ F.o a) : S a = none := by
  cases e : S a with
  | none => rfl
  | some c =>
    obtain ⟨o, e1, q⟩ := (r.cell a c e).at
    obtain ⟨n1, n2, n3⟩ := h o e1
    rcases q with ⟨xs, q⟩ | ⟨kv, q⟩ | ⟨F, q⟩
    · exact absurd q (n1 xs)
    · exact absurd q (n2 kv)
    · exact absurd q (n3 F)
/-- the tables, when something else is written -/
theorem tabs_upd {p : Addr} {o : HO} (t : NdefX.TabsN Amb.tabs H) (hp : ∀ u, H p = some u → (∀ ps, u ≠ .tbl ps) ∧ ∀ q, u ≠ LamX.CodeO p q) : NdefX.TabsN Amb.tabs (upd H p o) := fun x hx => by
  obtain ⟨ps, h1, h2, h3⟩ := t x hx
  refine ⟨ps, ?_, h2, fun pos cv hc => ?_⟩
  · rw [upd_ne]
    · exact h1
    · rintro rfl
      exact (hp _ h1).1 _ rfl
  · obtain ⟨c, e1, e2⟩ := h3 pos cv hc
    refine ⟨c, e1, ?_⟩
    rw [upd_ne]
    · exact e2
    · rintro rfl
      exact (hp _ e2).2 _ rfl
theorem RelS.free {a : Addr} (r : RelS K H S) (h : H a = none) : S a = none := r.out fun o e => by rw [h] at e; cases e
theorem RelS.outFrz {a : Addr} {o : Obj} {u : HO} (r : RelS K H S) (h : H a = some (.frz o u)) : S a = none :=
  r.out fun o' e => by
    rw [h] at e
    cases e
    exact ⟨(fun _ z => nomatch z), (fun _ z => nomatch z), (fun _ z => nomatch z)⟩
theorem RelS.outTup {a : Addr} {xs : List V} (r : RelS K H S) (h : H a = some (.tup xs)) : S a = none :=
  r.out fun o' e => by
    rw [h] at e
    cases e
    exact ⟨(fun _ z => nomatch z), (fun _ z => nomatch z), (fun _ z => nomatch z)⟩
theorem plT_frame {a : Addr} {vs : List V} (r : RelS K H S) (f : Frame S H S' H') (h : PlT K H a vs) : PlT K H' a vs := by
  rcases h with ⟨o, p, h⟩ | h
  · exact .inl ⟨o, p, (f.keep a _ (r.outFrz h) h fun _ z => nomatch z).1⟩
  · exact .inr h
theorem PlT.sq {a : Addr} {vs : List V} (h : PlT K H a vs) : SqT K H a vs := by
  rcases h with ⟨o, _, h⟩ | ⟨o, its, n, h1, h2, _, h4, h5, h6⟩
  · exact .inl (.inr ⟨o, h⟩)
  · exact .inr ⟨o, its, n, h1, h2, h4, h5, h6⟩
theorem stL_frame {a : Addr} {vs : List V} (r : RelS K H S) (f : Frame S H S' H') (h : StL K H a vs) : StL K H' a vs := by
  rcases h with ⟨o, h⟩ | h
  · exact .inl ⟨o, (f.keep a _ (r.outFrz h) h fun _ z => nomatch z).1⟩
  · exact .inr h
theorem StL.sq {a : Addr} {vs : List V} (h : StL K H a vs) : SqL K H a vs := by
  rcases h with ⟨o, h⟩ | h
  · exact .inl (.inr ⟨o, h⟩)
  · rcases h with (h | ⟨o, h⟩) | h
    · cases h
    · cases h
    · exact .inr h
mutual
theorem Den.frame (r : RelS K H S) (f : Frame S H S' H') : ∀ (d : D) (v : V), Den K H d v → Den K H' d v
  | .non, _, h => h
  | .bl _, _, h => h
  | .int _, _, h => h
  | .str _, _, h => h
  | .ty _, _, h => h
  | .ref _, _, h => h
  | .tup ds, v, h => by
    obtain ⟨a, vs, e, h1, h2⟩ := (show ∃ a vs, v = .ref a ∧ PlT K H a vs ∧ DenL K H ds vs from h)
    exact (show ∃ a vs, v = .ref a ∧ PlT K H' a vs ∧ DenL K H' ds vs from ⟨a, vs, e, plT_frame r f h1, DenL.frame r f ds vs h2⟩)
  | .ilst ds, v, h => by
    obtain ⟨a, vs, e, h1, h2⟩ := (show ∃ a vs, v = .ref a ∧ StL K H a vs ∧ DenL K H ds vs from h)
    exact (show ∃ a vs, v = .ref a ∧ StL K H' a vs ∧ DenL K H' ds vs from ⟨a, vs, e, stL_frame r f h1, DenL.frame r f ds vs h2⟩)
  | .edic, v, h => by
    obtain ⟨a, o, e, h1⟩ := (show ∃ a o, v = .ref a ∧ H a = some (.frz o (.dK [])) from h)
    exact (show ∃ a o, v = .ref a ∧ H' a = some (.frz o (.dK [])) from ⟨a, o, e, (f.keep a _ (r.outFrz h1) h1 fun _ z => nomatch z).1⟩)
theorem DenL.frame (r : RelS K H S) (f : Frame S H S' H') : ∀ (ds : List D) (vs : List V), DenL K H ds vs → DenL K H' ds vs
  | [], _, h => h
  | d :: ds, vs, h => by
    obtain ⟨v, w, e, h1, h2⟩ := (show ∃ v r, vs = v :: r ∧ Den K H d v ∧ DenL K H ds r from h)
    exact (show ∃ v r, vs = v :: r ∧ Den K H' d v ∧ DenL K H' ds r from ⟨v, w, e, Den.frame r f d v h1, DenL.frame r f ds w h2⟩)
end
theorem DenL.length : ∀ {ds : List D} {vs : List V}, DenL K H ds vs → vs.length = ds.length
  | [], _, h => by
    cases (show _ = [] from h)
    rfl
  | d :: ds, vs, h => by
    obtain ⟨v, w, rfl, h1, h2⟩ := (show ∃ v r, vs = v :: r ∧ Den K H d v ∧ DenL K H ds r from h)
    rw [List.length_cons, List.length_cons, DenL.length h2]
theorem DenL.get : ∀ {ds : List D} {vs : List V} {i : Nat} {d : D}, DenL K H ds vs → ds[i]? = some d → ∃ v, vs[i]? = some v ∧ Den K H d v
  | [], _, _, _, _, e => by simp at e
  | d :: ds, vs, i, x, h, e => by
    obtain ⟨v, w, rfl, h1, h2⟩ := (show ∃ v r, vs = v :: r ∧ Den K H d v ∧ DenL K H ds r from h)
    cases i with
    | zero =>
      have e' : d = x := by simpa using e
      subst e'
      exact ⟨v, rfl, h1⟩
    | succ i =>
      obtain ⟨u, e1, e2⟩ := DenL.get (i := i) (d := x) h2 (by simpa using e)
      exact ⟨u, by simpa using e1, e2⟩
theorem DenL.get' : ∀ {ds : List D} {vs : List V} {i : Nat} {v : V}, DenL K H ds vs → vs[i]? = some v → ∃ d, ds[i]? = some d ∧ Den K H d v := fun {ds vs i v} h e => by
  have hl := h.length
  obtain ⟨hi, _⟩ := List.getElem?_eq_some_iff.mp e
  have hj : i < ds.length := by omega
  obtain ⟨u, e1, e2⟩ := h.get (List.getElem?_eq_getElem hj)
  rw [e] at e1
  cases e1
  exact ⟨_, List.getElem?_eq_getElem hj, e2⟩
theorem DenL.app : ∀ {ds es : List D} {vs us : List V}, DenL K H ds vs → DenL K H es us → DenL K H (ds ++ es) (vs ++ us)
  | [], _, vs, _, h, g => by
    cases (show vs = [] from h)
    exact g
  | d :: ds, es, vs, us, h, g => by
    obtain ⟨v, w, rfl, h1, h2⟩ := (show ∃ v r, vs = v :: r ∧ Den K H d v ∧ DenL K H ds r from h)
    exact (show ∃ v' r, _ = v' :: r ∧ Den K H d v' ∧ DenL K H (ds ++ es) r from ⟨v, w ++ us, rfl, h1, DenL.app h2 g⟩)
theorem DenL.nil : DenL K H [] [] := (rfl : ([] : List V) = [])
theorem DenL.cons {d : D} {ds : List D} {v : V} {vs : List V} (h : Den K H d v) (g : DenL K H ds vs) : DenL K H (d :: ds) (v :: vs) :=
  (show ∃ v' r, v :: vs = v' :: r ∧ Den K H d v' ∧ DenL K H ds r from ⟨v, vs, rfl, h, g⟩)
theorem DenL.one {d : D} {v : V} (h : Den K H d v) : DenL K H [d] [v] := DenL.cons h DenL.nil
theorem DenL.uncons {d : D} {ds : List D} {vs : List V} (h : DenL K H (d :: ds) vs) : ∃ v r, vs = v :: r ∧ Den K H d v ∧ DenL K H ds r := h
theorem DenL.nil_eq {vs : List V} (h : DenL K H [] vs) : vs = [] := h
theorem DenL.take : ∀ {ds : List D} {vs : List V} (n : Nat), DenL K H ds vs → DenL K H (ds.take n) (vs.take n)
  | [], vs, n, h => by
    cases (show vs = [] from h)
    rw [List.take_nil, List.take_nil]
    exact DenL.nil
  | d :: ds, vs, 0, h => DenL.nil
  | d :: ds, vs, n + 1, h => by
    obtain ⟨v, w, rfl, h1, h2⟩ := h.uncons
    exact DenL.cons h1 (DenL.take n h2)
theorem DenL.drop : ∀ {ds : List D} {vs : List V} (n : Nat), DenL K H ds vs → DenL K H (ds.drop n) (vs.drop n)
  | [], vs, n, h => by
    cases (show vs = [] from h)
    rw [List.drop_nil, List.drop_nil]
    exact DenL.nil
  | d :: ds, vs, 0, h => h
  | d :: ds, vs, n + 1, h => by
    obtain ⟨v, w, rfl, h1, h2⟩ := h.uncons
    exact DenL.drop n h2
theorem DenL.rev : ∀ {ds : List D} {vs : List V}, DenL K H ds vs → DenL K H ds.reverse vs.reverse
  | [], vs, h => by
    cases (show vs = [] from h)
    exact DenL.nil
  | d :: ds, vs, h => by
    obtain ⟨v, w, rfl, h1, h2⟩ := h.uncons
    rw [List.reverse_cons, List.reverse_cons]
    exact (DenL.rev h2).app (DenL.one h1)
theorem DenL.set : ∀ {ds : List D} {vs : List V} (i : Nat) {d : D} {v : V}, DenL K H ds vs → Den K H d v → DenL K H (ds.set i d) (vs.set i v)
  | [], vs, i, d, v, h, g => by
    cases (show vs = [] from h)
    exact DenL.nil
  | x :: ds, vs, 0, d, v, h, g => by
    obtain ⟨u, w, rfl, h1, h2⟩ := h.uncons
    exact DenL.cons g h2
  | x :: ds, vs, i + 1, d, v, h, g => by
    obtain ⟨u, w, rfl, h1, h2⟩ := h.uncons
    exact DenL.cons h1 (DenL.set i h2 g)
theorem DenL.erase : ∀ {ds : List D} {vs : List V} (i : Nat), DenL K H ds vs → DenL K H (ds.eraseIdx i) (vs.eraseIdx i)
  | [], vs, i, h => by
    cases (show vs = [] from h)
    exact DenL.nil
  | x :: ds, vs, 0, h => by
    obtain ⟨u, w, rfl, h1, h2⟩ := h.uncons
    exact h2
  | x :: ds, vs, i + 1, h => by
    obtain ⟨u, w, rfl, h1, h2⟩ := h.uncons
    exact DenL.cons h1 (DenL.erase i h2)
theorem denL_rep (n : Nat) {ds : List D} {vs : List V} (h : DenL K H ds vs) : DenL K H (List.replicate n ds).flatten (List.replicate n vs).flatten := by
  induction n with
  | zero => exact DenL.nil
  | succ n ih =>
    rw [List.replicate_succ, List.replicate_succ, List.flatten_cons, List.flatten_cons]
    exact h.app ih
theorem denL_ints : ∀ ns : List Int, DenL K H (ns.map D.int) (ns.map V.int)
  | [] => DenL.nil
  | _ :: r => DenL.cons rfl (denL_ints r)
theorem denL_ints' : ∀ {ns : List Int} {vs : List V}, DenL K H (ns.map D.int) vs → vs = ns.map V.int
  | [], _, h => h
  | n :: r, vs, h => by
    obtain ⟨v, w, rfl, h1, h2⟩ := h.uncons
    cases (show v = .int n from h1)
    rw [denL_ints' h2]
    rfl
theorem denL_bools' : ∀ {bs : List Bool} {vs : List V}, DenL K H (bs.map D.bl) vs → vs = bs.map V.bl
  | [], _, h => h
  | n :: r, vs, h => by
    obtain ⟨v, w, rfl, h1, h2⟩ := h.uncons
    cases (show v = .bl n from h1)
    rw [denL_bools' h2]
    rfl
theorem denL_strs' : ∀ {bs : List Str} {vs : List V}, DenL K H (bs.map D.str) vs → vs = bs.map V.str
  | [], _, h => h
  | n :: r, vs, h => by
    obtain ⟨v, w, rfl, h1, h2⟩ := h.uncons
    cases (show v = .str n from h1)
    rw [denL_strs' h2]
    rfl
theorem denL_strs : ∀ ns : List Str, DenL K H (ns.map D.str) (ns.map V.str)
  | [] => DenL.nil
  | _ :: r => DenL.cons rfl (denL_strs r)
theorem KVD.frame (r : RelS K H S) (f : Frame S H S' H') : ∀ {ds : List (Key × D)} {vs : List (Key × V)}, KVD K H ds vs → KVD K H' ds vs
  | _, _, .nil => .nil
  | _, _, .cons h t => .cons ⟨h.1, Den.frame r f _ _ h.2⟩ (KVD.frame r f t)
theorem RelE.frame {σ : L2.St} {ε : ED} (e : RelE K H σ ε) (r : RelS K H S) (f : Frame S H S' H') : RelE K H' σ ε :=
  ⟨e.1, fun i d h => let ⟨v, e1, e2⟩ := e.2 i d h; ⟨v, e1, e2.frame r f⟩⟩
theorem RelE.set {σ : L2.St} {ε : ED} (e : RelE K H σ ε) (i : Nat) {d : D} {v : V} (h : Den K H d v) : RelE K H (σ.set i (some v)) (ε.set i (some d)) := by
  refine ⟨by rw [List.length_set, List.length_set]; exact e.1, fun j x hj => ?_⟩
  by_cases hij : i = j
  · subst hij
    have hi : i < ε.length := by
      have h2 : (ε.set i (some d)).length = ε.length := List.length_set
      obtain ⟨q, _⟩ := List.getElem?_eq_some_iff.mp hj
      omega
    rw [List.getElem?_set_self hi] at hj
    cases hj
    have hσ : i < σ.length := by rw [e.1]; exact hi
    exact ⟨v, List.getElem?_set_self hσ, h⟩
  · rw [List.getElem?_set_ne hij] at hj
    obtain ⟨u, e1, e2⟩ := e.2 j x hj
    exact ⟨u, by rw [List.getElem?_set_ne hij]; exact e1, e2⟩
theorem upd_there {p a : Addr} {o : HO} (h : upd H p o a = none) : H a = none := by
  unfold upd at h
  split at h
  · cases h
  · exact h
/-- a new object that S does not tell of -/
theorem frame_new {p : Addr} {o : HO} (hp : H p = none) : Frame S H S (upd H p o) := ⟨fun a u h e _ =>
  ⟨by rw [upd_ne (ne_of_none e hp)]; exact e, h⟩, fun a h => upd_there h⟩
/-- a new object that S tells of from now on -/
theorem frame_add {p : Addr} {o : HO} {c : Cell} (hp : H p = none) : Frame S H (put S p c) (upd H p o) := ⟨fun a u h e _ =>
  ⟨by rw [upd_ne (ne_of_none e hp)]; exact e, by rw [put_ne (ne_of_none e hp)]; exact h⟩, fun a h => upd_there h⟩
/-- an object that S tells of is written -/
theorem frame_put {p : Addr} {o : HO} {c c' : Cell} (hp : S p = some c) : Frame S H (put S p c') (upd H p o) := ⟨fun a u h e _ => by
  have ne : a ≠ p := by
    rintro rfl
    rw [hp] at h
    cases h
  exact ⟨by rw [upd_ne ne]; exact e, by rw [put_ne ne]; exact h⟩, fun a h => upd_there h⟩
theorem RelS.frame_new {p : Addr} {o : HO} (r : RelS K H S) (hp : H p = none) : RelS K (upd H p o) S := by
  refine ⟨fun a c e => ?_, tabs_upd r.tabs fun u hu => by rw [hp] at hu; cases hu⟩
  have f : Frame S H S (upd H p o) := DL.frame_new hp
  have ne : a ≠ p := by
    rintro rfl
    obtain ⟨u, e1, _⟩ := (r.cell a c e).at
    rw [hp] at e1
    cases e1
  have h := r.cell a c e
  cases c with
  | lst ds => obtain ⟨vs, e1, e2⟩ := h; exact ⟨vs, by rw [upd_ne ne]; exact e1, DenL.frame r f ds vs e2⟩
  | dic kvs => obtain ⟨kv, e1, e2⟩ := h; exact ⟨kv, by rw [upd_ne ne]; exact e1, KVD.frame r f e2⟩
  | sat p => obtain ⟨ds, vs, q, e1, e2⟩ := h; exact ⟨ds, vs, q, by rw [upd_ne ne]; exact e1, DenL.frame r f ds vs e2⟩
  | fn F =>
    obtain ⟨e1, e2⟩ := h
    refine ⟨(upd_ne ne).trans e1, (upd_ne fun z => ?_).trans e2⟩
    rw [z, hp] at e2
    cases e2
theorem RelS.add {p : Addr} {o : HO} {c : Cell} (r : RelS K H S) (hp : H p = none) (h : CellOk K (upd H p o) p c) : RelS K (upd H p o) (put S p c) := by
  refine ⟨fun a x e => ?_, (r.frame_new hp).tabs⟩
  by_cases ha : a = p
  · subst ha
    rw [put_same] at e
    cases e
    exact h
  · rw [put_ne ha] at e
    exact (r.frame_new hp).cell a x e
theorem RelS.put {p : Addr} {o : HO} {c c' : Cell} (r : RelS K H S) (hp : S p = some c) (hc : ∀ F, c ≠ .fn F) (h : CellOk K (upd H p o) p c') : RelS K (upd H p o) (put S p c') := by
  refine ⟨fun a x e => ?_, tabs_upd r.tabs fun u hu => ?_⟩
  · by_cases ha : a = p
    · subst ha
      rw [put_same] at e
      cases e
      exact h
    · rw [put_ne ha] at e
      have f : Frame S H (DL.put S p c') (upd H p o) := frame_put hp
      have g := r.cell a x e
      cases x with
      | lst ds => obtain ⟨vs, e1, e2⟩ := g; exact ⟨vs, by rw [upd_ne ha]; exact e1, DenL.frame r f ds vs e2⟩
      | dic kvs => obtain ⟨kv, e1, e2⟩ := g; exact ⟨kv, by rw [upd_ne ha]; exact e1, KVD.frame r f e2⟩
      | sat p => obtain ⟨ds, vs, q, e1, e2⟩ := g; exact ⟨ds, vs, q, by rw [upd_ne ha]; exact e1, DenL.frame r f ds vs e2⟩
      | fn F =>
        obtain ⟨e1, e2⟩ := g
        refine ⟨(upd_ne ha).trans e1, (upd_ne fun z => ?_).trans e2⟩
        rw [z] at e2
        have g2 := r.cell p c hp
        cases c with
        | lst ds => obtain ⟨vs, y, _⟩ := g2; rw [y] at e2; cases e2
        | dic kvs => obtain ⟨kv, y, _⟩ := g2; rw [y] at e2; cases e2
        | sat p => obtain ⟨ds, vs, _, y, _⟩ := g2; rw [y] at e2; cases e2
        | fn F => exact hc F rfl
  · have g := r.cell p c hp
    cases c with
    | lst ds => obtain ⟨vs, e1, e2⟩ := g; rw [e1] at hu; cases hu; exact ⟨(fun _ z => nomatch z), fun _ z => nomatch z⟩
    | dic kvs => obtain ⟨kv, e1, e2⟩ := g; rw [e1] at hu; cases hu; exact ⟨(fun _ z => nomatch z), fun _ z => nomatch z⟩
    | sat p => obtain ⟨ds, vs, q, e1, e2⟩ := g; rw [e1] at hu; cases hu; exact ⟨(fun _ z => nomatch z), fun _ z => nomatch z⟩
    | fn F => exact (hc F rfl).elim
/-- forgetting cells, or what they are -/
def Cell.le : Cell → Cell → Prop
  | .sat p, .lst ds => p ds
  | .sat p, .sat q => ∀ ds, q ds → p ds
  | c, c' => c = c'
theorem CellOk.le {a : Addr} {c c' : Cell} (h : CellOk K H a c') (l : Cell.le c c') : CellOk K H a c := by
  cases c with
  | lst ds => cases (show Cell.lst ds = c' from l); exact h
  | dic kvs => cases (show Cell.dic kvs = c' from l); exact h
  | sat p =>
    cases c' with
    | lst ds => obtain ⟨vs, e1, e2⟩ := h; exact ⟨ds, vs, l, e1, e2⟩
    | dic kvs => cases (show Cell.sat p = Cell.dic kvs from l)
    | sat q => obtain ⟨ds, vs, e0, e1, e2⟩ := h; exact ⟨ds, vs, l ds e0, e1, e2⟩
    | fn F => cases (show Cell.sat p = Cell.fn F from l)
  | fn F => cases (show Cell.fn F = c' from l); exact h
/-- T tells less than S -/
def Sub (T S : SD) : Prop := ∀ a c, T a = some c → ∃ c', S a = some c' ∧ Cell.le c c'
theorem Cell.le_refl (c : Cell) : Cell.le c c := by
  cases c with
  | lst ds => exact rfl
  | dic kvs => exact rfl
  | sat p => exact fun _ h => h
  | fn F => exact rfl
theorem Sub.refl : Sub S S := fun _ c h => ⟨c, h, Cell.le_refl c⟩
theorem RelS.sub (r : RelS K H S) (h : Sub S' S) : RelS K H S' := ⟨fun a c e => by
  obtain ⟨c', e1, l⟩ := h a c e
  exact (r.cell a c' e1).le l, r.tabs⟩
theorem Frame.sub (f : Frame S H S1 H1) (h : Sub S2 S1) : Frame S H S2 H1 := by
  refine ⟨fun a o e1 e2 n => ?_, f.there⟩
  obtain ⟨q1, q2⟩ := f.keep a o e1 e2 n
  refine ⟨q1, ?_⟩
  cases e : S2 a with
  | none => rfl
  | some c =>
    obtain ⟨c', z, _⟩ := h a c e
    rw [q2] at z
    cases z
end
end DL

namespace DL
open PySem PySem.Spec PyProof.Rows L2
variable [Amb]

abbrev DK := D → SD → Prop
abbrev DTE := ED → SD → DK → Prop
abbrev DTT := ED → SD → (Bool → SD → Prop) → Prop
abbrev DTA := ED → SD → (List D → SD → Prop) → Prop
abbrev R2D := D → D → SD → DK → Prop
abbrev R1D := D → SD → DK → Prop
abbrev RAD := List D → SD → DK → Prop
structure DEnds where
  nx : ED → SD → Prop
  rt : DK
  bk : ED → SD → Prop := fun _ _ => False
  ct : ED → SD → Prop := fun _ _ => False
abbrev DTS := DEnds → ED → SD → Prop
abbrev DTG := D → ED → SD → (ED → SD → Prop) → Prop
abbrev DTGs := List D → ED → SD → (ED → SD → Prop) → Prop

section
variable (K : PySem.W.Frag)
def WkE (S : SD) (H : Hp) (Q0 : DK) (Q : VK) : Prop := ∀ d S' v H', Q0 d S' → Den K H' d v → RelS K H' S' → Frame S H S' H' → Q v H'
def WkT (S : SD) (H : Hp) (Q0 : Bool → SD → Prop) (Q : Bool → Hp → Prop) : Prop := ∀ b S' H', Q0 b S' → RelS K H' S' → Frame S H S' H' → Q b H'
def WkA (S : SD) (H : Hp) (Q0 : List D → SD → Prop) (Q : List V → Hp → Prop) : Prop := ∀ ds S' vs H', Q0 ds S' → DenL K H' ds vs → RelS K H' S' → Frame S H S' H' → Q vs H'
def WkN (S : SD) (H : Hp) (Q0 : ED → SD → Prop) (Q : L2.St → Hp → Prop) : Prop := ∀ ε' S' σ' H', Q0 ε' S' → RelE K H' σ' ε' → RelS K H' S' → Frame S H S' H' → Q σ' H'
structure WkD (S : SD) (H : Hp) (D0 : DEnds) (D : Ends) : Prop where
  nx : WkN K S H D0.nx D.nx
  rt : WkE K S H D0.rt D.rt
  bk : WkN K S H D0.bk D.bk
  ct : WkN K S H D0.ct D.ct
def liftE (t : DTE) : TE := fun σ H Q => ∃ ε S Q0, RelE K H σ ε ∧ RelS K H S ∧ t ε S Q0 ∧ WkE K S H Q0 Q
def liftT (t : DTT) : TT := fun σ H Q => ∃ ε S Q0, RelE K H σ ε ∧ RelS K H S ∧ t ε S Q0 ∧ WkT K S H Q0 Q
def liftA (t : DTA) : TA := fun σ H Q => ∃ ε S Q0, RelE K H σ ε ∧ RelS K H S ∧ t ε S Q0 ∧ WkA K S H Q0 Q
def lift2 (r : R2D) : R2 := fun x y H Q => ∃ d e S Q0, Den K H d x ∧ Den K H e y ∧ RelS K H S ∧ r d e S Q0 ∧ WkE K S H Q0 Q
def lift1 (r : R1D) : V → Hp → VK → Prop := fun x H Q => ∃ d S Q0, Den K H d x ∧ RelS K H S ∧ r d S Q0 ∧ WkE K S H Q0 Q
def liftC (r : RAD) : List V → Hp → VK → Prop := fun xs H Q => ∃ ds S Q0, DenL K H ds xs ∧ RelS K H S ∧ r ds S Q0 ∧ WkE K S H Q0 Q
def liftS (t : DTS) : TS := fun D σ H => ∃ ε S D0, RelE K H σ ε ∧ RelS K H S ∧ t D0 ε S ∧ WkD K S H D0 D
def liftG (vs : List Nat) (t : DTG) : TG := fun v σ H Q => ∃ d ε S Q0, Den K H d v ∧ RelE K H σ ε ∧ RelS K H S ∧ t d ε S Q0 ∧
  ∀ ε' S' σ' H', Q0 ε' S' → RelE K H' σ' ε' → RelS K H' S' → Frame S H S' H' → wipe σ' vs = wipe σ vs → Q σ' H'
def liftGs (vs : List Nat) (t : DTGs) : TGs := fun xs σ H Q => ∃ ds ε S Q0, DenL K H ds xs ∧ RelE K H σ ε ∧ RelS K H S ∧ t ds ε S Q0 ∧
  ∀ ε' S' σ' H', Q0 ε' S' → RelE K H' σ' ε' → RelS K H' S' → Frame S H S' H' → wipe σ' vs = wipe σ vs → Q σ' H'
end

section
variable {K : PySem.W.Frag} {S S1 S2 : SD} {H H1 : Hp}
theorem WkE.frame {Q0 : DK} {Q : VK} (k : WkE K S H Q0 Q) (f : Frame S H S1 H1) : WkE K S1 H1 Q0 Q := fun d S' v H' a b c g => k d S' v H' a b c (f.trans g)
theorem WkT.frame {Q0 : Bool → SD → Prop} {Q : Bool → Hp → Prop} (k : WkT K S H Q0 Q) (f : Frame S H S1 H1) : WkT K S1 H1 Q0 Q := fun d S' H' a c g => k d S' H' a c (f.trans g)
theorem WkA.frame {Q0 : List D → SD → Prop} {Q : List V → Hp → Prop} (k : WkA K S H Q0 Q) (f : Frame S H S1 H1) : WkA K S1 H1 Q0 Q := fun d S' v H' a b c g => k d S' v H' a b c (f.trans g)
theorem WkN.frame {Q0 : ED → SD → Prop} {Q : L2.St → Hp → Prop} (k : WkN K S H Q0 Q) (f : Frame S H S1 H1) : WkN K S1 H1 Q0 Q := fun d S' v H' a b c g => k d S' v H' a b c (f.trans g)
theorem WkD.frame {D0 : DEnds} {D : Ends} (k : WkD K S H D0 D) (f : Frame S H S1 H1) : WkD K S1 H1 D0 D := ⟨k.nx.frame f, k.rt.frame f, k.bk.frame f, k.ct.frame f⟩
end

abbrev DE (X : Cx) (e : Expr) (t : DTE) : Prop := PE X e (liftE X.K t)
abbrev DT (X : Cx) (e : Expr) (t : DTT) : Prop := PT X e (liftT X.K t)
abbrev DA (X : Cx) (es : List Expr) (t : DTA) : Prop := PA X es (liftA X.K t)
abbrev DS (X : Cx) (st : Stmt) (t : DTS) : Prop := PS X st (liftS X.K t)
abbrev DSs (X : Cx) (st : List Stmt) (t : DTS) : Prop := PSs X st (liftS X.K t)
abbrev DG (X : Cx) (tg : Expr) (vs : List Nat) (t : DTG) : Prop := PG X tg (liftG X.K vs t)
abbrev DGs (X : Cx) (tg : List Expr) (vs : List Nat) (t : DTGs) : Prop := PGs X tg (liftGs X.K vs t)
abbrev DOp (X : Cx) (f : Value → Value → Sem Value) (r : R2D) : Prop := OpR X f (lift2 X.K r)
abbrev DIx (X : Cx) (r : R2D) : Prop := IxR X (lift2 X.K r)
abbrev DCall (X : Cx) (f : Value) (r : RAD) : Prop := CallR X f (liftC X.K r)

section
variable {X : Cx}
theorem PE_imp {e : Expr} {t t' : TE} (h : PE X e t) (i : ∀ σ H Q, t' σ H Q → t σ H Q) : PE X e t' := ⟨fun pins s σ H Q I q => h.run pins s σ H Q I (i σ H Q q)⟩
theorem PT_imp {e : Expr} {t t' : TT} (h : PT X e t) (i : ∀ σ H Q, t' σ H Q → t σ H Q) : PT X e t' := ⟨fun pins s σ H Q I q => h.run pins s σ H Q I (i σ H Q q)⟩
theorem PA_imp {e : List Expr} {t t' : TA} (h : PA X e t) (i : ∀ σ H Q, t' σ H Q → t σ H Q) : PA X e t' := ⟨fun pos pins s σ H Q I q => h.run pos pins s σ H Q I (i σ H Q q)⟩
theorem PS_imp {e : Stmt} {t t' : TS} (h : PS X e t) (i : ∀ D σ H, t' D σ H → t D σ H) : PS X e t' := ⟨fun pins s σ H D I q => h.run pins s σ H D I (i D σ H q)⟩
theorem PSs_imp {e : List Stmt} {t t' : TS} (h : PSs X e t) (i : ∀ D σ H, t' D σ H → t D σ H) : PSs X e t' := ⟨fun pins s σ H D I q => h.run pins s σ H D I (i D σ H q)⟩
theorem PG_imp {e : Expr} {t t' : TG} (h : PG X e t) (i : ∀ v σ H Q, t' v σ H Q → t v σ H Q) : PG X e t' := ⟨fun pins s σ H v u Q I r q => h.run pins s σ H v u Q I r (i v σ H Q q)⟩
theorem PGs_imp {e : List Expr} {t t' : TGs} (h : PGs X e t) (i : ∀ v σ H Q, t' v σ H Q → t v σ H Q) : PGs X e t' := ⟨fun pins s σ H v u Q I r q => h.run pins s σ H v u Q I r (i v σ H Q q)⟩
theorem OpR_imp {f : Value → Value → Sem Value} {r r' : R2} (h : OpR X f r) (i : ∀ x y H Q, r' x y H Q → r x y H Q) : OpR X f r' := fun pins s σ H x y v u Q I rx ry q => h pins s σ H x y v u Q I rx ry (i x y H Q q)
theorem IxR_imp {r r' : R2} (h : IxR X r) (i : ∀ x y H Q, r' x y H Q → r x y H Q) : IxR X r' := fun ve se pins s σ H x y v u Q I rx ry q => h ve se pins s σ H x y v u Q I rx ry (i x y H Q q)
theorem CallR_imp {f : Value} {r r' : List V → Hp → VK → Prop} (h : CallR X f r) (i : ∀ xs H Q, r' xs H Q → r xs H Q) : CallR X f r' := fun pins s σ H xs us Q I r q => h pins s σ H xs us Q I r (i xs H Q q)
theorem MtR_imp {id : String} {r r' : V → List V → Hp → VK → Prop} (h : MtR X id r) (i : ∀ x xs H Q, r' x xs H Q → r x xs H Q) : MtR X id r' := fun pins s σ H x xs v us Q I rx r q => h pins s σ H x xs v us Q I rx r (i x xs H Q q)

def dVar (i : Nat) : DTE := fun ε S Q => ∃ d, ε[i]? = some (some d) ∧ Q d S
def dC (d : D) : DTE := fun _ S Q => Q d S
variable {a b c e : Expr} {es : List Expr} {ta tb tc : DTE} {pos : Pos}
theorem de_var (i : Nat) {x : Str} {pos : Pos} (hN : X.N[i]? = some x := by rfl) (hv : Vis X.env.scope x := by first | exact Or.inl rfl | exact Or.inr (Or.inl rfl) | exact Or.inr (Or.inr rfl)) (hd : (x == ("__debug__" : Str)) = false := by decide)
    (hcd : (x == ("__classdict__" : Str)) = false := by decide) : DE X (.Name x pos) (dVar i) :=
  PE_imp (pe_var hN hv hd hcd) fun σ H Q ⟨ε, S, Q0, rE, rS, ⟨d, e1, q⟩, k⟩ => by
    obtain ⟨v, e2, den⟩ := rE.2 i d e1
    exact ⟨v, e2, k d S v H q den rS Frame.refl⟩
theorem de_con {d : D} {v : V} (h : PE X e (tC v)) (hd : ∀ K H, Den K H d v) : DE X e (dC d) :=
  PE_imp h fun σ H Q ⟨ε, S, Q0, rE, rS, q, k⟩ => k d S v H q (hd _ _) rS Frame.refl
theorem de_int {i j pos} : DE X (.Constant (.int i) j pos) (dC (.int i)) := de_con pe_int fun _ _ => rfl
theorem de_bl {b j pos} : DE X (.Constant (.bool b) j pos) (dC (.bl b)) := de_con pe_bl fun _ _ => rfl
theorem de_non {j pos} : DE X (.Constant .none j pos) (dC .non) := de_con pe_non fun _ _ => rfl
theorem de_str {x j pos} : DE X (.Constant (.str x) j pos) (dC (.str x)) := de_con pe_str fun _ _ => rfl
/-- a module's constant that is a text or a whole number -/
theorem de_gstr {x : Str} {z : Str} {t : Tok} {pos : Pos} (hg : Gl X x) (hm : X.mg x = some (.str z t)) (hd : (x == ("__debug__" : Str)) = false := by decide) : DE X (.Name x pos) (dC (.str z)) := de_con (pe_glob (v := .str z) hg hm ⟨t, rfl⟩ hd) fun _ _ => rfl
theorem de_gint {x : Str} {z : Int} {t : Tok} {pos : Pos} (hg : Gl X x) (hm : X.mg x = some (.int z t)) (hd : (x == ("__debug__" : Str)) = false := by decide) : DE X (.Name x pos) (dC (.int z)) := de_con (pe_glob (v := .int z) hg hm ⟨t, rfl⟩ hd) fun _ _ => rfl
theorem de_gtype {x : Str} {T : String} {pos : Pos} (hg : Gl X x) (hm : X.mg x = none) (hv : bootBuiltins x = some (.type T)) (hn : x ≠ "__name__" := by decide) (hd : (x == ("__debug__" : Str)) = false := by decide) : DE X (.Name x pos) (dC (.ty T)) := de_con (pe_bltn (v := .ty T) hg hm hv rfl hn hd) fun _ _ => rfl

def dOp (r : R2D) (ta tb : DTE) : DTE := fun ε S Q => ta ε S fun x S1 => tb ε S1 fun y S2 => r x y S2 Q
theorem dOp_lift {K : PySem.W.Frag} {r : R2D} {σ : L2.St} {H : Hp} {Q : VK} (h : liftE K (dOp r ta tb) σ H Q) : tOp (lift2 K r) (liftE K ta) (liftE K tb) σ H Q := by
  obtain ⟨ε, S, Q0, rE, rS, q, k⟩ := h
  exact ⟨ε, S, _, rE, rS, q, fun d S1 v H1 q1 den1 rS1 f1 => ⟨ε, S1, _, rE.frame rS f1, rS1, q1, fun e S2 u H2 q2 den2 rS2 f2 =>
    ⟨d, e, S2, Q0, den1.frame rS1 f2, den2, rS2, q2, k.frame (f1.trans f2)⟩⟩⟩
theorem de_op {op : Operator} {r : R2D} (ho : DOp X (binaryOp op) r) (ha : DE X a ta) (hb : DE X b tb) : DE X (.BinOp a op b pos) (dOp r ta tb) :=
  PE_imp (pe_op ho ha hb) fun _ _ _ => dOp_lift
theorem de_cmp {op : CmpOp} {r : R2D} (ho : DOp X (compareOp op) r) (ha : DE X a ta) (hb : DE X b tb) (hm : behindInMarks op b = false := by first | exact nomark _ | with_unfolding_all rfl) : DE X (.Compare a [op] [b] pos) (dOp r ta tb) :=
  PE_imp (pe_cmpR ho ha hb hm) fun _ _ _ => dOp_lift
/-- a value (a truth) as a test -/
def dB (t : DTE) : DTT := fun ε S Q => t ε S fun x S1 => ∃ c, x = .bl c ∧ Q c S1
theorem dB_lift {K : PySem.W.Frag} {t : DTE} {t' : TE} (i : ∀ σ H Q, liftE K t σ H Q → t' σ H Q) : ∀ σ H Q, liftT K (dB t) σ H Q → t' σ H (fun x H1 => ∃ c, x = .bl c ∧ Q c H1) := by
  intro σ H Q ⟨ε, S, Q0, rE, rS, q, k⟩
  refine i σ H _ ⟨ε, S, _, rE, rS, q, fun d S1 v H1 q1 den rS1 f1 => ?_⟩
  obtain ⟨b, rfl, q2⟩ := q1
  exact ⟨b, den, k b S1 H1 q2 rS1 f1⟩
theorem dt_cmp {op : CmpOp} {r : R2D} (ho : DOp X (compareOp op) r) (ha : DE X a ta) (hb : DE X b tb) (hm : behindInMarks op b = false := by first | exact nomark _ | with_unfolding_all rfl) : DT X (.Compare a [op] [b] pos) (dB (dOp r ta tb)) :=
  PT_imp (pt_cmpR ho ha hb hm) (dB_lift fun _ _ _ => dOp_lift)
theorem dt_val {t : DTE} (h : DE X e t) (he : ∀ whole, isTrue e X.env whole = (do let v ← whole; standAt e.pos; holding [v] (truthy v)) := by intro _; rfl) : DT X e (dB t) :=
  PT_imp (pt_val h he) (dB_lift fun _ _ _ q => q)
/-- a op b op' c -/
def dChain (r r' : R2D) (ta tb tc : DTE) : DTE := fun ε S Q => ta ε S fun x S1 => tb ε S1 fun y S2 => r x y S2 fun z S3 => ∃ k, z = .bl k ∧ if k = true then tc ε S3 (fun w S4 => r' y w S4 Q) else Q (.bl false) S3
theorem dChain_lift {K : PySem.W.Frag} {r r' : R2D} {σ : L2.St} {H : Hp} {Q : VK} (h : liftE K (dChain r r' ta tb tc) σ H Q) : tChain (lift2 K r) (lift2 K r') (liftE K ta) (liftE K tb) (liftE K tc) σ H Q := by
  obtain ⟨ε, S, Q0, rE, rS, q, k⟩ := h
  refine ⟨ε, S, _, rE, rS, q, fun d S1 v H1 q1 den1 rS1 f1 => ⟨ε, S1, _, rE.frame rS f1, rS1, q1, fun e S2 u H2 q2 den2 rS2 f2 =>
    ⟨d, e, S2, _, den1.frame rS1 f2, den2, rS2, q2, fun z S3 w H3 q3 den3 rS3 f3 => ?_⟩⟩⟩
  obtain ⟨b, rfl, q4⟩ := q3
  refine ⟨b, den3, ?_⟩
  cases b with
  | false => exact k (.bl false) S3 (.bl false) H3 q4 rfl rS3 ((f1.trans f2).trans f3)
  | true =>
    refine ⟨ε, S3, _, ((rE.frame rS f1).frame rS1 f2).frame rS2 f3, rS3, q4, fun g S4 u4 H4 q5 den4 rS4 f4 => ?_⟩
    exact ⟨e, g, S4, Q0, (den2.frame rS2 f3).frame rS3 f4, den4, rS4, q5, k.frame (((f1.trans f2).trans f3).trans f4)⟩
theorem de_chain {op op' : CmpOp} {r r' : R2D} (ho : DOp X (compareOp op) r) (ho' : DOp X (compareOp op') r') (ha : DE X a ta) (hb : DE X b tb) (hc : DE X c tc) (hm : lastMarks [op, op'] [b, c] = false := by with_unfolding_all rfl) :
    DE X (.Compare a [op, op'] [b, c] pos) (dChain r r' ta tb tc) := PE_imp (pe_chain ho ho' ha hb hc hm) fun _ _ _ => dChain_lift
theorem dt_chain {op op' : CmpOp} {r r' : R2D} (ho : DOp X (compareOp op) r) (ho' : DOp X (compareOp op') r') (ha : DE X a ta) (hb : DE X b tb) (hc : DE X c tc) (hm : lastMarks [op, op'] [b, c] = false := by with_unfolding_all rfl) :
    DT X (.Compare a [op, op'] [b, c] pos) (dB (dChain r r' ta tb tc)) := PT_imp (pt_chain ho ho' ha hb hc hm) (dB_lift fun _ _ _ => dChain_lift)
/-- is None, is not None -/
def dIsN (ta : DTE) : DTE := fun ε S Q => ta ε S fun x S1 => ∃ k, (x = .non ↔ k = true) ∧ Q (.bl k) S1
def dNotN (ta : DTE) : DTE := fun ε S Q => ta ε S fun x S1 => ∃ k, (x = .non ↔ k = false) ∧ Q (.bl k) S1
theorem den_non {K : PySem.W.Frag} {H : Hp} {d : D} {v : V} (h : Den K H d v) : v = .non ↔ d = .non := by
  cases d with
  | non => exact ⟨fun _ => rfl, fun _ => h⟩
  | bl b => cases (show v = .bl b from h); exact ⟨(fun z => nomatch z), (fun z => nomatch z)⟩
  | int b => cases (show v = .int b from h); exact ⟨(fun z => nomatch z), (fun z => nomatch z)⟩
  | str b => cases (show v = .str b from h); exact ⟨(fun z => nomatch z), (fun z => nomatch z)⟩
  | ty b => cases (show v = .ty b from h); exact ⟨(fun z => nomatch z), (fun z => nomatch z)⟩
  | ref b => cases (show v = .ref b from h); exact ⟨(fun z => nomatch z), (fun z => nomatch z)⟩
  | tup ds =>
    obtain ⟨p, vs, rfl, _⟩ := (show ∃ a vs, v = .ref a ∧ PlT K H a vs ∧ DenL K H ds vs from h)
    exact ⟨(fun z => nomatch z), (fun z => nomatch z)⟩
  | ilst ds =>
    obtain ⟨p, vs, rfl, _⟩ := (show ∃ a vs, v = .ref a ∧ StL K H a vs ∧ DenL K H ds vs from h)
    exact ⟨(fun z => nomatch z), (fun z => nomatch z)⟩
  | edic =>
    obtain ⟨p, vs, rfl, _⟩ := (show ∃ a o, v = .ref a ∧ H a = some (.frz o (.dK [])) from h)
    exact ⟨(fun z => nomatch z), (fun z => nomatch z)⟩
theorem dIsN_lift {K : PySem.W.Frag} {σ : L2.St} {H : Hp} {Q : VK} (h : liftE K (dIsN ta) σ H Q) : tIsN (liftE K ta) σ H Q := by
  obtain ⟨ε, S, Q0, rE, rS, q, k⟩ := h
  refine ⟨ε, S, _, rE, rS, q, fun d S1 v H1 q1 den rS1 f1 => ?_⟩
  obtain ⟨b, hb, q2⟩ := q1
  have e : decide (v = .non) = b := by
    cases b with
    | true => exact decide_eq_true ((den_non den).mpr (hb.mpr rfl))
    | false => exact decide_eq_false fun z => Bool.false_ne_true (hb.mp ((den_non den).mp z))
  rw [e]
  exact k _ S1 _ H1 q2 rfl rS1 f1
theorem dNotN_lift {K : PySem.W.Frag} {σ : L2.St} {H : Hp} {Q : VK} (h : liftE K (dNotN ta) σ H Q) : tNotN (liftE K ta) σ H Q := by
  obtain ⟨ε, S, Q0, rE, rS, q, k⟩ := h
  refine ⟨ε, S, _, rE, rS, q, fun d S1 v H1 q1 den rS1 f1 => ?_⟩
  obtain ⟨b, hb, q2⟩ := q1
  have e : (!decide (v = .non)) = b := by
    cases b with
    | false => rw [decide_eq_true ((den_non den).mpr (hb.mpr rfl))]; rfl
    | true => rw [decide_eq_false fun z => Bool.noConfusion (hb.mp ((den_non den).mp z))]; rfl
  rw [e]
  exact k _ S1 _ H1 q2 rfl rS1 f1
theorem de_isN {j pos'} (ha : DE X a ta) : DE X (.Compare a [.Is] [.Constant .none j pos'] pos) (dIsN ta) := PE_imp (pe_cmp (pc_isN ha) rfl) fun _ _ _ => dIsN_lift
theorem de_notN {j pos'} (ha : DE X a ta) : DE X (.Compare a [.IsNot] [.Constant .none j pos'] pos) (dNotN ta) := PE_imp (pe_cmp (pc_notN ha) rfl) fun _ _ _ => dNotN_lift
theorem dt_isN {j pos'} (ha : DE X a ta) : DT X (.Compare a [.Is] [.Constant .none j pos'] pos) (dB (dIsN ta)) := PT_imp (pt_cmp (pc_isN ha) rfl) (dB_lift fun _ _ _ => dIsN_lift)
theorem dt_notN {j pos'} (ha : DE X a ta) : DT X (.Compare a [.IsNot] [.Constant .none j pos'] pos) (dB (dNotN ta)) := PT_imp (pt_cmp (pc_notN ha) rfl) (dB_lift fun _ _ _ => dNotN_lift)

def dAnd (t u : DTT) : DTT := fun ε S Q => t ε S fun k S1 => if k = true then u ε S1 Q else Q false S1
def dOr (t u : DTT) : DTT := fun ε S Q => t ε S fun k S1 => if k = true then Q true S1 else u ε S1 Q
def dNot (t : DTT) : DTT := fun ε S Q => t ε S fun k S1 => Q (!k) S1
abbrev DW (X : Cx) (e : Expr) (t : DTT) : Prop := PW X e (liftT X.K t)
theorem PW_imp {e : Expr} {t t' : TT} (h : PW X e t) (i : ∀ σ H Q, t' σ H Q → t σ H Q) : PW X e t' := ⟨fun wh pins s σ H Q I q => h.run wh pins s σ H Q I (i σ H Q q)⟩
variable {t u : DTT} {rest : List Expr}
theorem dw_and1 (h : DT X a t) : DW X (.BoolOp .And [a] pos) t := pw_and1 h
theorem dw_or1 (h : DT X a t) : DW X (.BoolOp .Or [a] pos) t := pw_or1 h
theorem dw_and (ha : DT X a t) (hb : DW X (.BoolOp .And (b :: rest) pos) u) : DW X (.BoolOp .And (a :: b :: rest) pos) (dAnd t u) :=
  PW_imp (pw_and ha hb) fun σ H Q ⟨ε, S, Q0, rE, rS, q, k⟩ => ⟨ε, S, _, rE, rS, q, fun d S1 H1 q1 rS1 f1 => by
    cases d with
    | true => exact ⟨ε, S1, Q0, rE.frame rS f1, rS1, q1, k.frame f1⟩
    | false => exact k false S1 H1 q1 rS1 f1⟩
theorem dw_or (ha : DT X a t) (hb : DW X (.BoolOp .Or (b :: rest) pos) u) : DW X (.BoolOp .Or (a :: b :: rest) pos) (dOr t u) :=
  PW_imp (pw_or ha hb) fun σ H Q ⟨ε, S, Q0, rE, rS, q, k⟩ => ⟨ε, S, _, rE, rS, q, fun d S1 H1 q1 rS1 f1 => by
    cases d with
    | false => exact ⟨ε, S1, Q0, rE.frame rS f1, rS1, q1, k.frame f1⟩
    | true => exact k true S1 H1 q1 rS1 f1⟩
theorem dt_w (h : DW X e t) : DT X e t := PW.pt h
theorem dt_not (ha : DT X a t) : DT X (.UnaryOp .Not a pos) (dNot t) :=
  PT_imp (pt_not ha) fun σ H Q ⟨ε, S, Q0, rE, rS, q, k⟩ => ⟨ε, S, _, rE, rS, q, fun d S1 H1 q1 rS1 f1 => k _ S1 H1 q1 rS1 f1⟩
def dIf (t : DTT) (ta tb : DTE) : DTE := fun ε S Q => t ε S fun k S1 => if k = true then ta ε S1 Q else tb ε S1 Q
theorem de_if (hc : DT X c t) (ha : DE X a ta) (hb : DE X b tb) : DE X (.IfExp c a b pos) (dIf t ta tb) :=
  PE_imp (pe_ifExp hc ha hb) fun σ H Q ⟨ε, S, Q0, rE, rS, q, k⟩ => ⟨ε, S, _, rE, rS, q, fun d S1 H1 q1 rS1 f1 => by
    cases d with
    | true => exact ⟨ε, S1, Q0, rE.frame rS f1, rS1, q1, k.frame f1⟩
    | false => exact ⟨ε, S1, Q0, rE.frame rS f1, rS1, q1, k.frame f1⟩⟩
/-- and, or, not of truths, as values -/
def dAndV (ta tb : DTE) : DTE := fun ε S Q => ta ε S fun x S1 => ∃ k, x = .bl k ∧ if k = true then tb ε S1 Q else Q (.bl false) S1
def dOrV (ta tb : DTE) : DTE := fun ε S Q => ta ε S fun x S1 => ∃ k, x = .bl k ∧ if k = true then Q (.bl true) S1 else tb ε S1 Q
def dNotV (ta : DTE) : DTE := fun ε S Q => ta ε S fun x S1 => ∃ k, x = .bl k ∧ Q (.bl (!k)) S1
theorem de_one {op} {t : DTE} (h : DE X a t) : DE X (.BoolOp op [a] pos) t := pe_one h
theorem de_and (ha : DE X a ta) (hb : DE X (.BoolOp .And (b :: rest) pos) tb) : DE X (.BoolOp .And (a :: b :: rest) pos) (dAndV ta tb) :=
  PE_imp (pe_and ha hb) fun σ H Q ⟨ε, S, Q0, rE, rS, q, k⟩ => ⟨ε, S, _, rE, rS, q, fun d S1 v H1 q1 den rS1 f1 => by
    obtain ⟨b, rfl, q2⟩ := q1
    refine ⟨b, den, ?_⟩
    cases b with
    | true => exact ⟨ε, S1, Q0, rE.frame rS f1, rS1, q2, k.frame f1⟩
    | false => exact k _ S1 _ H1 q2 rfl rS1 f1⟩
theorem de_or (ha : DE X a ta) (hb : DE X (.BoolOp .Or (b :: rest) pos) tb) : DE X (.BoolOp .Or (a :: b :: rest) pos) (dOrV ta tb) :=
  PE_imp (pe_or ha hb) fun σ H Q ⟨ε, S, Q0, rE, rS, q, k⟩ => ⟨ε, S, _, rE, rS, q, fun d S1 v H1 q1 den rS1 f1 => by
    obtain ⟨b, rfl, q2⟩ := q1
    refine ⟨b, den, ?_⟩
    cases b with
    | false => exact ⟨ε, S1, Q0, rE.frame rS f1, rS1, q2, k.frame f1⟩
    | true => exact k _ S1 _ H1 q2 rfl rS1 f1⟩
theorem de_not (ha : DE X a ta) : DE X (.UnaryOp .Not a pos) (dNotV ta) :=
  PE_imp (pe_not ha) fun σ H Q ⟨ε, S, Q0, rE, rS, q, k⟩ => ⟨ε, S, _, rE, rS, q, fun d S1 v H1 q1 den rS1 f1 => by
    obtain ⟨b, rfl, q2⟩ := q1
    exact ⟨b, den, k _ S1 _ H1 q2 rfl rS1 f1⟩⟩

def dNil : DTA := fun _ S Q => Q [] S
def dCons (ta : DTE) (tr : DTA) : DTA := fun ε S Q => ta ε S fun x S1 => tr ε S1 fun xs S2 => Q (x :: xs) S2
variable {tas : DTA}
theorem da_nil : DA X [] dNil := PA_imp pa_nil fun σ H Q ⟨ε, S, Q0, rE, rS, q, k⟩ => k [] S [] H q DenL.nil rS Frame.refl
theorem da_cons (ha : DE X e ta) (hr : DA X es tas) (hs : starEach (e :: es) X.env = (false, eval e X.env) :: starEach es X.env := by rfl) : DA X (e :: es) (dCons ta tas) :=
  PA_imp (pa_cons ha hr hs) fun σ H Q ⟨ε, S, Q0, rE, rS, q, k⟩ => ⟨ε, S, _, rE, rS, q, fun d S1 v H1 q1 den1 rS1 f1 =>
    ⟨ε, S1, _, rE.frame rS f1, rS1, q1, fun ds S2 vs H2 q2 den2 rS2 f2 => k (d :: ds) S2 (v :: vs) H2 q2 (DenL.cons (den1.frame rS1 f2) den2) rS2 (f1.trans f2)⟩⟩
def dTup (t : DTA) : DTE := fun ε S Q => t ε S fun xs S1 => xs.length ≤ 1000 ∧ Q (.tup xs) S1
def dLst (t : DTA) : DTE := fun ε S Q => t ε S fun xs S1 => xs.length ≤ 1000 ∧ ∀ p, S1 p = none → Q (.ref p) (put S1 p (.lst xs))
theorem line1000 {n : Nat} (h : n ≤ 1000) : n ≤ sizeLine := Nat.le_trans h (by decide)
theorem den_tup {K : PySem.W.Frag} {H : Hp} {p : Addr} {ds : List D} {vs : List V} (h : PlT K H p vs) (g : DenL K H ds vs) : Den K H (.tup ds) (.ref p) :=
  (show ∃ a vs, V.ref p = .ref a ∧ PlT K H a vs ∧ DenL K H ds vs from ⟨p, vs, rfl, h, g⟩)
theorem Den.untup {K : PySem.W.Frag} {H : Hp} {ds : List D} {v : V} (h : Den K H (.tup ds) v) : ∃ a vs, v = .ref a ∧ PlT K H a vs ∧ DenL K H ds vs := h
theorem Den.unilst {K : PySem.W.Frag} {H : Hp} {ds : List D} {v : V} (h : Den K H (.ilst ds) v) : ∃ a vs, v = .ref a ∧ StL K H a vs ∧ DenL K H ds vs := h
/-- a tuple just made, known to the object -/
def newT (H : Hp) (xs : List V) (Q : VK) : Prop := ∀ p o, PlainO o → H p = none → Q (.ref p) (upd H p (.frz o (.tup xs)))
theorem WkE.newTup {K : PySem.W.Frag} {S : SD} {H : Hp} {Q0 : DK} {Q : VK} {ds : List D} {vs : List V} (k : WkE K S H Q0 Q) (rS : RelS K H S) (g : DenL K H ds vs) (q : Q0 (.tup ds) S) : newT H vs Q := fun p o po hp =>
  k (.tup ds) S (.ref p) _ q (den_tup (.inl ⟨o, po, upd_same⟩) (DenL.frame rS (frame_new hp) ds vs g)) (rS.frame_new hp) (frame_new hp)
theorem ep_newT {X : Cx} {pins : List (Addr × Obj)} {σ : L2.St} {H : Hp} {s : Shared} {its : List Value} {xs : List V} {Q : VK} {t' : Nat} (I : Inv X pins σ H s) (r : Vals xs its) (hz : xs.length ≤ sizeLine) (q : newT H xs Q) :
    EP X pins σ Q (.ref s.heap.objs.size) { s with heap := s.heap.push { cls := .type "tuple", data := .seq its.toArray }, toks := t' } := by
  have e : (s.heap.push ({ cls := .type "tuple", data := .seq its.toArray } : Obj)).get? s.heap.objs.size = some { cls := .type "tuple", data := .seq its.toArray } := Heap.get?_push_size _ rfl
  refine ⟨.ref s.heap.objs.size, upd H s.heap.objs.size (.frz { cls := .type "tuple", data := .seq its.toArray } (.tup xs)), I.laid (t' := t') (fun b u e => Heap.get?_push_of_some _ e) (Nat.le_refl _) ⟨e, hz, its, r, ⟨_, e, rfl, _, rfl⟩⟩, rfl, ?_⟩
  exact q _ _ ⟨rfl, rfl, _, _, rfl⟩ (I.hok.fresh (Nat.le_refl _))
def tTupF (t : TA) : TE := fun σ H Q => t σ H fun xs H1 => xs.length ≤ sizeLine ∧ newT H1 xs Q
theorem pe_tupF {x1} {t : TA} (h : PA X es t) : PE X (.Tuple es x1 pos) (tTupF t) := by
  refine ⟨fun pins s σ H Q I hq => wpAny_Tuple_spliced (thn (h.run pos pins s σ H _ I hq) ?_)⟩
  rintro us s1 ⟨xs, H1, I1, r, z, q⟩
  exact ⟨by rw [← r.length]; exact z, ep_newT (t' := s1.toks) I1 r z q⟩
/-- a list just made -/
theorem WkE.newLst {K : PySem.W.Frag} {S : SD} {H : Hp} {Q0 : DK} {Q : VK} {ds : List D} {vs : List V} {p : Addr} (k : WkE K S H Q0 Q) (rS : RelS K H S) (g : DenL K H ds vs) (hp : H p = none) (q : Q0 (.ref p) (put S p (.lst ds))) : Q (.ref p) (upd H p (.lst vs)) :=
  k (.ref p) (put S p (.lst ds)) (.ref p) _ q rfl (rS.add hp ⟨vs, upd_same, DenL.frame rS (frame_new (S := S) hp) ds vs g⟩) (frame_add hp)
theorem de_tup {x1} (h : DA X es tas) : DE X (.Tuple es x1 pos) (dTup tas) :=
  PE_imp (pe_tupF h) fun σ H Q ⟨ε, S, Q0, rE, rS, q, k⟩ => ⟨ε, S, _, rE, rS, q, fun ds S1 vs H1 q1 den rS1 f1 =>
    ⟨by rw [den.length]; exact line1000 q1.1, (k.frame f1).newTup rS1 den q1.2⟩⟩
theorem de_lst (h : DA X es tas) : DE X (.List es pos) (dLst tas) :=
  PE_imp (pe_lst h) fun σ H Q ⟨ε, S, Q0, rE, rS, q, k⟩ => ⟨ε, S, _, rE, rS, q, fun ds S1 vs H1 q1 den rS1 f1 =>
    ⟨by rw [den.length]; exact line1000 q1.1, fun p hp => (k.frame f1).newLst rS1 den hp (q1.2 p (rS1.free hp))⟩⟩
end

section
variable {X : Cx} {st : Stmt} {rest : List Stmt} {t u : DTS} {e : Expr} {te : DTE} {pos : Pos}
def dNext : DTS := fun D ε S => D.nx ε S
def dSeq (t u : DTS) : DTS := fun D ε S => t { D with nx := u D } ε S
theorem dss_nil : DSs X [] dNext := PSs_imp pss_nil fun D σ H ⟨ε, S, D0, rE, rS, q, k⟩ => k.nx ε S σ H q rE rS Frame.refl
theorem dss_cons (h1 : DS X st t) (h2 : DSs X rest u) : DSs X (st :: rest) (dSeq t u) :=
  PSs_imp (pss_cons h1 h2) fun D σ H ⟨ε, S, D0, rE, rS, q, k⟩ => ⟨ε, S, _, rE, rS, q, ⟨fun ε' S' σ' H' q1 rE1 rS1 f1 => ⟨ε', S', D0, rE1, rS1, q1, k.frame f1⟩, k.rt, k.bk, k.ct⟩⟩
theorem dss_one (h1 : DS X st t) : DSs X [st] t := pss_one h1
def dBreak : DTS := fun D ε S => D.bk ε S
def dCont : DTS := fun D ε S => D.ct ε S
theorem ds_pass : DS X (.Pass pos) dNext := PS_imp ps_pass fun D σ H ⟨ε, S, D0, rE, rS, q, k⟩ => k.nx ε S σ H q rE rS Frame.refl
theorem ds_break : DS X (.Break pos) dBreak := PS_imp ps_break fun D σ H ⟨ε, S, D0, rE, rS, q, k⟩ => k.bk ε S σ H q rE rS Frame.refl
theorem ds_continue : DS X (.Continue pos) dCont := PS_imp ps_continue fun D σ H ⟨ε, S, D0, rE, rS, q, k⟩ => k.ct ε S σ H q rE rS Frame.refl
def dDrop (te : DTE) : DTS := fun D ε S => te ε S fun _ S1 => D.nx ε S1
theorem ds_expr (he : DE X e te) (hs : swapsWith e none pos.line X.env = pure false := by rfl) : DS X (.Expr e pos) (dDrop te) :=
  PS_imp (ps_expr he hs) fun D σ H ⟨ε, S, D0, rE, rS, q, k⟩ => ⟨ε, S, _, rE, rS, q, fun d S1 v H1 q1 _ rS1 f1 => k.nx ε S1 σ H1 q1 (rE.frame rS f1) rS1 f1⟩
def dRet (te : DTE) : DTS := fun D ε S => te ε S D.rt
theorem ds_ret (he : DE X e te) : DS X (.Return (some e) pos) (dRet te) :=
  PS_imp (ps_ret he) fun D σ H ⟨ε, S, D0, rE, rS, q, k⟩ => ⟨ε, S, _, rE, rS, q, k.rt⟩
def dRetN : DTS := fun D _ S => D.rt .non S
theorem ds_retN : DS X (.Return none pos) dRetN := PS_imp ps_retN fun D σ H ⟨ε, S, D0, rE, rS, q, k⟩ => k.rt .non S .non H q rfl rS Frame.refl
def dIfS (c : DTT) (t u : DTS) : DTS := fun D ε S => c ε S fun b S1 => if b = true then t D ε S1 else u D ε S1
theorem ds_if {c : Expr} {a b : List Stmt} {tc : DTT} (hc : DT X c tc) (ha : DSs X a t) (hb : DSs X b u) : DS X (.If c a b pos) (dIfS tc t u) :=
  PS_imp (ps_if hc ha hb) fun D σ H ⟨ε, S, D0, rE, rS, q, k⟩ => ⟨ε, S, _, rE, rS, q, fun d S1 H1 q1 rS1 f1 => by
    cases d with
    | true => exact ⟨ε, S1, D0, rE.frame rS f1, rS1, q1, k.frame f1⟩
    | false => exact ⟨ε, S1, D0, rE.frame rS f1, rS1, q1, k.frame f1⟩⟩

def dgN (i : Nat) : DTG := fun d ε S Q => Q (ε.set i (some d)) S
theorem dg_name {i : Nat} {x : Str} (hN : X.N.Nodup) (hi : X.N[i]? = some x) (hx : Loc X.env.scope x) (hf : X.fn x = true ∨ X.env.scope.names.lookup x = some .local := by first | exact .inl rfl | exact .inr rfl | assumption) : DG X (.Name x pos) [i] (dgN i) :=
  PG_imp (pg_name hN hi hx hf) fun v σ H Q ⟨d, ε, S, Q0, den, rE, rS, q, k⟩ => k _ S _ H q (rE.set i den) rS Frame.refl (by simp [wipe])
def dgNil : DTGs := fun ds ε S Q => ds = [] ∧ Q ε S
def dgCons (t : DTG) (u : DTGs) : DTGs := fun ds ε S Q => ∃ d r, ds = d :: r ∧ t d ε S fun ε' S' => u r ε' S' Q
theorem dgs_nil : DGs X [] [] dgNil := PGs_imp pgs_nil fun xs σ H Q ⟨ds, ε, S, Q0, den, rE, rS, ⟨e1, q⟩, k⟩ => by
  subst e1
  exact ⟨den.nil_eq, k ε S σ H q rE rS Frame.refl rfl⟩
end
end DL

namespace DL
open PySem PySem.Spec PyProof.Rows L2
variable [Amb]

section
variable {X : Cx} {pos : Pos}
theorem wipe_get {σ : L2.St} {i : Nat} : ∀ {vs : List Nat}, (wipe σ vs)[i]? = if i ∈ vs then (if i < σ.length then some none else none) else σ[i]?
  | [] => by simp [wipe]
  | v :: vs => by
    unfold wipe
    by_cases h : v = i
    · subst h
      rw [List.getElem?_set, if_pos rfl, wipe_length, if_pos List.mem_cons_self]
    · rw [List.getElem?_set_ne h, wipe_get (vs := vs)]
      have e : (i ∈ v :: vs) = (i ∈ vs) := by
        apply propext
        rw [List.mem_cons]
        exact ⟨fun q => q.resolve_left fun z => h z.symm, .inr⟩
      simp only [e]
theorem wipe_more {σ σ' : L2.St} {vs ws : List Nat} (h : wipe σ' vs = wipe σ vs) (s : ∀ i ∈ vs, i ∈ ws) : wipe σ' ws = wipe σ ws := by
  have hl : σ'.length = σ.length := by
    have := congrArg List.length h
    rwa [wipe_length, wipe_length] at this
  refine List.ext_getElem? fun i => ?_
  rw [wipe_get, wipe_get, hl]
  by_cases hi : i ∈ ws
  · rw [if_pos hi, if_pos hi]
  · have hv : i ∉ vs := fun z => hi (s i z)
    have q : (wipe σ' vs)[i]? = (wipe σ vs)[i]? := by rw [h]
    rw [wipe_get, wipe_get, if_neg hv, if_neg hv] at q
    rw [if_neg hi, if_neg hi, q]
theorem dgs_cons {e : Expr} {es : List Expr} {t : DTG} {u : DTGs} {vs ws : List Nat} (h1 : DG X e vs t) (h2 : DGs X es ws u)
    (hs : (assignEach (e :: es) X.env).map (·.2) = assign e X.env :: (assignEach es X.env).map (·.2) := by rfl) : DGs X (e :: es) (vs ++ ws) (dgCons t u) :=
  PGs_imp (pgs_cons h1 h2 hs) fun xs σ H Q ⟨ds, ε, S, Q0, den, rE, rS, ⟨d, r, e1, q⟩, k⟩ => by
    subst e1
    obtain ⟨v, w, rfl, den1, den2⟩ := den.uncons
    refine ⟨v, w, rfl, d, ε, S, _, den1, rE, rS, q, fun ε' S' σ' H' q1 rE1 rS1 f1 w1 => ?_⟩
    exact ⟨r, ε', S', Q0, DenL.frame rS f1 r w den2, rE1, rS1, q1, fun ε2 S2 σ2 H2 q2 rE2 rS2 f2 w2 =>
      k ε2 S2 σ2 H2 q2 rE2 rS2 (f1.trans f2) ((wipe_more w2 fun i hi => List.mem_append_right _ hi).trans (wipe_more w1 fun i hi => List.mem_append_left _ hi))⟩
/-- (a, b, ..) = a tuple -/
def dgTup (n : Nat) (u : DTGs) : DTG := fun d ε S Q => ∃ ds, d = .tup ds ∧ ds.length = n ∧ u ds ε S Q
theorem dg_tup {es : List Expr} {k : Nat} {u : DTGs} {n : Nat} {vs : List Nat} (hc : X.calm = true) (h : DGs X es vs u)
    (hn : (assignEach es X.env).length = n := by rfl) (hst : (assignEach es X.env).findIdx? (·.1) = none := by rfl) : DG X (.Tuple es k pos) vs (dgTup n u) :=
  PG_imp (pg_tup hc h hn hst) fun v σ H Q ⟨d, ε, S, Q0, den, rE, rS, ⟨ds, e1, e2, q⟩, kk⟩ => by
    subst e1
    obtain ⟨a, xs, rfl, hq, hd⟩ := den.untup
    exact ⟨a, xs, rfl, hq.sq, by rw [hd.length]; exact e2, ds, ε, S, Q0, hd, rE, rS, q, kk⟩

def dAsg (te : DTE) (g : DTG) : DTS := fun D ε S => te ε S fun d S1 => g d ε S1 D.nx
theorem ds_asg {tg e : Expr} {te : DTE} {g : DTG} {vs : List Nat} (he : DE X e te) (hg : DG X tg vs g) (hs : swapsWithSole [tg] e pos.line X.env = pure false := by rfl) (hw : swappedStores [tg] e X.env = pure none := by rfl)
    (h1 : (assignEach [tg] X.env).map (·.2) = [assign tg X.env] := by rfl) : DS X (.Assign [tg] e pos) (dAsg te g) :=
  PS_imp (ps_asg he hg hs hw h1) fun D σ H ⟨ε, S, D0, rE, rS, q, k⟩ => ⟨ε, S, _, rE, rS, q, fun d S1 v H1 q1 den rS1 f1 =>
    ⟨d, ε, S1, _, den, rE.frame rS f1, rS1, q1, fun ε' S' σ' H' q2 rE2 rS2 f2 _ => k.nx ε' S' σ' H' q2 rE2 rS2 (f1.trans f2)⟩⟩
def dSet (i : Nat) (te : DTE) : DTS := fun D ε S => te ε S fun d S1 => D.nx (ε.set i (some d)) S1
theorem ds_set {i : Nat} {x : Str} {e : Expr} {te : DTE} {pos' : Pos} (hN : X.N.Nodup) (hi : X.N[i]? = some x) (hx : Loc X.env.scope x) (he : DE X e te) (hs : swapsWith e (some (.Name x pos')) pos.line X.env = pure false := by rfl) (hf : X.fn x = true ∨ X.env.scope.names.lookup x = some .local := by first | exact .inl rfl | exact .inr rfl | assumption) :
    DS X (.Assign [.Name x pos'] e pos) (dSet i te) :=
  PS_imp (ps_set hN hi hx he hs hf) fun D σ H ⟨ε, S, D0, rE, rS, q, k⟩ => ⟨ε, S, _, rE, rS, q, fun d S1 v H1 q1 den rS1 f1 =>
    k.nx _ S1 _ H1 q1 ((rE.frame rS f1).set i den) rS1 f1⟩
/-- o[i] = e, by values -/
abbrev TSetD := D → D → D → SD → (SD → Prop) → Prop
def liftSet (K : PySem.W.Frag) (t : TSetD) : TSet := fun o i v H Q => ∃ a b d S Q0, Den K H a o ∧ Den K H b i ∧ Den K H d v ∧ RelS K H S ∧ t a b d S Q0 ∧ ∀ S' H', Q0 S' → RelS K H' S' → Frame S H S' H' → Q H'
abbrev DPSet (X : Cx) (t : TSetD) : Prop := PSet X (liftSet X.K t)
def dgSub (to ti : DTE) (t : TSetD) : DTG := fun d ε S Q => to ε S fun o S1 => ti ε S1 fun i S2 => t o i d S2 fun S3 => Q ε S3
theorem dg_sub {o i : Expr} {to ti : DTE} {t : TSetD} (ho : DE X o to) (hi : DE X i ti) (hs : DPSet X t)
    (ha : ∀ v, assign (.Subscript o i pos) X.env v = (do
      let ov ← holding [v] (eval o X.env)
      let iv ← holding [v, ov] (eval i X.env)
      standAt pos
      holding [v, ov, iv] (setItem ov iv v)
      release [v, ov, iv] []) := by intro _; rfl) : DG X (.Subscript o i pos) [] (dgSub to ti t) :=
  PG_imp (pg_sub ho hi hs ha) fun v σ H Q ⟨d, ε, S, Q0, den, rE, rS, q, k⟩ => ⟨ε, S, _, rE, rS, q, fun a S1 ov H1 q1 den1 rS1 f1 =>
    ⟨ε, S1, _, rE.frame rS f1, rS1, q1, fun b S2 iv H2 q2 den2 rS2 f2 =>
      ⟨a, b, d, S2, _, den1.frame rS1 f2, den2, den.frame rS (f1.trans f2), rS2, q2, fun S3 H3 q3 rS3 f3 =>
        k ε S3 σ H3 q3 (rE.frame rS ((f1.trans f2).trans f3)) rS3 ((f1.trans f2).trans f3) rfl⟩⟩⟩
/-- x op= e -/
abbrev DPIp (X : Cx) (op : Operator) (r : R2D) : Prop := PIp X op (lift2 X.K r)
def dAug (i : Nat) (te : DTE) (r : R2D) : DTS := fun D ε S => ∃ x, ε[i]? = some (some x) ∧ te ε S fun y S1 => r x y S1 fun z S2 => D.nx (ε.set i (some z)) S2
theorem ds_aug {i : Nat} {x : Str} {e : Expr} {te : DTE} {op : Operator} {r : R2D} {pos' : Pos} (hN : X.N.Nodup) (hi : X.N[i]? = some x) (hx : Loc X.env.scope x) (he : DE X e te) (ho : DPIp X op r) (hf : X.fn x = true ∨ X.env.scope.names.lookup x = some .local := by first | exact .inl rfl | exact .inr rfl | assumption) :
    DS X (.AugAssign (.Name x pos') op e pos) (dAug i te r) :=
  PS_imp (ps_aug hN hi hx he ho hf) fun D σ H ⟨ε, S, D0, rE, rS, ⟨d, e1, q⟩, k⟩ => by
    obtain ⟨v, e2, den⟩ := rE.2 i d e1
    exact ⟨v, e2, ε, S, _, rE, rS, q, fun y S1 u H1 q1 den1 rS1 f1 => ⟨d, y, S1, _, den.frame rS f1, den1, rS1, q1, fun z S2 w H2 q2 den2 rS2 f2 =>
      k.nx _ S2 _ H2 q2 ((rE.frame rS (f1.trans f2)).set i den2) rS2 (f1.trans f2)⟩⟩
end

section
variable {X : Cx} {pos : Pos}
def whileN (c : DTT) (tb : DTS) : Nat → DEnds → ED → SD → Prop
  | 0, _, _, _ => False
  | n + 1, D, ε, S => c ε S fun b S1 => if b = true then tb { D with nx := whileN c tb n D, ct := whileN c tb n D, bk := D.nx } ε S1 else D.nx ε S1
def dWhile (c : DTT) (tb : DTS) : DTS := fun D ε S => ∃ n, whileN c tb n D ε S
theorem ds_while {c : Expr} {body : List Stmt} {tc : DTT} {tb : DTS} (hp : PassesOwn (model X.prog X.w) X.A X.env X.xe) (hc : DT X c tc) (hb : DSs X body tb) : DS X (.While c body [] pos) (dWhile tc tb) :=
  PS_imp (ps_while hp hc hb) fun D σ H ⟨ε, S, D0, rE, rS, ⟨n, q⟩, k⟩ => by
    refine ⟨fun m σ1 H1 => ∃ ε1 S1, RelE X.K H1 σ1 ε1 ∧ RelS X.K H1 S1 ∧ Frame S H S1 H1 ∧ whileN tc tb m D0 ε1 S1, ⟨n, ε, S, rE, rS, Frame.refl, q⟩, fun m σ1 H1 hW => ?_⟩
    obtain ⟨ε1, S1, rE1, rS1, f1, q1⟩ := hW
    cases m with
    | zero => exact q1.elim
    | succ m =>
      refine ⟨ε1, S1, _, rE1, rS1, q1, fun b S2 H2 q2 rS2 f2 => ?_⟩
      cases b with
      | false => exact k.nx ε1 S2 σ1 H2 q2 (rE1.frame rS1 f2) rS2 (f1.trans f2)
      | true =>
        refine ⟨fun σ3 H3 => ∃ ε3 S3, RelE X.K H3 σ3 ε3 ∧ RelS X.K H3 S3 ∧ Frame S H S3 H3 ∧ whileN tc tb m D0 ε3 S3, fun σ3 H3 h3 => ⟨m, Nat.lt_succ_self m, h3⟩, ?_⟩
        refine ⟨ε1, S2, _, rE1.frame rS1 f2, rS2, q2, ?_⟩
        have f := f1.trans f2
        exact ⟨fun ε3 S3 σ3 H3 q3 rE3 rS3 f3 => ⟨ε3, S3, rE3, rS3, f.trans f3, q3⟩, k.rt.frame f, fun ε3 S3 σ3 H3 q3 rE3 rS3 f3 => k.nx ε3 S3 σ3 H3 q3 rE3 rS3 (f.trans f3), fun ε3 S3 σ3 H3 q3 rE3 rS3 f3 => ⟨ε3, S3, rE3, rS3, f.trans f3, q3⟩⟩
end

section
variable (K : PySem.W.Frag)
/-- the iterator yields the items ds, one a turn, whatever else happens, as long as chk holds of the store -/
def Yields (J : It) (S : SD) (H : Hp) (ds : List D) (chk : SD → Prop) : Prop :=
  ∀ (i : Nat) (S1 : SD) (H1 : Hp), RelS K H1 S1 → Frame S H S1 H1 → chk S1 →
    (i = ds.length → J.stop i H1) ∧ ∀ d, ds[i]? = some d → J.go i H1 ∧ ∀ x H2, J.yld i H1 x H2 → Den K H2 d x ∧ RelS K H2 S1 ∧ Frame S1 H1 S1 H2
abbrev DTI := ED → SD → (List D → (SD → Prop) → SD → Prop) → Prop
def liftI (t : DTI) : TI := fun σ H R => ∃ ε S R0, RelE K H σ ε ∧ RelS K H S ∧ t ε S R0 ∧
  ∀ ds chk S1 H1 J, R0 ds chk S1 → RelS K H1 S1 → Frame S H S1 H1 → Yields K J S1 H1 ds chk → R J H1
end
abbrev DI (X : Cx) (tg iter : Expr) (t : DTI) : Prop := PI X tg iter (liftI X.K t)
theorem PI_imp {X : Cx} {tg iter : Expr} {t t' : TI} (h : PI X tg iter t) (i : ∀ σ H R, t' σ H R → t σ H R) : PI X tg iter t' := ⟨fun pins s σ H R I q => h.run pins s σ H R I (i σ H R q)⟩
/-- the loop, item by item -/
def forL (chk : SD → Prop) (f : D → DTS) : List D → DEnds → ED → SD → Prop
  | [], D, ε, S => chk S ∧ D.nx ε S
  | x :: xs, D, ε, S => chk S ∧ f x { D with nx := forL chk f xs D, ct := forL chk f xs D, bk := D.nx } ε S
def dFor (ti : DTI) (g : DTG) (tb : DTS) : DTS := fun D ε S => ti ε S fun ds chk S1 => forL chk (fun x D ε S => g x ε S (tb D)) ds D ε S1
section
variable {X : Cx} {tg : Expr} {pos : Pos}
theorem ds_for {iter : Expr} {body : List Stmt} {ti : DTI} {g : DTG} {vs : List Nat} {tb : DTS} (hp : PassesOwn (model X.prog X.w) X.A X.env X.xe) (hc : X.calm = true) (hi : DI X tg iter ti) (hg : DG X tg vs g) (hb : DSs X body tb)
    (hs : ∀ x, foldedSetIterable iter X.env x = pure x := by intro _; rfl) : DS X (.For tg iter body [] pos) (dFor ti g tb) :=
  PS_imp (ps_for hp hc hi hg hb hs) fun D σ H ⟨ε, S, D0, rE, rS, q, k⟩ => by
    refine ⟨ε, S, _, rE, rS, q, fun ds chk S1 H1 J q1 rS1 f1 Y => ?_⟩
    refine ⟨fun i m σ2 H2 => ∃ ε2 S2, RelE X.K H2 σ2 ε2 ∧ RelS X.K H2 S2 ∧ Frame S1 H1 S2 H2 ∧ i + m = ds.length ∧ forL chk (fun x D ε S => g x ε S (tb D)) (ds.drop i) D0 ε2 S2, ⟨ds.length, ε, S1, rE.frame rS f1, rS1, Frame.refl, by omega, q1⟩, fun i m σ2 H2 hW => ?_⟩
    obtain ⟨ε2, S2, rE2, rS2, f2, em, q2⟩ := hW
    by_cases hi : i < ds.length
    · rw [List.drop_eq_getElem_cons hi] at q2
      obtain ⟨hchk, q3⟩ := q2
      obtain ⟨_, hgo⟩ := Y i S2 H2 rS2 f2 hchk
      obtain ⟨go, hy⟩ := hgo _ (List.getElem?_eq_getElem hi)
      refine .inr ⟨go, fun σ3 H3 => ∃ ε3 S3, RelE X.K H3 σ3 ε3 ∧ RelS X.K H3 S3 ∧ Frame S1 H1 S3 H3 ∧ forL chk (fun x D ε S => g x ε S (tb D)) (ds.drop (i + 1)) D0 ε3 S3, fun σ3 H3 h3 => ?_, fun x H3 hyld => ?_⟩
      · obtain ⟨ε3, S3, a1, a2, a3, a4⟩ := h3
        exact ⟨m - 1, by omega, ε3, S3, a1, a2, a3, by omega, a4⟩
      · obtain ⟨den, rS3, f3⟩ := hy x H3 hyld
        have f := f2.trans f3
        refine ⟨ds[i], ε2, S2, _, den, rE2.frame rS2 f3, rS3, q3, fun ε4 S4 σ4 H4 q4 rE4 rS4 f4 _ => ?_⟩
        have g4 := f.trans f4
        refine ⟨ε4, S4, _, rE4, rS4, q4, ?_⟩
        exact ⟨fun ε5 S5 σ5 H5 q5 rE5 rS5 f5 => ⟨ε5, S5, rE5, rS5, g4.trans f5, q5⟩, k.rt.frame (f1.trans g4), fun ε5 S5 σ5 H5 q5 rE5 rS5 f5 => k.nx ε5 S5 σ5 H5 q5 rE5 rS5 (f1.trans (g4.trans f5)), fun ε5 S5 σ5 H5 q5 rE5 rS5 f5 => ⟨ε5, S5, rE5, rS5, g4.trans f5, q5⟩⟩
    · have e : ds.drop i = [] := List.drop_eq_nil_of_le (by omega)
      rw [e] at q2
      obtain ⟨hchk, q3⟩ := q2
      obtain ⟨hstop, _⟩ := Y i S2 H2 rS2 f2 hchk
      exact .inl ⟨hstop (by omega), k.nx ε2 S2 σ2 H2 q3 rE2 rS2 (f1.trans f2)⟩

def Yes : SD → Prop := fun _ => True
/-- a list or a tuple -/
def dItL (tl : DTE) : DTI := fun ε S R => tl ε S fun x S1 => ∃ ds, (x = .ilst ds ∧ R ds Yes S1) ∨ ∃ a, x = .ref a ∧ S1 a = some (.lst ds) ∧ R ds (fun S2 => S2 a = some (.lst ds)) S1
def dItT (tl : DTE) : DTI := fun ε S R => tl ε S fun x S1 => ∃ ds, x = .tup ds ∧ R ds Yes S1
theorem RelS.lst {K : PySem.W.Frag} {H : Hp} {S : SD} {a : Addr} {ds : List D} (r : RelS K H S) (h : S a = some (.lst ds)) : ∃ vs, H a = some (.lst vs) ∧ DenL K H ds vs := r.cell a _ h
theorem sqL_uniq {K : PySem.W.Frag} {H : Hp} {a : Addr} {vs us : List V} (h : H a = some (.lst vs)) (g : SqL K H a us) : (us = vs) ∨ ∃ (o : Obj) (its : Array Value) (n : Nat), K.lookup a = some o ∧ o.data = .seq its n ∧ Vals us its.toList := by
  rcases g with (g | ⟨o, g⟩) | ⟨o, its, n, g1, _, _, g2, _, g3⟩
  · rw [h] at g; cases g; exact .inl rfl
  · rw [h] at g; cases g
  · exact .inr ⟨o, its, n, g1, g2, g3⟩
end
end DL

namespace DL
open PySem PySem.Spec PyProof.Rows L2
variable [Amb]

def ItEnT (K : PySem.W.Frag) (a : Addr) : It :=
  ⟨fun i H => ∃ (xs : List V) (x : V), SqT K H a xs ∧ xs[i]? = some x,
   fun i H v H' => ∃ T o x, PlainO o ∧ v = .ref T ∧ H T = none ∧ H' = upd H T (.frz o (.tup [.int (i : Nat), x])) ∧ ∀ xs, SqT K H a xs → xs[i]? = some x,
   fun i H => ∃ xs : List V, SqT K H a xs ∧ i = xs.length⟩
theorem turn_enT {P : Program} {w : World} {K : PySem.W.Frag} {elts : List Expr} {kk : Nat} {tpos : Pos} (a e it : Addr) (hat : a ≠ it) (hae : e ≠ a) :
    Turn P w K (.Tuple elts kk tpos) (ItEnT K a) [e, it] e (fun i h => (∃ old, IsEnum h e it ((i : Nat) : Int) old) ∧ h.IsTupleIter it a i ∧ e ≠ it) where
  mem := List.mem_cons_self
  obj := fun i h ⟨⟨old, he⟩, ⟨o, ho, _, hd⟩, _⟩ b hb => by
    rcases List.mem_cons.mp hb with z | z
    · subst z
      exact ⟨_, he, fun v q => nomatch q⟩
    · have z' := List.mem_singleton.mp z
      subst z'
      exact ⟨o, ho, fun v q => by rw [hd] at q; cases q⟩
  keep := fun i h h' ⟨⟨old, he⟩, hi, hne⟩ k => ⟨⟨old, k e List.mem_cons_self _ he⟩, hi.at fun o q => k it (List.mem_cons_of_mem _ (List.mem_singleton.mpr rfl)) o q, hne⟩
  item := by
    intro X hP hw hK hc i pins s σ H E I hf st hg
    subst hP hw hK
    obtain ⟨⟨old, he⟩, hit, hne⟩ := st
    obtain ⟨xs, x, hq, hx⟩ := hg
    obtain ⟨its, rv, p, hz⟩ := I.tuple hq
    obtain ⟨u, hu, ru⟩ := rv.get hx
    have hi : i < its.toArray.size := by
      obtain ⟨q, _⟩ := List.getElem?_eq_some_iff.mp hu
      simpa using q
    have Dr := Draws.tuple (prog := X.prog) (w := X.w) (A := X.A.in1) (I.ok.hd hc) it a hat its.toArray
    have hef : e ∉ [it, a] := by simp [hne, hae]
    have W := WalksT.enumFrom 0 Dr e hne hef (by simp)
    have hT : H s.heap.objs.size = none := I.hok.fresh (Nat.le_refl _)
    have hlt : ∀ b ∈ [e, it], b ≠ s.heap.objs.size := fun b hb => by
      rcases List.mem_cons.mp hb with z | z
      · subst z
        exact Nat.ne_of_lt (Heap.lt_size he)
      · rw [List.mem_singleton.mp z]
        obtain ⟨_, q, _⟩ := hit
        exact Nat.ne_of_lt (Heap.lt_size q)
    refine wpAny_pyNext_enum_itemC Dr he ⟨hit, (show s.heap.IsTuple a its.toArray from p)⟩ hi hne hef fun y h1 tk hy ho hst hobj hsz hk => ⟨.ref s.heap.objs.size, rfl, ?_⟩
    have hyu : y = u := by
      have q : its.toArray[i]? = some u := by simpa using hu
      rw [q] at hy
      exact (Option.some.inj hy).symm
    subst hyu
    refine W.go elts kk tpos i s.heap.objs.size { s with heap := h1, toks := tk + 1 } _ _ ⟨⟨y, by rw [Int.zero_add]; exact ho⟩, hst, (hlt e List.mem_cons_self).symm, (hlt it (by simp)).symm⟩ fun h2 hst2 hk2 => ?_
    obtain ⟨⟨old2, he2⟩, hit2, hp2⟩ := hst2
    have hTnot : s.heap.objs.size ∉ [e, it] := fun z => hlt _ z rfl
    have hT2 : h2.get? s.heap.objs.size = some { cls := .type "tuple", data := .seq #[.int ((i : Nat) : Int) tk, y] } := hk2 _ _ hTnot hobj
    have new : ObjOk X.prog X.w (upd H s.heap.objs.size (.frz { cls := .type "tuple", data := .seq #[.int ((i : Nat) : Int) tk, y] } (.tup [.int (i : Nat), x]))) h2 s.heap.objs.size (.frz { cls := .type "tuple", data := .seq #[.int ((i : Nat) : Int) tk, y] } (.tup [.int (i : Nat), x])) :=
      ⟨hT2, by show 2 ≤ sizeLine; decide, [.int ((i : Nat) : Int) tk, y], .cons ⟨_, rfl⟩ (.cons ru .nil), ⟨_, hT2, rfl, _, rfl⟩⟩
    have I1 : Inv X pins σ (upd H s.heap.objs.size (.frz { cls := .type "tuple", data := .seq #[.int ((i : Nat) : Int) tk, y] } (.tup [.int (i : Nat), x]))) { s with heap := h2, toks := tk + 1 } :=
      I.turnedNew (ch := [e, it]) (fun b ob hb q => hk2 b ob hb (hk b ob (fun z => hb (by simp [z])) (fun z => hb (by simp [z])) q)) hf (Nat.le_refl _) new
    refine ⟨.ref s.heap.objs.size, _, I1, rfl, ⟨s.heap.objs.size, _, x, ⟨rfl, rfl, _, _, rfl⟩, rfl, hT, rfl, fun ys hy => by rw [I.tuple_inj hy hq]; exact hx⟩, ⟨⟨old2, ?_⟩, hit2, hne⟩, fun b hb => ?_⟩
    · rw [Int.zero_add] at he2
      exact he2
    · rw [upd_ne (hlt b hb)]
      exact (hf b hb).1
  done := by
    intro X hP hw hK hc i pins s σ H E I hf st hg
    subst hP hw hK
    obtain ⟨⟨old, he⟩, hit, hne⟩ := st
    obtain ⟨xs, hq, hx⟩ := hg
    obtain ⟨its, rv, p, hz⟩ := I.tuple hq
    have hl := rv.length
    have hsz : i = its.toArray.size := by rw [List.size_toArray, ← hl]; exact hx
    obtain ⟨f0, f1, f2, f3, f4, f5⟩ := hf it (List.mem_cons_of_mem _ (List.mem_singleton.mpr rfl))
    refine wpAny_pyNext_enum_endD (Draws.tuple (prog := X.prog) (w := X.w) (A := X.A.in1) (I.ok.hd hc) it a hat its.toArray) he ⟨by rw [← hsz]; exact hit, (show s.heap.IsTuple a its.toArray from p)⟩ fun h' eb => ?_
    exact ⟨rfl, I.turned (t' := s.toks) (fun b o hb q => eb b o hb q) f0 f1 f3 f4 f5⟩
  self := fun A i s Q E ⟨⟨_, he⟩, _⟩ h => wpAny_pyIter_enum he h
def ItEnL (K : PySem.W.Frag) (a : Addr) : It :=
  ⟨fun i H => ∃ (xs : List V) (x : V), SqL K H a xs ∧ xs[i]? = some x,
   fun i H v H' => ∃ T o x, PlainO o ∧ v = .ref T ∧ H T = none ∧ H' = upd H T (.frz o (.tup [.int (i : Nat), x])) ∧ ∀ xs, SqL K H a xs → xs[i]? = some x,
   fun i H => ∃ xs : List V, SqL K H a xs ∧ i = xs.length⟩
theorem turn_enL {P : Program} {w : World} {K : PySem.W.Frag} {elts : List Expr} {kk : Nat} {tpos : Pos} (a e it : Addr) (hat : a ≠ it) (hae : e ≠ a) :
    Turn P w K (.Tuple elts kk tpos) (ItEnL K a) [e, it] e (fun i h => (∃ old, IsEnum h e it ((i : Nat) : Int) old) ∧ h.IsListIter it a i ∧ e ≠ it) where
  mem := List.mem_cons_self
  obj := fun i h ⟨⟨old, he⟩, ⟨o, ho, _, hd⟩, _⟩ b hb => by
    rcases List.mem_cons.mp hb with z | z
    · subst z
      exact ⟨_, he, fun v q => nomatch q⟩
    · have z' := List.mem_singleton.mp z
      subst z'
      exact ⟨o, ho, fun v q => by rw [hd] at q; cases q⟩
  keep := fun i h h' ⟨⟨old, he⟩, hi, hne⟩ k => ⟨⟨old, k e List.mem_cons_self _ he⟩, hi.at fun o q => k it (List.mem_cons_of_mem _ (List.mem_singleton.mpr rfl)) o q, hne⟩
  item := by
    intro X hP hw hK hc i pins s σ H E I hf st hg
    subst hP hw hK
    obtain ⟨⟨old, he⟩, hit, hne⟩ := st
    obtain ⟨xs, x, hq, hx⟩ := hg
    obtain ⟨its, rv, p, hz⟩ := I.list hq
    obtain ⟨u, hu, ru⟩ := rv.get hx
    have hi : i < its.toArray.size := by
      obtain ⟨q, _⟩ := List.getElem?_eq_some_iff.mp hu
      simpa using q
    have Dr := Draws.list (prog := X.prog) (w := X.w) (A := X.A.in1) (I.ok.hd hc) it a hat its.toArray
    have hef : e ∉ [it, a] := by simp [hne, hae]
    have W := WalksT.enumFrom 0 Dr e hne hef (by simp)
    have hT : H s.heap.objs.size = none := I.hok.fresh (Nat.le_refl _)
    have hlt : ∀ b ∈ [e, it], b ≠ s.heap.objs.size := fun b hb => by
      rcases List.mem_cons.mp hb with z | z
      · subst z
        exact Nat.ne_of_lt (Heap.lt_size he)
      · rw [List.mem_singleton.mp z]
        obtain ⟨_, q, _⟩ := hit
        exact Nat.ne_of_lt (Heap.lt_size q)
    refine wpAny_pyNext_enum_itemC Dr he ⟨hit, p.isList⟩ hi hne hef fun y h1 tk hy ho hst hobj hsz hk => ⟨.ref s.heap.objs.size, rfl, ?_⟩
    have hyu : y = u := by
      have q : its.toArray[i]? = some u := by simpa using hu
      rw [q] at hy
      exact (Option.some.inj hy).symm
    subst hyu
    refine W.go elts kk tpos i s.heap.objs.size { s with heap := h1, toks := tk + 1 } _ _ ⟨⟨y, by rw [Int.zero_add]; exact ho⟩, hst, (hlt e List.mem_cons_self).symm, (hlt it (by simp)).symm⟩ fun h2 hst2 hk2 => ?_
    obtain ⟨⟨old2, he2⟩, hit2, hp2⟩ := hst2
    have hTnot : s.heap.objs.size ∉ [e, it] := fun z => hlt _ z rfl
    have hT2 : h2.get? s.heap.objs.size = some { cls := .type "tuple", data := .seq #[.int ((i : Nat) : Int) tk, y] } := hk2 _ _ hTnot hobj
    have new : ObjOk X.prog X.w (upd H s.heap.objs.size (.frz { cls := .type "tuple", data := .seq #[.int ((i : Nat) : Int) tk, y] } (.tup [.int (i : Nat), x]))) h2 s.heap.objs.size (.frz { cls := .type "tuple", data := .seq #[.int ((i : Nat) : Int) tk, y] } (.tup [.int (i : Nat), x])) :=
      ⟨hT2, by show 2 ≤ sizeLine; decide, [.int ((i : Nat) : Int) tk, y], .cons ⟨_, rfl⟩ (.cons ru .nil), ⟨_, hT2, rfl, _, rfl⟩⟩
    have I1 : Inv X pins σ (upd H s.heap.objs.size (.frz { cls := .type "tuple", data := .seq #[.int ((i : Nat) : Int) tk, y] } (.tup [.int (i : Nat), x]))) { s with heap := h2, toks := tk + 1 } :=
      I.turnedNew (ch := [e, it]) (fun b ob hb q => hk2 b ob hb (hk b ob (fun z => hb (by simp [z])) (fun z => hb (by simp [z])) q)) hf (Nat.le_refl _) new
    refine ⟨.ref s.heap.objs.size, _, I1, rfl, ⟨s.heap.objs.size, _, x, ⟨rfl, rfl, _, _, rfl⟩, rfl, hT, rfl, fun ys hy => by rw [I.list_inj hy hq]; exact hx⟩, ⟨⟨old2, ?_⟩, hit2, hne⟩, fun b hb => ?_⟩
    · rw [Int.zero_add] at he2
      exact he2
    · rw [upd_ne (hlt b hb)]
      exact (hf b hb).1
  done := by
    intro X hP hw hK hc i pins s σ H E I hf st hg
    subst hP hw hK
    obtain ⟨⟨old, he⟩, hit, hne⟩ := st
    obtain ⟨xs, hq, hx⟩ := hg
    obtain ⟨its, rv, p, hz⟩ := I.list hq
    have hl := rv.length
    have hsz : i = its.toArray.size := by rw [List.size_toArray, ← hl]; exact hx
    obtain ⟨f0, f1, f2, f3, f4, f5⟩ := hf it (List.mem_cons_of_mem _ (List.mem_singleton.mpr rfl))
    refine wpAny_pyNext_enum_endD (Draws.list (prog := X.prog) (w := X.w) (A := X.A.in1) (I.ok.hd hc) it a hat its.toArray) he ⟨by rw [← hsz]; exact hit, p.isList⟩ fun h' eb => ?_
    exact ⟨rfl, I.turned (t' := s.toks) (fun b o hb q => eb b o hb q) f0 f1 f3 f4 f5⟩
  self := fun A i s Q E ⟨⟨_, he⟩, _⟩ h => wpAny_pyIter_enum he h
set_option maxHeartbeats 1000000 in
theorem meets_en1 {v : Value} {o : Obj} {G : Heap → Prop} (B : Begins v o G) :
    Meets (Builtin.«enumerate.__new__» ⟨[.type "enumerate", v], []⟩) (fun _ R z => G z.heap ∧ R (.ok (.ret (.ref (z.heap.push o).objs.size)))
      { z with heap := (z.heap.push o).push { cls := .type "enumerate", data := .fields #[.none, .bool false, .ref z.heap.objs.size, rawInt 0, .none, .none] } }) :=
  .of_wp fun prog w A R z hz => by
    obtain ⟨hp, g, d, tk, os⟩ := z
    obtain ⟨g1, fin⟩ := hz
    have hsub := sub_enumerate
    have q1 : ∀ {A' : Around} {E : Value → Shared → Prop} {Q : Value → Shared → Prop}, Q (.ref hp.objs.size) ⟨hp.push o, g, d, tk, os⟩ → wpAny (model prog w) A' (pyIter v) Q E ⟨hp, g, d, tk, os⟩ := by
      intro A' E Q q
      exact B.iter prog w _ _ ⟨hp, g, d, tk, os⟩ _ g1 q
    wp_walk using q1
    refine wpAny_stack_any fun stk => ?_
    refine wpAny_pure ?_
    split
    · rename_i c _ _ _ _ _
      cases (c == Value.type "enumerate") <;> (wp_walk using q1; exact ⟨_, rfl, fin⟩)
    · wp_walk using q1
      exact ⟨_, rfl, fin⟩
theorem call_en1 {prog : Program} {w : World} {A : Around} {E : Value → Shared → Prop} {s : Shared} {v : Value} {o : Obj} {G : Heap → Prop} {Q : Value → Shared → Prop} (B : Begins v o G) (g1 : G s.heap)
    (h : ∀ h', IsEnum h' (s.heap.objs.size + 1) s.heap.objs.size 0 .none → h'.get? s.heap.objs.size = some o → (∀ b u, s.heap.get? b = some u → h'.get? b = some u) → Q (.ref (s.heap.objs.size + 1)) { s with heap := h' }) :
    wpAny (model prog w) A (call (.type "enumerate") [v]) Q E s := by
  refine callType_new F.called_enumerate (by decide) (F.typeCall_enumerate_1 _) (F.newCall_enumerate_1 _) (fun obj => F.args_object_init_2 obj _) F.entry_enumerate_new (meets_en1 B) ⟨g1, ?_⟩
  have z1 : (s.heap.push o).objs.size = s.heap.objs.size + 1 := Heap.size_push ..
  show _ ∧ _
  rw [z1]
  have e2 : IsEnum ((s.heap.push o).push { cls := .type "enumerate", data := .fields #[.none, .bool false, .ref s.heap.objs.size, rawInt 0, .none, .none] }) (s.heap.objs.size + 1) s.heap.objs.size 0 .none := by
    have q := Heap.get?_push_size (s.heap.push o) (o := { cls := .type "enumerate", data := .fields #[.none, .bool false, .ref s.heap.objs.size, rawInt 0, .none, .none] }) rfl
    rwa [z1] at q
  exact ⟨⟨_, e2, rfl⟩, h _ e2 (Heap.get?_push_of_some _ (Heap.get?_push_size _ B.free)) fun b u x => Heap.get?_push_of_some _ (Heap.get?_push_of_some _ x)⟩
def iEnT (K : PySem.W.Frag) (ta : TA) : TI := fun σ H R => ta σ H fun vs H1 => ∃ a xs, vs = [.ref a] ∧ SqT K H1 a xs ∧ R (ItEnT K a) H1
theorem pi_enT {X : Cx} {e : Expr} {ta : TA} {p pos tpos : Pos} {elts : List Expr} {kk : Nat} (hg : Gl X "enumerate") (hm : X.mg "enumerate" = none) (ha : PA X [e] ta) (hs : starEach [e] X.env = [(false, eval e X.env)] := by rfl) :
    PI X (.Tuple elts kk tpos) (.Call (.Name "enumerate" p) [e] [] pos) (iEnT X.K ta) := by
  refine ⟨fun pins s σ H R I h => Call_ (ld_blt I hg hm boot_enumerate (PyProof.Rows.callWith_type1 (thn (ha.run pos pins s σ H _ I h) ?_) hs rfl))⟩
  rintro us s1 ⟨vs, H1, I1, r1, a, xs, rfl, hq, q⟩
  obtain ⟨u, rfl, ru⟩ := vals1 r1
  cases ru
  obtain ⟨its, rv, p', hz⟩ := I1.tuple hq
  have hlt : a < s1.heap.objs.size := p'.lt
  refine call_en1 (begins_tuple a its.toArray) p' fun h' he hit hk => wpAny_pyIter_enum he ?_
  have I2 : Inv X pins σ H1 { s1 with heap := h' } := I1.kept (t' := s1.toks) hk
  refine ⟨s1.heap.objs.size + 1, [s1.heap.objs.size + 1, s1.heap.objs.size], _, _, H1, rfl, I2, turn_enT a (s1.heap.objs.size + 1) s1.heap.objs.size (Nat.ne_of_lt hlt) (Nat.ne_of_gt (Nat.lt_succ_of_lt hlt)), ⟨⟨.none, he⟩, ⟨_, hit, rfl, rfl⟩, Nat.succ_ne_self _⟩, fun b hb => ?_, q⟩
  have hle : s1.heap.objs.size ≤ b := by
    rcases List.mem_cons.mp hb with z | z
    · rw [z]; exact Nat.le_succ _
    · rw [List.mem_singleton.mp z]; exact Nat.le_refl _
  exact I1.fpOk hle (I1.hok.fresh hle)
def iEnL (K : PySem.W.Frag) (ta : TA) : TI := fun σ H R => ta σ H fun vs H1 => ∃ a xs, vs = [.ref a] ∧ SqL K H1 a xs ∧ R (ItEnL K a) H1
theorem pi_enL {X : Cx} {e : Expr} {ta : TA} {p pos tpos : Pos} {elts : List Expr} {kk : Nat} (hg : Gl X "enumerate") (hm : X.mg "enumerate" = none) (ha : PA X [e] ta) (hs : starEach [e] X.env = [(false, eval e X.env)] := by rfl) :
    PI X (.Tuple elts kk tpos) (.Call (.Name "enumerate" p) [e] [] pos) (iEnL X.K ta) := by
  refine ⟨fun pins s σ H R I h => Call_ (ld_blt I hg hm boot_enumerate (PyProof.Rows.callWith_type1 (thn (ha.run pos pins s σ H _ I h) ?_) hs rfl))⟩
  rintro us s1 ⟨vs, H1, I1, r1, a, xs, rfl, hq, q⟩
  obtain ⟨u, rfl, ru⟩ := vals1 r1
  cases ru
  obtain ⟨its, rv, p', hz⟩ := I1.list hq
  have hlt : a < s1.heap.objs.size := (by obtain ⟨o, ho, _⟩ := p'.isList; exact Heap.lt_size ho)
  refine call_en1 (begins_list a its.toArray) p'.isList fun h' he hit hk => wpAny_pyIter_enum he ?_
  have I2 : Inv X pins σ H1 { s1 with heap := h' } := I1.kept (t' := s1.toks) hk
  refine ⟨s1.heap.objs.size + 1, [s1.heap.objs.size + 1, s1.heap.objs.size], _, _, H1, rfl, I2, turn_enL a (s1.heap.objs.size + 1) s1.heap.objs.size (Nat.ne_of_lt hlt) (Nat.ne_of_gt (Nat.lt_succ_of_lt hlt)), ⟨⟨.none, he⟩, ⟨_, hit, rfl, rfl⟩, Nat.succ_ne_self _⟩, fun b hb => ?_, q⟩
  have hle : s1.heap.objs.size ≤ b := by
    rcases List.mem_cons.mp hb with z | z
    · rw [z]; exact Nat.le_succ _
    · rw [List.mem_singleton.mp z]; exact Nat.le_refl _
  exact I1.fpOk hle (I1.hok.fresh hle)

def liftF (K : PySem.W.Frag) (t : DTA) : TE := fun σ H Q => ∃ ε S Q0, RelE K H σ ε ∧ RelS K H S ∧ t ε S Q0 ∧
  ∀ ds S' a vs H', Q0 ds S' → H a = none → S' a = none → H' a = some (.lst vs) → DenL K H' ds vs → RelS K H' S' → Frame S H S' H' → Q (.ref a) H'
abbrev DF (X : Cx) (e : Expr) (t : DTA) : Prop := PE X e (liftF X.K t)
theorem rel_adopt {K : PySem.W.Frag} {H : Hp} {S : SD} {a : Addr} {c : Cell} (r : RelS K H S) (h : CellOk K H a c) : RelS K H (put S a c) := ⟨fun b x e => by
  by_cases hb : b = a
  · subst hb
    rw [put_same] at e
    cases e
    exact h
  · rw [put_ne hb] at e
    exact r.cell b x e, r.tabs⟩
theorem frame_adopt {S S' : SD} {H H' : Hp} {a : Addr} {c : Cell} (f : Frame S H S' H') (h : H a = none) : Frame S H (put S' a c) H' := ⟨fun b o e1 e2 n => by
  obtain ⟨q1, q2⟩ := f.keep b o e1 e2 n
  exact ⟨q1, by rw [put_ne (ne_of_none e2 h)]; exact q2⟩, f.there⟩
theorem cell_lst {K : PySem.W.Frag} {H : Hp} {a : Addr} {ds : List D} {vs : List V} (h : H a = some (.lst vs)) (g : DenL K H ds vs) : CellOk K H a (.lst ds) :=
  (show ∃ vs, H a = some (.lst vs) ∧ DenL K H ds vs from ⟨vs, h, g⟩)
/-- as a value: an object that the store tells of from now on -/
def dNew (t : DTA) : DTE := fun ε S Q => t ε S fun ds S1 => ∀ p, S1 p = none → Q (.ref p) (put S1 p (.lst ds))
section
variable {X : Cx} {e a b : Expr} {es : List Expr} {t ta tas : DTA} {pos : Pos} {tg : Expr}
theorem de_new (h : DF X e t) : DE X e (dNew t) :=
  PE_imp h fun σ H Q ⟨ε, S, Q0, rE, rS, q, k⟩ => ⟨ε, S, _, rE, rS, q, fun ds S' p vs H' q1 h0 hS hp den rS1 f1 =>
    k (.ref p) _ (.ref p) H' (q1 p hS) rfl (rel_adopt rS1 (cell_lst hp den)) (frame_adopt f1 h0)⟩
def dShort (t : DTA) : DTA := fun ε S Q => t ε S fun ds S1 => ds.length ≤ 1000 ∧ Q ds S1
/-- what is wanted of a list just made -/
def WkF (K : PySem.W.Frag) (S : SD) (H : Hp) (Q0 : List D → SD → Prop) (Q : VK) : Prop :=
  ∀ ds S' a vs H', Q0 ds S' → H a = none → S' a = none → H' a = some (.lst vs) → DenL K H' ds vs → RelS K H' S' → Frame S H S' H' → Q (.ref a) H'
theorem WkF.frame {K : PySem.W.Frag} {S S1 : SD} {H H1 : Hp} {Q0 : List D → SD → Prop} {Q : VK} (k : WkF K S H Q0 Q) (f : Frame S H S1 H1) : WkF K S1 H1 Q0 Q :=
  fun ds S' a vs H' x1 x2 x3 x4 x5 x6 x7 => k ds S' a vs H' x1 (f.there a x2) x3 x4 x5 x6 (f.trans x7)
theorem WkF.new {K : PySem.W.Frag} {S : SD} {H : Hp} {Q0 : List D → SD → Prop} {Q : VK} {ds : List D} {vs : List V} {p : Addr} (k : WkF K S H Q0 Q) (rS : RelS K H S) (g : DenL K H ds vs) (hp : H p = none) (q : Q0 ds S) : Q (.ref p) (upd H p (.lst vs)) :=
  k ds S p vs _ q hp (rS.free hp) upd_same (DenL.frame rS (frame_new hp) ds vs g) (rS.frame_new hp) (frame_new hp)
theorem df_lst (h : DA X es tas) : DF X (.List es pos) (dShort tas) :=
  PE_imp (pe_lst h) fun σ H Q ⟨ε, S, Q0, rE, rS, q, k⟩ => ⟨ε, S, _, rE, rS, q, fun ds S1 vs H1 q1 den rS1 f1 =>
    ⟨by rw [den.length]; exact line1000 q1.1, fun p hp => ((show WkF X.K S H Q0 Q from k).frame f1).new rS1 den hp q1.2⟩⟩
end

section
variable {X : Cx} {e a b l : Expr} {es : List Expr} {t ta tas : DTA} {pos p : Pos} {tg : Expr} {tl : DTE}
/-- a list in the store, or one that stays -/
theorem di_list (hl : DE X l tl) : DI X tg l (dItL tl) :=
  PI_imp (pi_list hl) fun σ H R ⟨ε, S, R0, rE, rS, q, k⟩ => ⟨ε, S, _, rE, rS, q, fun d S1 v H1 q1 den rS1 f1 => by
    obtain ⟨ds, q1⟩ := q1
    rcases q1 with ⟨rfl, q1⟩ | ⟨x, rfl, hx, q1⟩
    · obtain ⟨x, vs, rfl, hst, hd⟩ := den.unilst
      refine ⟨x, rfl, ⟨vs, hst.sq⟩, k ds Yes S1 H1 _ q1 rS1 f1 fun i S2 H2 rS2 f2 _ => ?_⟩
      have hst2 := stL_frame rS1 f2 hst
      have hd2 := DenL.frame rS1 f2 ds vs hd
      refine ⟨fun hi => ⟨vs, hst2.sq, by rw [hd2.length]; exact Nat.le_of_eq hi.symm⟩, fun d hi => ?_⟩
      obtain ⟨u, hu, du⟩ := hd2.get hi
      exact ⟨⟨vs, u, hst2.sq, hu⟩, fun x H3 hy => by
        obtain ⟨rfl, hy⟩ := hy
        have e1 := hy vs hst2.sq
        rw [hu] at e1
        cases e1
        exact ⟨du, rS2, Frame.refl⟩⟩
    · cases (show v = .ref x from den)
      obtain ⟨vs, hv, hd⟩ := rS1.lst hx
      refine ⟨x, rfl, ⟨vs, SqL.of hv⟩, k ds _ S1 H1 _ q1 rS1 f1 fun i S2 H2 rS2 f2 hc => ?_⟩
      obtain ⟨vs2, hv2, hd2⟩ := rS2.lst hc
      refine ⟨fun hi => ⟨vs2, SqL.of hv2, by rw [hd2.length]; exact Nat.le_of_eq hi.symm⟩, fun d hi => ?_⟩
      obtain ⟨u, hu, du⟩ := hd2.get hi
      exact ⟨⟨vs2, u, SqL.of hv2, hu⟩, fun x H3 hy => by
        obtain ⟨rfl, hy⟩ := hy
        have e1 := hy vs2 (SqL.of hv2)
        rw [hu] at e1
        cases e1
        exact ⟨du, rS2, Frame.refl⟩⟩⟩
theorem di_tup (hl : DE X l tl) : DI X tg l (dItT tl) :=
  PI_imp (pi_tup hl) fun σ H R ⟨ε, S, R0, rE, rS, q, k⟩ => ⟨ε, S, _, rE, rS, q, fun d S1 v H1 q1 den rS1 f1 => by
    obtain ⟨ds, rfl, q1⟩ := q1
    obtain ⟨x, vs, rfl, hst, hd⟩ := den.untup
    refine ⟨x, rfl, ⟨vs, hst.sq⟩, k ds Yes S1 H1 _ q1 rS1 f1 fun i S2 H2 rS2 f2 _ => ?_⟩
    have hst2 := (plT_frame rS1 f2 hst).sq
    have hd2 := DenL.frame rS1 f2 ds vs hd
    refine ⟨fun hi => ⟨vs, hst2, by rw [hd2.length]; exact Nat.le_of_eq hi.symm⟩, fun d hi => ?_⟩
    obtain ⟨u, hu, du⟩ := hd2.get hi
    exact ⟨⟨vs, u, hst2, hu⟩, fun x H3 hy => by
      obtain ⟨rfl, hy⟩ := hy
      have e1 := hy vs hst2
      rw [hu] at e1
      cases e1
      exact ⟨du, rS2, Frame.refl⟩⟩⟩
/-- a list just made -/
def dItF (t : DTA) : DTI := fun ε S R => t ε S fun ds S1 => R ds Yes S1
theorem di_new (hl : DF X l t) : DI X tg l (dItF t) :=
  PI_imp (pi_list hl) fun σ H R ⟨ε, S, R0, rE, rS, q, k⟩ => ⟨ε, S, _, rE, rS, q, fun ds S1 x vs H1 q1 _ hS hv hd rS1 f1 => by
    refine ⟨x, rfl, ⟨vs, SqL.of hv⟩, k ds Yes S1 H1 _ q1 rS1 f1 fun i S2 H2 rS2 f2 _ => ?_⟩
    have hv2 := (f2.keep x _ hS hv (fun _ z => nomatch z)).1
    have hd2 := DenL.frame rS1 f2 ds vs hd
    refine ⟨fun hi => ⟨vs, SqL.of hv2, by rw [hd2.length]; exact Nat.le_of_eq hi.symm⟩, fun d hi => ?_⟩
    obtain ⟨u, hu, du⟩ := hd2.get hi
    exact ⟨⟨vs, u, SqL.of hv2, hu⟩, fun x H3 hy => by
      obtain ⟨rfl, hy⟩ := hy
      have e1 := hy vs (SqL.of hv2)
      rw [hu] at e1
      cases e1
      exact ⟨du, rS2, Frame.refl⟩⟩⟩
/-- lo, lo + 1, .., n of them -/
def intsFrom (lo : Int) (n : Nat) : List D := (List.range n).map fun i => D.int (lo + (i : Nat))
theorem intsFrom_length (lo : Int) (n : Nat) : (intsFrom lo n).length = n := by unfold intsFrom; simp
theorem yields_range {K : PySem.W.Frag} {S : SD} {H : Hp} (lo : Int) (n : Nat) : Yields K (Itr lo n) S H (intsFrom lo n) Yes := fun i S1 H1 rS1 f1 _ => by
  refine ⟨fun hi => ?_, fun d hi => ?_⟩
  · rw [intsFrom_length] at hi
    exact Nat.le_of_eq hi.symm
  · have hl : i < n := by
      obtain ⟨q, _⟩ := List.getElem?_eq_some_iff.mp hi
      rwa [intsFrom_length] at q
    refine ⟨hl, fun x H2 hy => ?_⟩
    obtain ⟨rfl, rfl⟩ := hy
    have e1 : d = .int (lo + (i : Nat)) := by
      unfold intsFrom at hi
      rw [List.getElem?_map, List.getElem?_range hl] at hi
      exact (Option.some.inj hi).symm
    subst e1
    exact ⟨rfl, rS1, Frame.refl⟩
def dRng1 (ta : DTA) : DTI := fun ε S R => ta ε S fun ds S1 => ∃ j : Int, ds = [.int j] ∧ -(2 ^ 62) ≤ j ∧ j < 2 ^ 62 ∧ R (intsFrom 0 j.toNat) Yes S1
def dRng2 (ta : DTA) : DTI := fun ε S R => ta ε S fun ds S1 => ∃ i j : Int, ds = [.int i, .int j] ∧ (-(2 ^ 62) ≤ i ∧ i < 2 ^ 62 ∧ -(2 ^ 62) ≤ j ∧ j < 2 ^ 62) ∧ R (intsFrom i (j - i).toNat) Yes S1
theorem di_range1 (hg : Gl X "range") (hm : X.mg "range" = none) (ha : DA X [a] ta) (hs : starEach [a] X.env = [(false, eval a X.env)] := by rfl) : DI X tg (.Call (.Name "range" p) [a] [] pos) (dRng1 ta) :=
  PI_imp (pi_range1 hg hm ha hs) fun σ H R ⟨ε, S, R0, rE, rS, q, k⟩ => ⟨ε, S, _, rE, rS, q, fun ds S1 vs H1 q1 den rS1 f1 => by
    obtain ⟨j, rfl, h1, h2, q1⟩ := q1
    obtain ⟨v, r, rfl, d1, d2⟩ := den.uncons
    cases (show v = .int j from d1)
    cases d2.nil_eq
    exact ⟨j, rfl, h1, h2, k _ Yes S1 H1 _ q1 rS1 f1 (yields_range 0 j.toNat)⟩⟩
theorem di_range2 (hg : Gl X "range") (hm : X.mg "range" = none) (ha : DA X [a, b] ta) (hs : starEach [a, b] X.env = [(false, eval a X.env), (false, eval b X.env)] := by rfl) (hs2 : starEach [b] X.env = [(false, eval b X.env)] := by rfl) :
    DI X tg (.Call (.Name "range" p) [a, b] [] pos) (dRng2 ta) :=
  PI_imp (pi_range2 hg hm ha hs hs2) fun σ H R ⟨ε, S, R0, rE, rS, q, k⟩ => ⟨ε, S, _, rE, rS, q, fun ds S1 vs H1 q1 den rS1 f1 => by
    obtain ⟨i, j, rfl, h1, q1⟩ := q1
    obtain ⟨v, r, rfl, d1, d2⟩ := den.uncons
    cases (show v = .int i from d1)
    obtain ⟨w, r2, rfl, d3, d4⟩ := d2.uncons
    cases (show w = .int j from d3)
    cases d4.nil_eq
    exact ⟨i, j, rfl, h1, k _ Yes S1 H1 _ q1 rS1 f1 (yields_range i (j - i).toNat)⟩⟩
/-- the items, each in a pair with its number -/
def pairsFrom : Nat → List D → List D
  | _, [] => []
  | i, d :: ds => D.tup [.int (i : Nat), d] :: pairsFrom (i + 1) ds
theorem pairsFrom_get : ∀ (ds : List D) (k i : Nat), (pairsFrom k ds)[i]? = ds[i]?.map fun d => D.tup [.int ((k + i : Nat) : Int), d]
  | [], _, _ => by simp [pairsFrom]
  | d :: ds, k, 0 => by simp [pairsFrom]
  | d :: ds, k, i + 1 => by
    show (pairsFrom (k + 1) ds)[i]? = _
    rw [pairsFrom_get ds (k + 1) i, List.getElem?_cons_succ, show k + 1 + i = k + (i + 1) by omega]
theorem pairsFrom_length : ∀ (ds : List D) (k : Nat), (pairsFrom k ds).length = ds.length
  | [], _ => rfl
  | d :: ds, k => by
    show (pairsFrom (k + 1) ds).length + 1 = ds.length + 1
    rw [pairsFrom_length ds]
theorem den_pair {K : PySem.W.Frag} {S : SD} {H : Hp} {T : Addr} {o : Obj} {d e : D} {v u : V} (rS : RelS K H S) (po : PlainO o) (hT : H T = none) (h1 : Den K H d v) (h2 : Den K H e u) :
    Den K (upd H T (.frz o (.tup [v, u]))) (.tup [d, e]) (.ref T) ∧ RelS K (upd H T (.frz o (.tup [v, u]))) S ∧ Frame S H S (upd H T (.frz o (.tup [v, u]))) :=
  ⟨den_tup (.inl ⟨o, po, upd_same⟩) (DenL.cons (h1.frame rS (frame_new hT)) (DenL.one (h2.frame rS (frame_new hT)))), rS.frame_new hT, frame_new hT⟩
def dEnT (ta : DTA) : DTI := fun ε S R => ta ε S fun xs S1 => ∃ ds, xs = [.tup ds] ∧ R (pairsFrom 0 ds) Yes S1
theorem di_enT {tpos : Pos} {elts : List Expr} {kk : Nat} (hg : Gl X "enumerate") (hm : X.mg "enumerate" = none) (ha : DA X [e] ta) (hs : starEach [e] X.env = [(false, eval e X.env)] := by rfl) :
    DI X (.Tuple elts kk tpos) (.Call (.Name "enumerate" p) [e] [] pos) (dEnT ta) :=
  PI_imp (pi_enT hg hm ha hs) fun σ H R ⟨ε, S, R0, rE, rS, q, k⟩ => ⟨ε, S, _, rE, rS, q, fun xs S1 vs H1 q1 den rS1 f1 => by
    obtain ⟨ds, rfl, q1⟩ := q1
    obtain ⟨v, r, rfl, d1, d2⟩ := den.uncons
    cases d2.nil_eq
    obtain ⟨x, us, rfl, hst, hd⟩ := d1.untup
    refine ⟨x, us, rfl, hst.sq, k _ Yes S1 H1 _ q1 rS1 f1 fun i S2 H2 rS2 f2 _ => ?_⟩
    have hst2 := (plT_frame rS1 f2 hst).sq
    have hd2 := DenL.frame rS1 f2 ds us hd
    refine ⟨fun hi => ⟨us, hst2, by rw [hi, pairsFrom_length, hd2.length]⟩, fun d hi => ?_⟩
    rw [pairsFrom_get] at hi
    obtain ⟨y, hy, rfl⟩ := Option.map_eq_some_iff.mp hi
    obtain ⟨u, hu, du⟩ := hd2.get hy
    refine ⟨⟨us, u, hst2, hu⟩, fun z H3 hyld => ?_⟩
    obtain ⟨T, o, w, po, rfl, hT, rfl, hw⟩ := hyld
    have e1 := hw us hst2
    rw [hu] at e1
    cases e1
    rw [Nat.zero_add]
    exact den_pair rS2 po hT rfl du⟩
def dEnL (ta : DTA) : DTI := fun ε S R => ta ε S fun xs S1 => ∃ a ds, xs = [.ref a] ∧ S1 a = some (.lst ds) ∧ R (pairsFrom 0 ds) (fun S2 => S2 a = some (.lst ds)) S1
theorem di_enL {tpos : Pos} {elts : List Expr} {kk : Nat} (hg : Gl X "enumerate") (hm : X.mg "enumerate" = none) (ha : DA X [e] ta) (hs : starEach [e] X.env = [(false, eval e X.env)] := by rfl) :
    DI X (.Tuple elts kk tpos) (.Call (.Name "enumerate" p) [e] [] pos) (dEnL ta) :=
  PI_imp (pi_enL hg hm ha hs) fun σ H R ⟨ε, S, R0, rE, rS, q, k⟩ => ⟨ε, S, _, rE, rS, q, fun xs S1 vs H1 q1 den rS1 f1 => by
    obtain ⟨x, ds, rfl, hx, q1⟩ := q1
    obtain ⟨v, r, rfl, d1, d2⟩ := den.uncons
    cases d2.nil_eq
    cases (show v = .ref x from d1)
    obtain ⟨us, hv, hd⟩ := rS1.lst hx
    refine ⟨x, us, rfl, SqL.of hv, k _ _ S1 H1 _ q1 rS1 f1 fun i S2 H2 rS2 f2 hc => ?_⟩
    obtain ⟨ws, hv2, hd2⟩ := rS2.lst hc
    refine ⟨fun hi => ⟨ws, SqL.of hv2, by rw [hi, pairsFrom_length, hd2.length]⟩, fun d hi => ?_⟩
    rw [pairsFrom_get] at hi
    obtain ⟨y, hy, rfl⟩ := Option.map_eq_some_iff.mp hi
    obtain ⟨u, hu, du⟩ := hd2.get hy
    refine ⟨⟨ws, u, SqL.of hv2, hu⟩, fun z H3 hyld => ?_⟩
    obtain ⟨T, o, w, po, rfl, hT, rfl, hw⟩ := hyld
    have e1 := hw ws (SqL.of hv2)
    rw [hu] at e1
    cases e1
    rw [Nat.zero_add]
    exact den_pair rS2 po hT rfl du⟩
end
end DL

namespace DL
open PySem PySem.Spec PyProof.Rows L2
variable [Amb]

def wipeD (ε : ED) : List Nat → ED
  | [] => ε
  | v :: vs => (wipeD ε vs).set v none
theorem rel_wipe {K : PySem.W.Frag} {H : Hp} {σ : L2.St} {ε : ED} (r : RelE K H σ ε) : ∀ vs, RelE K H (wipe σ vs) (wipeD ε vs)
  | [] => r
  | v :: vs => by
    have h := rel_wipe r vs
    refine ⟨by show ((wipe σ vs).set v none).length = ((wipeD ε vs).set v none).length; rw [List.length_set, List.length_set]; exact h.1, fun i d hi => ?_⟩
    have hi : ((wipeD ε vs).set v none)[i]? = some (some d) := hi
    show ∃ u, ((wipe σ vs).set v none)[i]? = some (some u) ∧ _
    by_cases hv : v = i
    · subst hv
      rw [List.getElem?_set] at hi
      simp at hi
    · rw [List.getElem?_set_ne hv] at hi ⊢
      exact h.2 i d hi
def lcL (chk : SD → Prop) (g : DTG) (tt : DTT) (te : DTE) (vs : List Nat) : List D → List D → ED → SD → (List D → SD → Prop) → Prop
  | [], acc, _, S, Q => chk S ∧ Q acc S
  | x :: xs, acc, ε, S, Q => chk S ∧ g x (wipeD ε vs) S fun ε' S' => tt ε' S' fun b S2 => if b = true then te ε' S2 fun y S3 => lcL chk g tt te vs xs (acc ++ [y]) ε S3 Q else lcL chk g tt te vs xs acc ε S2 Q
def dLc (ti : DTI) (g : DTG) (tt : DTT) (te : DTE) (vs : List Nat) : DTA := fun ε S Q => ti ε S fun ds chk S1 => ds.length ≤ 1000000 ∧ lcL chk g tt te vs ds [] ε S1 Q
abbrev DTs (X : Cx) (ifs : List Expr) (t : DTT) : Prop := PTs X ifs (liftT X.K t)
def dYes : DTT := fun _ S Q => Q true S
section
variable {X : Cx}
theorem dts_nil : DTs X [] dYes := ⟨fun pins s σ H Q I ⟨ε, S, Q0, rE, rS, q, k⟩ => pts_nil.run pins s σ H Q I (k true S H q rS Frame.refl)⟩
theorem dts_one {c : Expr} {t : DTT} (h : DT X c t) : DTs X [c] t := pts_one h
/-- the list under way is written on -/
theorem lc_step {K : PySem.W.Frag} {S : SD} {H : Hp} {p : Addr} {vs us : List V} {acc acc' : List D} (rS : RelS K H S) (hS : S p = none) (hp : H p = some (.lst vs)) (den : DenL K H acc vs) (dd : DenL K H acc' us) :
    RelS K (upd H p (.lst us)) S ∧ DenL K (upd H p (.lst us)) acc' us ∧ ∀ ε σ, RelE K H σ ε → RelE K (upd H p (.lst us)) σ ε := by
  have r1 : RelS K H (put S p (.lst acc)) := rel_adopt rS (cell_lst hp den)
  have f1 : Frame (put S p (.lst acc)) H (put (put S p (.lst acc)) p (.lst acc')) (upd H p (.lst us)) := frame_put put_same
  have d1 := DenL.frame r1 f1 acc' us dd
  have r2 : RelS K (upd H p (.lst us)) (put (put S p (.lst acc)) p (.lst acc')) := r1.put put_same (fun _ z => nomatch z) (cell_lst upd_same d1)
  refine ⟨r2.sub fun a c h => ?_, d1, fun ε σ r => r.frame r1 f1⟩
  have ha : a ≠ p := by
    rintro rfl
    rw [hS] at h
    cases h
  exact ⟨c, by rw [put_ne ha, put_ne ha]; exact h, Cell.le_refl c⟩
theorem frame_over {S S1 : SD} {H H1 : Hp} {p : Addr} {o : HO} (f : Frame S H S1 H1) (h : H p = none) : Frame S H S1 (upd H1 p o) :=
  ⟨fun a u e1 e2 n => let ⟨q1, q2⟩ := f.keep a u e1 e2 n; ⟨by rw [upd_ne (ne_of_none e2 h)]; exact q1, q2⟩, fun a e => f.there a (upd_there e)⟩
theorem lc_lift {K : PySem.W.Frag} {ti : DTI} {g : DTG} {tt : DTT} {te : DTE} {vs ws : List Nat} (hw : ∀ i ∈ ws, i ∈ vs) {σ : L2.St} {H : Hp} {Q : VK} (h : liftF K (dLc ti g tt te vs) σ H Q) :
    tLc (liftI K ti) (liftG K ws g) (liftT K tt) (liftE K te) vs σ H Q := by
  obtain ⟨ε, S, Q0, rE, rS, q, k⟩ := h
  refine ⟨ε, S, _, rE, rS, q, fun ds chk S1 H1 J q1 rS1 f1 Y => fun D hD => ?_⟩
  obtain ⟨hlen, q1⟩ := q1
  have hS1 : S1 D = none := rS1.free hD
  refine ⟨fun i m H2 => ∃ acc us S2, RelE K H2 σ ε ∧ RelS K H2 S2 ∧ Frame S1 H1 S2 H2 ∧ H2 D = some (.lst us) ∧ S2 D = none ∧ DenL K H2 acc us ∧ i + m = ds.length ∧ acc.length ≤ i ∧ lcL chk g tt te vs (ds.drop i) acc ε S2 Q0,
    ⟨ds.length, [], [], S1, (rE.frame rS f1).frame rS1 (frame_new hD), rS1.frame_new hD, frame_new hD, upd_same, hS1, DenL.nil, by omega, Nat.le_refl _, q1⟩, fun i m H2 hW => ?_⟩
  obtain ⟨acc, us, S2, rE2, rS2, f2, hD2, hS2, den, em, hl, q2⟩ := hW
  by_cases hi : i < ds.length
  · rw [List.drop_eq_getElem_cons hi] at q2
    obtain ⟨hc, q3⟩ := q2
    obtain ⟨_, hgo⟩ := Y i S2 H2 rS2 f2 hc
    obtain ⟨go, hy⟩ := hgo _ (List.getElem?_eq_getElem hi)
    refine .inr ⟨go, fun H3 => ∃ acc us S3, RelE K H3 σ ε ∧ RelS K H3 S3 ∧ Frame S1 H1 S3 H3 ∧ H3 D = some (.lst us) ∧ S3 D = none ∧ DenL K H3 acc us ∧ acc.length ≤ i + 1 ∧ lcL chk g tt te vs (ds.drop (i + 1)) acc ε S3 Q0, fun H3 h3 => ?_, fun x H3 hyld => ?_⟩
    · obtain ⟨a1, a2, a3, b1, b2, b3, b4, b5, b6, b7, b8⟩ := h3
      exact ⟨m - 1, by omega, a1, a2, a3, b1, b2, b3, b4, b5, b6, by omega, b7, b8⟩
    · obtain ⟨dx, rS3, f3⟩ := hy x H3 hyld
      have hD3 := (f3.keep D _ hS2 hD2 (fun _ z => nomatch z)).1
      have den3 := DenL.frame rS2 f3 acc us den
      have rE3 := rE2.frame rS2 f3
      refine ⟨ds[i], wipeD ε vs, S2, _, dx, rel_wipe rE3 vs, rS3, q3, fun ε4 S4 σ4 H4 q4 rE4 rS4 f4 w4 => ?_⟩
      have w5 : wipe σ4 vs = wipe σ vs := by
        have e1 := wipe_more w4 hw
        rw [e1]
        refine List.ext_getElem? fun j => ?_
        simp only [wipe_get, wipe_length]
        by_cases hj : j ∈ vs
        · simp only [if_pos hj]
        · simp only [if_neg hj]
      refine ⟨w5, ε4, S4, _, rE4, rS4, q4, fun b S5 H5 q5 rS5 f5 => ?_⟩
      have g5 : Frame S1 H1 S5 H5 := ((f2.trans f3).trans f4).trans f5
      have kD : H5 D = some (.lst us) ∧ S5 D = none := (f4.trans f5).keep D _ hS2 hD3 (fun _ z => nomatch z)
      have den5 := DenL.frame rS3 (f4.trans f5) acc us den3
      have rE5 := rE3.frame rS3 (f4.trans f5)
      cases b with
      | false => exact ⟨acc, us, S5, rE5, rS5, g5, kD.1, kD.2, den5, by omega, q5⟩
      | true =>
        refine ⟨ε4, S5, _, rE4.frame rS4 f5, rS5, q5, fun y S6 v H6 q6 dy rS6 f6 => ?_⟩
        have kD6 := f6.keep D _ kD.2 kD.1 (fun _ z => nomatch z)
        have den6 := DenL.frame rS5 f6 acc us den5
        refine ⟨us, kD6.1, by rw [den6.length]; exact Nat.lt_of_le_of_lt (Nat.le_trans hl (Nat.le_trans (Nat.le_of_lt hi) hlen)) (by decide), ?_⟩
        obtain ⟨z1, z2, z3⟩ := lc_step rS6 kD6.2 kD6.1 den6 (den6.app (DenL.one dy))
        exact ⟨acc ++ [y], us ++ [v], S6, z3 _ _ (rE5.frame rS5 f6), z1, frame_over (g5.trans f6) hD, upd_same, kD6.2, z2, by rw [List.length_append]; simp; omega, q6⟩
  · have e : ds.drop i = [] := List.drop_eq_nil_of_le (by omega)
    rw [e] at q2
    obtain ⟨hc, q3⟩ := q2
    obtain ⟨hstop, _⟩ := Y i S2 H2 rS2 f2 hc
    exact .inl ⟨hstop (by omega), k acc S2 D us H2 q3 (f1.there D hD) hS2 hD2 den rS2 (f1.trans f2)⟩
theorem df_lc {elt tg iter : Expr} {ifs : List Expr} {scope : Scope} {own : List (Str × Nat)} {pos : Pos} {ti : DTI} {g : DTG} {tt : DTT} {te : DTE} {ws : List Nat} (hc : X.calm = true) (hN : X.N.Nodup) (hi : DI X tg iter ti) (ok : BlkOk X.N X.env.scope scope own)
    (hg : ∀ (s : Shared) (H : Hp) (C : Addr) (cl : List (Str × Addr)) (fp : List Addr), DG (X.blk s H scope (compEnvC scope cl C X.env) fp) tg ws g) (ht : ∀ (s : Shared) (H : Hp) (C : Addr) (cl : List (Str × Addr)) (fp : List Addr), DTs (X.blk s H scope (compEnvC scope cl C X.env) fp) ifs tt)
    (he : ∀ (s : Shared) (H : Hp) (C : Addr) (cl : List (Str × Addr)) (fp : List Addr), DE (X.blk s H scope (compEnvC scope cl C X.env) fp) elt te) (hw : ∀ i ∈ ws, i ∈ own.map (·.2) := by decide) (hs : ∀ x, foldedSetIterable iter X.env x = pure x := by intro _; rfl) :
    DF X (.ListComp elt [⟨tg, iter, ifs, 0⟩] scope pos) (dLc ti g tt te (own.map (·.2))) :=
  PE_imp (pe_lc hc hN hi ok hg ht he hs) fun σ H Q => lc_lift hw
/-- name = [..] -/
theorem ds_setLc {i : Nat} {y : Str} {py : Pos} {elt tg iter : Expr} {ifs : List Expr} {scope : Scope} {own : List (Str × Nat)} {pos spos : Pos} {ti : DTI} {g : DTG} {tt : DTT} {te : DTE} {ws : List Nat} (hc : X.calm = true) (hN : X.N.Nodup) (hy : X.N[i]? = some y) (hyl : X.env.scope.names.lookup y = some .local)
    (hsw : swapsWith (.ListComp elt [⟨tg, iter, ifs, 0⟩] scope pos) (some (.Name y py)) spos.line X.env = pure true) (hi : DI X tg iter ti) (ok : BlkOk X.N X.env.scope scope own)
    (hg : ∀ (s : Shared) (H : Hp) (C : Addr) (cl : List (Str × Addr)) (fp : List Addr), DG (X.blk s H scope (compEnvC scope cl C X.env) fp) tg ws g) (ht : ∀ (s : Shared) (H : Hp) (C : Addr) (cl : List (Str × Addr)) (fp : List Addr), DTs (X.blk s H scope (compEnvC scope cl C X.env) fp) ifs tt)
    (he : ∀ (s : Shared) (H : Hp) (C : Addr) (cl : List (Str × Addr)) (fp : List Addr), DE (X.blk s H scope (compEnvC scope cl C X.env) fp) elt te) (hw : ∀ i ∈ ws, i ∈ own.map (·.2) := by decide) (hs : ∀ x, foldedSetIterable iter X.env x = pure x := by intro _; rfl) :
    DS X (.Assign [.Name y py] (.ListComp elt [⟨tg, iter, ifs, 0⟩] scope pos) spos) (dSet i (dNew (dLc ti g tt te (own.map (·.2))))) :=
  PS_imp (ps_setLc hc hN hy hyl hsw hi ok hg ht he hs) fun Ds σ H ⟨ε, S, D0, rE, rS, q, k⟩ =>
    lc_lift (K := X.K) hw (Q := fun x H1 => gName i x σ H1 Ds.nx) ⟨ε, S, _, rE, rS, q, fun ds S1 a vs H1 q1 h0 hS hv den rS1 f1 => by
      have r2 := rel_adopt rS1 (cell_lst hv den)
      have f2 := frame_adopt (c := Cell.lst ds) f1 h0
      exact k.nx _ _ _ H1 (q1 a hS) ((rE.frame rS f2).set i rfl) r2 f2⟩
end
end DL

namespace DL
open PySem PySem.Spec PyProof.Rows L2
section
variable [Amb]

/-- room for k calls one in another, and nothing is being shown by repr -/
structure RoomG (k : Nat) (A : Around) : Prop where
  r : Room k A
  g : A.guards = some []
theorem RoomG.mono {j k : Nat} {A : Around} (h : RoomG k A) (l : j ≤ k) : RoomG j A := ⟨h.r.mono l, h.g⟩
theorem RoomG.deeper {k : Nat} {A : Around} (h : RoomG (k + 1) A) (env : Env) : RoomG k (A.deeper env) := ⟨h.r.deeper env, h.g⟩
theorem RoomG.hu {k : Nat} {A : Around} (h : RoomG k A) : A.units + 1 < cLine := hu_of h.r
theorem RoomG.u64 {k : Nat} {A : Around} (h : RoomG k A) : A.units + 64 < cLine := h.r.units
theorem RoomG.u65 {k : Nat} {A : Around} (h : RoomG k A) : A.units + 65 < cLine := by have := h.r.un; omega

structure FnG (P : Program) (w : World) (K : PySem.W.Frag) (mg : Str → Option Value) (base : Heap) (CX : CXT) (k : Nat) (f : Addr) (fd : FuncData) (ps : List Str) (sp : Sp) : Prop where
  len : ∀ vs H Q E, sp vs H Q E → vs.length = ps.length
  run : ∀ (A : Around) (outer : List Env) (s : Shared) (H : Hp) (args : Args) (us : List Value) (vs : List V) (Q : VK) (E : XK), RoomG k A → Env0 P w K mg base A outer s H → BindsTo s fd args (ps.zip us) →
    Vals vs us → sp vs H Q E → codeAny (model P w) A (.call (.ref f) args) (CR CX outer P w H s Q E) s
/-- a promise over D and S (nothing is raised) -/
abbrev DSp := List D → SD → DK → Prop
def liftSp (K : PySem.W.Frag) (sp : DSp) : Sp := fun vs H Q _ => ∃ ds S Q0, DenL K H ds vs ∧ RelS K H S ∧ sp ds S Q0 ∧ WkE K S H Q0 Q
abbrev FnD (P : Program) (w : World) (K : PySem.W.Frag) (mg : Str → Option Value) (base : Heap) (k : Nat) (f : Addr) (fd : FuncData) (ps : List Str) (sp : DSp) : Prop := FnG P w K mg base CX0 k f fd ps (liftSp K sp)
section
variable {P : Program} {w : World} {K : PySem.W.Frag} {mg : Str → Option Value} {base : Heap} {k : Nat} {f : Addr} {fd : FuncData} {ps : List Str}
theorem FnG.mono {CX : CXT} {sp : Sp} {j : Nat} (F : FnG P w K mg base CX j f fd ps sp) (h : j ≤ k) : FnG P w K mg base CX k f fd ps sp :=
  ⟨F.len, fun A outer s H args us vs Q E hr => F.run A outer s H args us vs Q E (hr.mono h)⟩
/-- a weaker promise -/
theorem FnD.imp {sp sp' : DSp} (F : FnD P w K mg base k f fd ps sp) (h : ∀ ds S Q, sp' ds S Q → sp ds S Q) : FnD P w K mg base k f fd ps sp' :=
  ⟨fun vs H Q E ⟨ds, S, Q0, a, b, c, d⟩ => F.len vs H Q E ⟨ds, S, Q0, a, b, h _ _ _ c, d⟩, fun A outer s H args us vs Q E hr e0 hb r ⟨ds, S, Q0, a, b, c, d⟩ => F.run A outer s H args us vs Q E hr e0 hb r ⟨ds, S, Q0, a, b, h _ _ _ c, d⟩⟩
/-- the store told otherwise ahead of a call and behind it -/
theorem FnD.view {sp sp' : DSp} (F : FnD P w K mg base k f fd ps sp) (h : ∀ ds S Q H, RelS K H S → sp' ds S Q → ∃ S1 Q1, RelS K H S1 ∧ (∀ a, S a = none → S1 a = none) ∧ sp ds S1 Q1 ∧ ∀ d S2 H2, Q1 d S2 → RelS K H2 S2 → ∃ S3, Sub S3 S2 ∧ Q d S3) : FnD P w K mg base k f fd ps sp' := by
  have key : ∀ vs H Q E, liftSp K sp' vs H Q E → liftSp K sp vs H Q E := by
    intro vs H Q E ⟨ds, S, Q0, a, b, c, d⟩
    obtain ⟨S1, Q1, b1, fr, c1, c2⟩ := h ds S Q0 H b c
    refine ⟨ds, S1, Q1, a, b1, c1, fun x S2 v H2 q den r2 f2 => ?_⟩
    obtain ⟨S3, sub, q3⟩ := c2 x S2 H2 q r2
    refine d x S3 v H2 q3 den (r2.sub sub) ?_
    exact Frame.sub ⟨fun p o e1 e2 n => f2.keep p o (fr p e1) e2 n, f2.there⟩ sub
  exact ⟨fun vs H Q E q => F.len vs H Q E (key vs H Q E q), fun A outer s H args us vs Q E hr e0 hb r q => F.run A outer s H args us vs Q E hr e0 hb r (key vs H Q E q)⟩
end

section
variable {X : Cx} {CX : CXT} {k : Nat} {f : Addr} {fd : FuncData} {ps : List Str} {sp : Sp} {dvs : List V} {ds : List Value} {E : XK} {x : Str} {p pos : Pos} {e : Expr} {es : List Expr} {t : TA}
theorem runG {pins : List (Addr × Obj)} {σ : L2.St} {H : Hp} {s : Shared} {Q : VK} {us : List Value} {vs : List V} (F : FnG X.prog X.w X.K X.mg X.base CX k f fd ps sp) (hr : RoomG k X.A) (hb : Binds X.K fd ps ds) (hd : Vals dvs ds) (hx : Passes CX X E)
    (I : Inv X pins σ H s) (r : Vals vs us) (h : sp (vs ++ dvs) H Q E) : wpAny (model X.prog X.w) X.A (call (.ref f) us) (EP X pins σ Q) X.xe s := by
  have rr := Vals.append r hd
  have ln : (us ++ ds).length = ps.length := rr.length.symm.trans (F.len _ _ _ _ h)
  have go := F.run X.A X.stack s H ⟨us, []⟩ (us ++ ds) (vs ++ dvs) Q E hr I.env0 (hb s us I.kIn ln) rr h
  refine wpAny_call (codeAny_mono go fun z s' hz => ?_)
  match z, hz with
  | .error e, hz => exact hx pins σ H s e s' I hz
  | .ok (.ret u), hz => exact I.after hz
  | .ok .next, hz => exact hz.elim
  | .ok .brk, hz => exact hz.elim
  | .ok .cont, hz => exact hz.elim
theorem pe_callG (F : FnG X.prog X.w X.K X.mg X.base CX k f fd ps sp) (hr : RoomG k X.A) (hg : Gl X x) (hm : X.mg x = some (.ref f)) (hk : PySem.W.keepIn X.K (.ref f) = true) (hb : Binds X.K fd ps ds) (hd : Vals dvs ds) (hx : Passes CX X E)
    (ha : PA X (e :: es) t) (hdb : (x == ("__debug__" : Str)) = false := by decide) (he : starEach (e :: es) X.env = (false, eval e X.env) :: starEach es X.env := by rfl) (hpl : (backTo pos (starEach es X.env)).any (·.1) = false := by rfl) :
    PE X (.Call (.Name x p) (e :: es) [] pos) (tCall sp dvs E t) := by
  refine ⟨fun pins s σ H Q I h => wpAny_Call_Name_kw (ld_glob I hg hm ?_ hdb)⟩
  refine PySem.W.callWith_K (h₀ := X.base) I.ok.mod.kin hk (thn (ha.run pos pins s σ H _ I h) ?_) he hpl
  rintro us s1 ⟨vs, H1, I1, r, q⟩
  exact ⟨I1.kIn, runG F hr hb hd hx I1 r q⟩
theorem pe_callG0 (F : FnG X.prog X.w X.K X.mg X.base CX k f fd ps sp) (hr : RoomG k X.A) (hg : Gl X x) (hm : X.mg x = some (.ref f)) (hk : PySem.W.keepIn X.K (.ref f) = true) (hb : Binds X.K fd ps ds) (hd : Vals dvs ds) (hx : Passes CX X E)
    (hdb : (x == ("__debug__" : Str)) = false := by decide) : PE X (.Call (.Name x p) [] [] pos) (tCall sp dvs E tNil) := by
  refine ⟨fun pins s σ H Q I h => wpAny_Call_Name_kw (ld_glob I hg hm ?_ hdb)⟩
  exact PySem.W.callWith_K0 I.kIn hk (runG (us := []) F hr hb hd hx I .nil h)
end
def dCall (sp : DSp) (ta : DTA) : DTE := fun ε S Q => ta ε S fun ds S1 => sp ds S1 Q
section
variable {X : Cx} {k : Nat} {f : Addr} {fd : FuncData} {ps : List Str} {sp : DSp} {x : Str} {p pos : Pos} {e : Expr} {es : List Expr} {ta : DTA}
theorem de_call (F : FnD X.prog X.w X.K X.mg X.base k f fd ps sp) (hr : RoomG k X.A) (hg : Gl X x) (hm : X.mg x = some (.ref f)) (hk : PySem.W.keepIn X.K (.ref f) = true) (hb : Binds X.K fd ps []) (ha : DA X (e :: es) ta)
    (hdb : (x == ("__debug__" : Str)) = false := by decide) (he : starEach (e :: es) X.env = (false, eval e X.env) :: starEach es X.env := by rfl) (hpl : (backTo pos (starEach es X.env)).any (·.1) = false := by rfl) :
    DE X (.Call (.Name x p) (e :: es) [] pos) (dCall sp ta) :=
  PE_imp (pe_callG F hr hg hm hk hb .nil pass0 ha hdb he hpl) fun σ H Q ⟨ε, S, Q0, rE, rS, q, k⟩ => ⟨ε, S, _, rE, rS, q, fun ds S1 vs H1 q1 den rS1 f1 =>
    ⟨ds, S1, Q0, by rw [List.append_nil]; exact den, rS1, q1, k.frame f1⟩⟩
end

def startD (N : List Str) (ds : List D) : ED := ds.map some ++ List.replicate (N.length - ds.length) none
/-- at the end of a def what it made may be forgotten -/
def Lets (Q : DK) : DK := fun d S => ∃ S', Sub S' S ∧ Q d S'
theorem Lets.of {Q : DK} {d : D} {S : SD} (h : Q d S) : Lets Q d S := ⟨S, Sub.refl, h⟩
def endsD (Q : DK) : DEnds := { nx := fun _ S => Lets Q .non S, rt := Lets Q }
theorem rel_start {K : PySem.W.Frag} {H : Hp} {N : List Str} {ds : List D} {vs : List V} (h : DenL K H ds vs) : RelE K H (L2.start N vs) (startD N ds) := by
  have hl := h.length
  refine ⟨?_, fun i d hi => ?_⟩
  · unfold L2.start startD
    rw [List.length_append, List.length_append, List.length_map, List.length_map, List.length_replicate, List.length_replicate, hl]
  · unfold startD at hi
    by_cases hk : i < ds.length
    · rw [List.getElem?_append_left (by simpa using hk), List.getElem?_map] at hi
      obtain ⟨d', e1, e2⟩ := Option.map_eq_some_iff.mp hi
      cases e2
      obtain ⟨v, e3, den⟩ := h.get e1
      refine ⟨v, ?_, den⟩
      unfold L2.start
      rw [List.getElem?_append_left (by rw [List.length_map, hl]; exact hk), List.getElem?_map, e3]
      rfl
    · rw [List.getElem?_append_right (by rw [List.length_map]; omega), List.getElem?_replicate] at hi
      split at hi <;> cases hi
section
variable {P : Program} {w : World} {K : PySem.W.Frag} {mg : Str → Option Value} {base : Heap}
theorem fnG_of {CX : CXT} {k : Nat} {f : Addr} {name qual : Str} {params : Arguments} {body : List Stmt} {scope : Scope} {dV kV doc pm cdv ct oc : Value} {an od : Option Addr} {osl : Array (Option Value)} {N ps : List Str} {sp : Sp}
    (lk : K.lookup f = some ⟨oc, od, .func (PySem.W.fnOf name qual params body scope dV kV doc pm an cdv ct), osl⟩) (hcd : PySem.W.codeIn K cdv qual = true) (S : FnScope N ps scope) (len : ∀ vs H Q E, sp vs H Q E → vs.length = ps.length)
    (hbody : ∀ (A : Around) (outer : List Env) (s : Shared) (H : Hp) (vs : List V) (Q : VK) (E : XK), RoomG k (A.deeper (envOfC qual scope s.heap.objs.size f cdv)) → sp vs H Q E →
      ∃ t, PSs (cxOf CX P w K mg base N qual scope f cdv A outer s H E) body t ∧ t { nx := fun _ H' => Q .non H', rt := Q } (L2.start N vs) H) :
    FnG P w K mg base CX (k + 1) f (PySem.W.fnOf name qual params body scope dV kV doc pm an cdv ct) ps sp := by
  refine ⟨len, fun A outer s H args us vs Q E hr e0 hb r hsp => ?_⟩
  have ln : vs.length = ps.length := len _ _ _ _ hsp
  have inK : K.In s.heap := e0.mod.kin.keeps fun b o q => (e0.bs b o q).1
  have lim : s.heap.NoLimit := e0.mod.nolimit.keeps fun b o q => (e0.bs b o q).1
  refine codeAny_call_function hr.r.depth (inK _ _ lk) rfl S.co S.gen rfl (PySem.W.codeRec_of inK hcd) (hb _ _ _ _ ?_)
  refine wpAny_newFunctionEnv_cells S.kind ?_ ?_
  · rintro ⟨n, v⟩ hy
    rcases S.par n (List.of_mem_zip hy).1 with q | q
    · exact .inl q
    · exact .inr ⟨q, PySem.W.cellsFrom_some _ _ _ (.inl q)⟩
  intro env he s1 x
  subst he
  refine ⟨lim.keeps x.toInCall.keep, codeAny_func ?_⟩
  obtain ⟨t, ht, hq⟩ := hbody A outer s H vs Q E (hr.deeper _) hsp
  have I := inv_start (CX := CX) (E := E) (mg := mg) (base := base) S hr.r.hd e0 ln r x
  refine wpAny_mono (ht.run [] s1 (L2.start N vs) H _ I hq) (fun fl s' hs => ?_) fun _ _ z => z
  match fl, hs with
  | .ret u, ⟨v, σ', H', J, rv, q⟩ => exact ⟨v, H', J.os, J.bare, J.base, J.hok, rv, q⟩
  | .next, ⟨σ', H', J, q⟩ => exact ⟨V.non, H', J.os, J.bare, J.base, J.hok, rfl, q⟩
  | .brk, ⟨_, _, _, q⟩ => exact q.elim
  | .cont, ⟨_, _, _, q⟩ => exact q.elim
/-- THE RULE -/
theorem fnD {x qual : Str} {st : Stmt} {f : Addr} {fd : FuncData} {N ps : List Str} {k : Nat} {sp : DSp} (F : Fun K x qual st f fd) (S : FnScope N ps (defScope st)) (len : ∀ ds S Q, sp ds S Q → ds.length = ps.length) (t : DTS)
    (hbody : ∀ (cdv : Value) (A : Around) (outer : List Env) (s : Shared) (H : Hp) (E : XK), RoomG k (A.deeper (envOfC qual (defScope st) s.heap.objs.size f cdv)) → DSs (cxOf CX0 P w K mg base N qual (defScope st) f cdv A outer s H E).nox (defBody st) t)
    (hsp : ∀ ds S Q, sp ds S Q → t (endsD Q) (startD N ds) S) : FnD P w K mg base (k + 1) f fd ps sp := by
  obtain ⟨oc, od, kV, doc, pm, an, cdv, ct, osl, rfl, lk, hcd⟩ := F.ex
  refine fnG_of lk hcd S (fun vs H Q E ⟨ds, S1, Q0, a, _, c, _⟩ => by rw [a.length]; exact len ds S1 Q0 c) fun A outer s H vs Q E hr h => ?_
  obtain ⟨ds, S1, Q0, den, rS, c, wk⟩ := h
  refine ⟨_, PSs.nox (hbody cdv A outer s H E hr), startD N ds, S1, endsD Q0, rel_start den, rS, hsp ds S1 Q0 c, ?_⟩
  refine ⟨fun ε' S' σ' H' q _ r f => ?_, fun d S' v H' q dd r f => ?_, fun _ _ _ _ q => q.elim, fun _ _ _ _ q => q.elim⟩
  · obtain ⟨S3, sub, q⟩ := q
    exact wk .non S3 .non H' q rfl (r.sub sub) (f.sub sub)
  · obtain ⟨S3, sub, q⟩ := q
    exact wk d S3 v H' q dd (r.sub sub) (f.sub sub)
end

end
section
theorem lawG {P : Program} {w : World} {K : PySem.W.Frag} {mg mb : Str → Option Value} {k : Nat} {fa a : Addr} {fd : FuncData} {x : Str} {sp : DSp} {s1 : Shared} {vs : List Value} {ns : List Int}
    (KX : K.In s1.heap) (hns : s1.heap.Ns mainGlobals mg) (hb : s1.heap.Ns builtinsNs mb) (hbb : ∀ x : Str, x ≠ "__name__" → mb x = bootBuiltins x) (hlim : s1.heap.NoLimit) (hg : s1.gens = #[])
    (ha : s1.heap.get? a = some { cls := .type "list", data := .seq vs.toArray }) (hi : IntsAre vs ns) (hl : ns.length ≤ sizeLine) (hr : RoomG k callerA)
    (F : ∀ base : Heap, K.In base → base.Ns mainGlobals mg → FnD P w K mg base k fa fd [x] sp) (hbind : ∀ (s : Shared) (u : Value), BindsTo s fd ⟨[u], []⟩ [(x, u)])
    (hsp : sp [.ilst (ns.map D.int)] (fun _ => none) fun d _ => d = .bl true) :
    codeAny (model P w) callerA (.call (.ref fa) ⟨[.ref a], []⟩) (fun r s' => r = .ok (.ret (.bool true)) ∧ OldK s1.heap s'.heap ∧ s'.os = s1.os ∧ AllBare s'.gens) s1 := by
  have rv := vals_ints hi
  have ln := hi.length
  have main : ∀ H : Hp, Only H → StL K H a (ns.map V.int) → HOk P w H s1.heap → (∀ b, H b ≠ none → b = a) → (H a ≠ none → K.lookup a = none) →
      codeAny (model P w) callerA (.call (.ref fa) ⟨[.ref a], []⟩) (fun r s' => r = .ok (.ret (.bool true)) ∧ OldK s1.heap s'.heap ∧ s'.os = s1.os ∧ AllBare s'.gens) s1 := by
    intro H hO hS hok hA hK
    have notA : ∀ {b : Addr} {o : Obj} {es : Array DictEntry} {ep : Nat}, s1.heap.get? b = some o → o.data = .dict es ep → H b = none := by
      intro b o es ep e d
      cases q : H b with
      | none => rfl
      | some u =>
        obtain rfl : b = a := hA b (by rw [q]; exact fun z => nomatch z)
        rw [ha] at e
        cases e
        cases d
    have nsK : ∀ {b : Addr} {m : Str → Option Value}, s1.heap.Ns b m → (hidT s1.heap H).Ns b m := by
      rintro b m ⟨o, es, ep, e, d, r⟩
      exact ⟨o, es, ep, hidT_get e (notA e d), d, r⟩
    have kin : K.In (hidT s1.heap H) := by
      intro b o e
      refine hidT_get (KX b o e) ?_
      cases q : H b with
      | none => rfl
      | some u =>
        obtain rfl : b = a := hA b (by rw [q]; exact fun z => nomatch z)
        rw [hK (by rw [q]; exact fun z => nomatch z)] at e
        cases e
    have hM : Mod K mg (hidT s1.heap H) := ⟨kin, nsK hns, ⟨mb, nsK hb, hbb⟩, let ⟨mc, h1, h2⟩ := hlim; ⟨mc, nsK h1, h2⟩⟩
    have nil : ∀ {b : Addr}, b ∉ frs ([] : List Env) := fun z => nomatch z
    have e0 : Env0 P w K mg (hidT s1.heap H) callerA [] s1 H := ⟨rfl, hM, fun b o e => of_hidT e, Nat.le_of_eq (hidT_size _ _), trivial, fun b z => (nil z).elim, hok, .of_eq hg⟩
    have den : DenL K H [D.ilst (ns.map D.int)] [V.ref a] :=
      DenL.one (show ∃ p us, V.ref a = .ref p ∧ StL K H p us ∧ DenL K H (ns.map D.int) us from ⟨a, _, rfl, hS, denL_ints ns⟩)
    have spl : liftSp K sp [V.ref a] H (fun v _ => v = .bl true) (fun _ _ _ => False) :=
      ⟨_, fun _ => none, _, den, ⟨(fun b c z => nomatch z), (fun _ z => nomatch z)⟩, hsp, fun d S' v H' q dd _ _ => by
        subst q
        exact dd⟩
    have go := (F _ kin (nsK hns)).run callerA [] s1 H ⟨[.ref a], []⟩ [.ref a] [.ref a] _ _ hr e0 (hbind s1 (.ref a)) (.cons rfl .nil) spl
    refine codeAny_mono go fun r s' h => ?_
    match r, h with
    | .error e, h => exact h.elim
    | .ok .next, h => exact h.elim
    | .ok .brk, h => exact h.elim
    | .ok .cont, h => exact h.elim
    | .ok (.ret u), ⟨v, H', os, bare, un, hok', rr, q⟩ =>
      have q' : v = .bl true := q
      subst q'
      obtain rfl : u = Value.bool true := rr
      refine ⟨rfl, OldK.of_keep fun b o e => ?_, os, bare⟩
      cases q : H b with
      | none => exact un.keep b o e q nil fun z => nomatch z
      | some u =>
        rcases hO b with z | ⟨ob, xs, z⟩
        · rw [q] at z
          cases z
        · have z2 := un.frzs b ob _ z
          obtain ⟨e1, _⟩ := hok b _ z
          obtain ⟨e2, _⟩ := hok' b _ z2
          rw [e] at e1
          cases e1
          exact e2
  cases hk : K.lookup a with
  | some o =>
    have e := KX a o hk
    rw [ha] at e
    cases e
    refine main (fun _ => none) (fun _ => .inl rfl) (.inr (.inr ⟨_, vs.toArray, _, hk, rfl, rfl, rfl, ?_, by simpa using rv⟩)) (fun b u z => nomatch z) (fun b z => absurd rfl z) fun z => absurd rfl z
    rw [List.size_toArray, ln]
    exact hl
  | none =>
    refine main (fun b => if b = a then some (.frz { cls := .type "list", data := .seq vs.toArray } (.lst (ns.map V.int))) else none) (fun b => ?_) (.inl ⟨{ cls := .type "list", data := .seq vs.toArray }, if_pos rfl⟩) (fun b u z => ?_) (fun b z => ?_) fun _ => hk
    · by_cases hba : b = a
      · exact .inr ⟨_, _, if_pos hba⟩
      · exact .inl (if_neg hba)
    · by_cases hba : b = a
      · have z' := (if_pos hba).symm.trans z
        cases z'
        subst hba
        exact ⟨ha, by rw [List.length_map]; exact hl, vs, _, rv, ha⟩
      · have z' := (if_neg hba).symm.trans z
        cases z'
    · by_cases hba : b = a
      · exact hba
      · exact absurd (if_neg hba) z
theorem walkG {l : PySem.W.OpenLaw} {n k : Nat} {q : Program} {loose : List Str} {XP : (Str → Option Value) → Heap → Prop} {YP : World → Heap → Prop} {d : DefRec} {K : Params → PySem.W.Frag} {sp : DSp} {x : Str}
    (hn : l.most = some n) (hn2 : n ≤ sizeLine) (hdf : d.params.defaults = []) (hr : RoomG k callerA) (hY : ∀ (w : World) (h : Heap), YP w h → (K w.params).In h)
    (F : ∀ (w : World) (mg : Str → Option Value) (fa : Addr) (h : Heap), (K w.params).In h → h.Ns mainGlobals mg → mg d.name = some (.ref fa) →
      ∃ fd : FuncData, (∀ (s : Shared) (u : Value), BindsTo s fd ⟨[u], []⟩ [(x, u)]) ∧
        ∀ base : Heap, (K w.params).In base → base.Ns mainGlobals mg → FnD l.prog w (K w.params) mg base k fa fd [x] sp)
    (hsp : ∀ ns : List Int, ns.length ≤ n → sp [.ilst (ns.map D.int)] (fun _ => none) fun d _ => d = .bl true) :
    PySem.W.WalkO q loose XP YP l.row.toRowW d [] (fun f vs => PySem.call f vs) := by
  refine Att.attach_call hn hdf fun w s₀ s1 mg mb fa o pm cd doc a vs ns G Y ho hd hcd hmg hobj hints hlen hg => ?_
  obtain ⟨fd, hb, hF⟩ := F w mg fa _ (hY w _ Y) G.T.g hmg
  exact lawG (hY w _ Y) G.T.g G.T.b G.T.builtins G.T.nolimit hg hobj hints (Nat.le_trans hlen hn2) hr hF hb (hsp ns hlen)
end
end DL

namespace DL
open PySem PySem.Spec PyProof.Rows L2
variable [Amb]

section
variable {X : Cx}
theorem OpR_or {f : Value → Value → Sem Value} {r r' : R2D} (h : DOp X f r) (h' : DOp X f r') : DOp X f (fun x y S Q => r x y S Q ∨ r' x y S Q) := by
  intro pins s σ H x y v u Q I rx ry ⟨d, e, S, Q0, d1, d2, rS, q, k⟩
  rcases q with q | q
  · exact h pins s σ H x y v u Q I rx ry ⟨d, e, S, Q0, d1, d2, rS, q, k⟩
  · exact h' pins s σ H x y v u Q I rx ry ⟨d, e, S, Q0, d1, d2, rS, q, k⟩
theorem CallR_or {f : Value} {r r' : RAD} (h : DCall X f r) (h' : DCall X f r') : DCall X f (fun x S Q => r x S Q ∨ r' x S Q) := by
  intro pins s σ H xs us Q I rx ⟨d, S, Q0, d1, rS, q, k⟩
  rcases q with q | q
  · exact h pins s σ H xs us Q I rx ⟨d, S, Q0, d1, rS, q, k⟩
  · exact h' pins s σ H xs us Q I rx ⟨d, S, Q0, d1, rS, q, k⟩
theorem IxR_or {r r' : R2D} (h : DIx X r) (h' : DIx X r') : DIx X (fun x y S Q => r x y S Q ∨ r' x y S Q) := by
  intro ve se pins s σ H x y v u Q I rx ry ⟨d, e, S, Q0, d1, d2, rS, q, k⟩
  rcases q with q | q
  · exact h ve se pins s σ H x y v u Q I rx ry ⟨d, e, S, Q0, d1, d2, rS, q, k⟩
  · exact h' ve se pins s σ H x y v u Q I rx ry ⟨d, e, S, Q0, d1, d2, rS, q, k⟩
/-- two ints, under C -/
def rII (C : Int → Int → Prop) (g : Int → Int → D) : R2D := fun x y S Q => ∃ i j, x = .int i ∧ y = .int j ∧ C i j ∧ Q (g i j) S
def rIi (g : Int → Int → D) : R2D := fun x y S Q => ∃ i j, x = .int i ∧ y = .int j ∧ Q (g i j) S
theorem dop_II {f : Value → Value → Sem Value} {C : Int → Int → Prop} {g : Int → Int → V} {g' : Int → Int → D} (h : OpR X f (rI C g)) (hg : ∀ H i j, Den X.K H (g' i j) (g i j)) : DOp X f (rII C g') :=
  OpR_imp h fun x y H Q ⟨d, e, S, Q0, d1, d2, rS, ⟨i, j, e1, e2, c, q⟩, k⟩ => by
    subst e1 e2
    exact ⟨i, j, d1, d2, c, k _ S _ H q (hg H i j) rS Frame.refl⟩
theorem dop_Ii {f : Value → Value → Sem Value} {g : Int → Int → V} {g' : Int → Int → D} (h : OpR X f (rI0 g)) (hg : ∀ H i j, Den X.K H (g' i j) (g i j)) : DOp X f (rIi g') :=
  OpR_imp h fun x y H Q ⟨d, e, S, Q0, d1, d2, rS, ⟨i, j, e1, e2, q⟩, k⟩ => by
    subst e1 e2
    exact ⟨i, j, d1, d2, k _ S _ H q (hg H i j) rS Frame.refl⟩
theorem dop_addI : DOp X (binaryOp .Add) (rIi fun i j => .int (i + j)) := dop_Ii op_add fun _ _ _ => rfl
theorem dop_sub : DOp X (binaryOp .Sub) (rIi fun i j => .int (i - j)) := dop_Ii op_sub fun _ _ _ => rfl
theorem dop_mulI : DOp X (binaryOp .Mult) (rII CMulW fun i j => .int (i * j)) := dop_II op_mulW fun _ _ _ => rfl
theorem dop_fdiv : DOp X (binaryOp .FloorDiv) (rII CDivW fun i j => .int (i / j)) := dop_II op_fdivW fun _ _ _ => rfl
theorem dop_mod : DOp X (binaryOp .Mod) (rII (fun _ j => 0 < j) fun i j => .int (i % j)) := dop_II op_mod fun _ _ _ => rfl
theorem dop_pow : DOp X (binaryOp .Pow) (rII CPow fun i j => .int (i ^ j.toNat)) := dop_II op_pow fun _ _ _ => rfl
theorem dop_lt : DOp X (compareOp .Lt) (rIi fun i j => .bl (decide (i < j))) := dop_Ii op_lt fun _ _ _ => rfl
theorem dop_le : DOp X (compareOp .LtE) (rIi fun i j => .bl (decide (i ≤ j))) := dop_Ii op_le fun _ _ _ => rfl
theorem dop_gt : DOp X (compareOp .Gt) (rIi fun i j => .bl (decide (j < i))) := dop_Ii op_gt fun _ _ _ => rfl
theorem dop_ge : DOp X (compareOp .GtE) (rIi fun i j => .bl (decide (j ≤ i))) := dop_Ii op_ge fun _ _ _ => rfl
/-- -i -/
def dNeg (ta : DTE) : DTE := fun ε S Q => ta ε S fun x S1 => ∃ i, x = .int i ∧ Q (.int (-i)) S1
theorem de_neg {a : Expr} {ta : DTE} {pos : Pos} (ha : DE X a ta) : DE X (.UnaryOp .USub a pos) (dNeg ta) :=
  PE_imp (pe_un un_neg ha) fun σ H Q ⟨ε, S, Q0, rE, rS, q, k⟩ => ⟨ε, S, _, rE, rS, q, fun d S1 v H1 q1 den rS1 f1 => by
    obtain ⟨i, rfl, q2⟩ := q1
    exact ⟨i, den, k _ S1 _ H1 q2 rfl rS1 f1⟩⟩
/-- texts, tuples -/
def rAddS : R2D := fun x y S Q => ∃ a b, x = .str a ∧ y = .str b ∧ a.length + b.length ≤ 1000000 ∧ Q (.str (a ++ b)) S
def rAddT : R2D := fun x y S Q => ∃ a b, x = .tup a ∧ y = .tup b ∧ a.length + b.length ≤ 1000000 ∧ Q (.tup (a ++ b)) S
theorem million {n : Nat} (h : n ≤ 1000000) : n ≤ sizeLine := Nat.le_trans h (by decide)
theorem dop_addS : DOp X (binaryOp .Add) rAddS :=
  OpR_imp op_add_str fun x y H Q ⟨d, e, S, Q0, d1, d2, rS, ⟨a, b, e1, e2, c, q⟩, k⟩ => by
    subst e1 e2
    exact ⟨a, b, d1, d2, million c, k _ S _ H q rfl rS Frame.refl⟩
/-- t + u, a new one plain -/
def rCatF (K : PySem.W.Frag) : R2 := fun x y H Q => ∃ a b xs ys, x = .ref a ∧ y = .ref b ∧ SqT K H a xs ∧ SqT K H b ys ∧ xs.length + ys.length ≤ sizeLine ∧
  (xs = [] → Q (.ref b) H) ∧ (ys = [] → Q (.ref a) H) ∧ newT H (xs ++ ys) Q
theorem op_catF : OpR X (binaryOp .Add) (rCatF X.K) := by
  intro pins s σ H x y v u Q I rx ry ⟨a, b, xs, ys, e1, e2, ha, hb, hz, q0, q1, q2⟩
  subst e1 e2
  cases rx
  cases ry
  obtain ⟨its, r1, p1, _⟩ := I.tuple ha
  obtain ⟨its2, r2, p2, _⟩ := I.tuple hb
  by_cases hx : xs = []
  · subst hx
    cases r1
    exact cat_tup0 p1 p2 ⟨.ref b, H, I, rfl, q0 rfl⟩
  · refine HT.cat_tup p1 p2 (fun z => hx (r1.nil_iff.mp z)) (fun z => ⟨.ref a, H, I, rfl, q1 (r2.nil_iff.mp z)⟩) (fun z => ?_) (by rw [← r1.length, ← r2.length]; exact hz)
    exact ep_newT (t' := s.toks) I (r1.append r2) (by rw [List.length_append]; exact hz) q2
theorem dop_addT : DOp X (binaryOp .Add) rAddT :=
  OpR_imp op_catF fun x y H Q ⟨d, e, S, Q0, d1, d2, rS, ⟨a, b, e1, e2, c, q⟩, k⟩ => by
    subst e1 e2
    obtain ⟨p, xs, rfl, h1, g1⟩ := d1.untup
    obtain ⟨p', ys, rfl, h2, g2⟩ := d2.untup
    refine ⟨p, p', xs, ys, rfl, rfl, h1.sq, h2.sq, by rw [g1.length, g2.length]; exact million c, fun z => ?_, fun z => ?_, k.newTup rS (g1.app g2) q⟩
    · subst z
      have e : a = [] := List.length_eq_zero_iff.mp g1.length.symm
      subst e
      exact k _ S _ H q (den_tup h2 g2) rS Frame.refl
    · subst z
      have e : b = [] := List.length_eq_zero_iff.mp g2.length.symm
      subst e
      rw [List.append_nil] at q
      exact k _ S _ H q (den_tup h1 g1) rS Frame.refl
def rAdd : R2D := fun x y S Q => rIi (fun i j => .int (i + j)) x y S Q ∨ rAddS x y S Q ∨ rAddT x y S Q
theorem dop_add : DOp X (binaryOp .Add) rAdd := OpR_or dop_addI (OpR_or dop_addS dop_addT)
theorem rep_size (c : Array Nat) : ∀ (n : Nat) (acc : Array Nat), ((List.replicate n c).foldl (· ++ ·) acc).size = acc.size + n * c.size
  | 0, acc => by simp
  | n + 1, acc => by
    rw [List.replicate_succ, List.foldl_cons, rep_size c n, Array.size_append, Nat.add_mul]
    omega
/-- a text so many times -/
def strMul (x : Str) (n : Int) : Str := if n < 1 then Str.empty else ⟨(List.replicate n.toNat x.cps).foldl (· ++ ·) #[]⟩
def rMulS : R2D := fun x y S Q => ∃ a i, x = .str a ∧ y = .int i ∧ -1000 ≤ i ∧ i ≤ 1000 ∧ a.length ≤ 1000 ∧ Q (.str (strMul a i)) S
theorem dop_mulS : DOp X (binaryOp .Mult) rMulS := by
  intro pins s σ H x y v u Q I rx ry ⟨d, e, S, Q0, d1, d2, rS, ⟨a, i, e1, e2, h1, h2, h3, q⟩, k⟩
  subst e1 e2
  cases (show x = .str a from d1)
  cases (show y = .int i from d2)
  obtain ⟨t, rfl⟩ := rx
  obtain ⟨t', rfl⟩ := ry
  have fin : ∀ z : Str, z = strMul a i → ∀ (t2 : Tok) (n : Nat), EP X pins σ Q (.str z t2) { s with toks := n } := by
    rintro z rfl t2 n
    exact ⟨.str (strMul a i), H, I.tok _, ⟨t2, rfl⟩, k _ S _ H q rfl rS Frame.refl⟩
  have sz : a.length * i.toNat ≤ 1000000 := by
    have := Nat.mul_le_mul h3 (show i.toNat ≤ 1000 by omega)
    exact this
  refine PySem.P.mul_str (by rw [decide_eq_false (by omega), decide_eq_false (by omega)]; rfl) (fun hn _ hgt => ?_) (fun hn _ => ?_) ?_
  · have : (1000 : Int) ≤ (2 ^ 63 - 1) / i := by
      rw [Int.le_ediv_iff_mul_le (by omega)]
      omega
    omega
  · unfold Builtin.Str.tooLong
    have := million sz
    simp
    omega
  · by_cases hn : i < 1
    · rw [if_pos hn]
      refine ⟨by decide, ?_⟩
      exact fin _ (by unfold strMul; rw [if_pos hn]) _ _
    · rw [if_neg hn]
      split
      · rename_i hc
        have hz : a = strMul a i := by
          unfold strMul
          rw [if_neg hn]
          rw [Bool.or_eq_true] at hc
          rcases hc with hc | hc
          · have : i = 1 := by simpa using hc
            subst this
            cases a
            simp
          · have hl : a.length = 0 := by simpa using hc
            have ha : a.cps = #[] := Array.eq_empty_of_size_eq_zero hl
            have all : ∀ n : Nat, (List.replicate n a.cps).foldl (· ++ ·) #[] = #[] := by
              intro n
              rw [ha]
              induction n with
              | zero => rfl
              | succ n ih => simpa [List.replicate_succ] using ih
            rw [all]
            cases a
            simp at ha
            rw [ha]
        have := fin a hz t s.toks
        exact this
      · refine ⟨?_, ?_⟩
        · show ((List.replicate i.toNat a.cps).foldl (· ++ ·) #[]).size ≤ sizeLine
          rw [rep_size]
          have e : a.cps.size = a.length := rfl
          rw [e, Nat.mul_comm]
          exact million (by simpa using sz)
        · exact fin _ (by unfold strMul; rw [if_neg hn]) _ _

mutual
def D.py : D → PyData
  | .non => .none
  | .bl b => .bool b
  | .int i => .int i
  | .str x => .str x
  | .ty _ => .none
  | .ref _ => .none
  | .tup ds => .tuple (pys ds)
  | .ilst ds => .list (pys ds)
  | .edic => .none
def pys : List D → List PyData
  | [] => []
  | d :: ds => d.py :: pys ds
end
mutual
/-- no reference within -/
def D.plain : D → Bool
  | .non => true
  | .bl _ => true
  | .int _ => true
  | .str _ => true
  | .ty _ => false
  | .ref _ => false
  | .tup ds => plainL ds
  | .ilst ds => plainL ds
  | .edic => false
def plainL : List D → Bool
  | [] => true
  | d :: ds => d.plain && plainL ds
end
mutual
theorem Den.dp {K : PySem.W.Frag} {H : Hp} : ∀ (d : D) (v : V), Den K H d v → d.plain = true → Dp K H v d.py
  | .non, _, h, _ => by
    cases (show _ = V.non from h)
    exact .non
  | .bl b, _, h, _ => by
    cases (show _ = V.bl b from h)
    exact .bl b
  | .int b, _, h, _ => by
    cases (show _ = V.int b from h)
    exact .int b
  | .str b, _, h, _ => by
    cases (show _ = V.str b from h)
    exact .str b
  | .tup ds, _, h, p => by
    obtain ⟨a, vs, rfl, h1, h2⟩ := h.untup
    exact .tup h1.sq (DenL.dp ds vs h2 p)
  | .ilst ds, _, h, p => by
    obtain ⟨a, vs, rfl, h1, h2⟩ := h.unilst
    exact .lst h1.sq (DenL.dp ds vs h2 p)
  | .edic, _, _, p => nomatch p
  | .ty _, _, _, p => nomatch p
  | .ref _, _, _, p => nomatch p
theorem DenL.dp {K : PySem.W.Frag} {H : Hp} : ∀ (ds : List D) (vs : List V), DenL K H ds vs → plainL ds = true → DpAll K H vs (pys ds)
  | [], _, h, _ => by
    cases h.nil_eq
    exact .nil
  | d :: ds, _, h, p => by
    obtain ⟨v, w, rfl, h1, h2⟩ := h.uncons
    have p' : (d.plain && plainL ds) = true := p
    rw [Bool.and_eq_true] at p'
    exact .cons (Den.dp d v h1 p'.1) (DenL.dp ds w h2 p'.2)
end
/-- what a value is as data, lists read off the store -/
def toP (S : SD) (x : D) (a : PyData) : Prop := (x.plain = true ∧ a = x.py) ∨ ∃ p ds, x = .ref p ∧ S p = some (.lst ds) ∧ plainL ds = true ∧ a = .list (pys ds)
theorem toP_dp {K : PySem.W.Frag} {H : Hp} {S : SD} {x : D} {v : V} {a : PyData} (rS : RelS K H S) (d : Den K H x v) (h : toP S x a) : Dp K H v a := by
  rcases h with ⟨p, rfl⟩ | ⟨p, ds, rfl, h1, h2, rfl⟩
  · exact Den.dp x v d p
  · cases (show v = .ref p from d)
    obtain ⟨vs, e1, e2⟩ := rS.lst h1
    exact .lst (SqL.of e1) (DenL.dp ds vs e2 h2)
def rEqG (neg : Bool) : R2D := fun x y S Q => ∃ a b, toP S x a ∧ toP S y b ∧ SeqAt.shaped a = true ∧ SeqAt.shaped b = true ∧ Q (.bl (if neg then !PyData.eqv a b else PyData.eqv a b)) S
def rEqS (neg : Bool) : R2D := fun x y S Q => ∃ a b, x = .str a ∧ y = .str b ∧ Q (.bl (if neg then !decide (a = b) else decide (a = b))) S
theorem scal_str {a b : Str} : scal (.str a) (.str b) = true := rfl
theorem dec_str {a b : Str} : decide (V.str a = V.str b) = decide (a = b) := by
  by_cases h : a = b
  · subst h; simp
  · rw [decide_eq_false h, decide_eq_false fun z => h (V.str.inj z)]
theorem dop_eqS : DOp X (compareOp .Eq) (rEqS false) :=
  OpR_imp op_eq fun x y H Q ⟨d, e, S, Q0, d1, d2, rS, ⟨a, b, e1, e2, q⟩, k⟩ => by
    subst e1 e2
    cases (show x = .str a from d1)
    cases (show y = .str b from d2)
    exact ⟨rfl, by rw [dec_str]; exact k _ S _ H q rfl rS Frame.refl⟩
theorem dop_neS : DOp X (compareOp .NotEq) (rEqS true) :=
  OpR_imp op_ne fun x y H Q ⟨d, e, S, Q0, d1, d2, rS, ⟨a, b, e1, e2, q⟩, k⟩ => by
    subst e1 e2
    cases (show x = .str a from d1)
    cases (show y = .str b from d2)
    exact ⟨rfl, by rw [dec_str]; exact k _ S _ H q rfl rS Frame.refl⟩
theorem dop_eqG (hu : X.A.units + 64 < cLine) : DOp X (compareOp .Eq) (rEqG false) :=
  OpR_imp (op_eqD hu) fun x y H Q ⟨d, e, S, Q0, d1, d2, rS, ⟨a, b, p1, p2, s1, s2, q⟩, k⟩ => ⟨a, b, toP_dp rS d1 p1, toP_dp rS d2 p2, s1, s2, k _ S _ H q rfl rS Frame.refl⟩
theorem dop_neG (hu : X.A.units + 64 < cLine) : DOp X (compareOp .NotEq) (rEqG true) :=
  OpR_imp (op_neD hu) fun x y H Q ⟨d, e, S, Q0, d1, d2, rS, ⟨a, b, p1, p2, s1, s2, q⟩, k⟩ => ⟨a, b, toP_dp rS d1 p1, toP_dp rS d2 p2, s1, s2, k _ S _ H q rfl rS Frame.refl⟩
theorem DOp_imp {f : Value → Value → Sem Value} {r r' : R2D} (h : DOp X f r) (i : ∀ x y S Q, r' x y S Q → r x y S Q) : DOp X f r' :=
  OpR_imp h fun x y H Q ⟨d, e, S, Q0, d1, d2, rS, q, k⟩ => ⟨d, e, S, Q0, d1, d2, rS, i _ _ _ _ q, k⟩
/-- == and !=: texts and ints at once, all else as data -/
def rEqD (neg : Bool) : R2D := fun x y S Q => match x, y with
  | .str a, .str b => Q (.bl (if neg then !decide (a = b) else decide (a = b))) S
  | .int a, .int b => Q (.bl (if neg then !decide (a = b) else decide (a = b))) S
  | x, y => rEqG neg x y S Q
theorem shaped_int {i : Int} : SeqAt.shaped (.int i) = true := by simp [SeqAt.shaped, PyData.canLay0, PyData.depth]
theorem rEqD_split {neg : Bool} {x y : D} {S : SD} {Q : DK} (h : rEqD neg x y S Q) : rEqS neg x y S Q ∨ rEqG neg x y S Q := by
  unfold rEqD at h
  split at h
  · exact .inl ⟨_, _, rfl, rfl, h⟩
  · refine .inr ⟨_, _, .inl ⟨rfl, rfl⟩, .inl ⟨rfl, rfl⟩, shaped_int, shaped_int, ?_⟩
    have e : ∀ a b : Int, PyData.eqv (D.int a).py (D.int b).py = decide (a = b) := fun a b => by
      simp only [D.py, PyData.eqv]
      exact (Bool.beq_eq_decide_eq a b)
    rw [e]
    exact h
  · exact .inr h
theorem dop_eq (hu : X.A.units + 64 < cLine) : DOp X (compareOp .Eq) (rEqD false) := DOp_imp (OpR_or dop_eqS (dop_eqG hu)) fun _ _ _ _ => rEqD_split
theorem dop_ne (hu : X.A.units + 64 < cLine) : DOp X (compareOp .NotEq) (rEqD true) := DOp_imp (OpR_or dop_neS (dop_neG hu)) fun _ _ _ _ => rEqD_split
/-- is, is not of truths -/
def rIsBD (neg : Bool) : R2D := fun x y S Q => ∃ a b, x = .bl a ∧ y = .bl b ∧ Q (.bl (if neg then !decide (a = b) else decide (a = b))) S
theorem dop_isB : DOp X (compareOp .Is) (rIsBD false) :=
  OpR_imp op_isBl fun x y H Q ⟨d, e, S, Q0, d1, d2, rS, ⟨a, b, e1, e2, q⟩, k⟩ => by
    subst e1 e2
    exact ⟨a, b, d1, d2, k _ S _ H q rfl rS Frame.refl⟩
theorem dop_notB : DOp X (compareOp .IsNot) (rIsBD true) :=
  OpR_imp op_notBl fun x y H Q ⟨d, e, S, Q0, d1, d2, rS, ⟨a, b, e1, e2, q⟩, k⟩ => by
    subst e1 e2
    exact ⟨a, b, d1, d2, k _ S _ H q rfl rS Frame.refl⟩

def flatD : D → Bool
  | .non => true
  | .bl _ => true
  | .int _ => true
  | .str _ => true
  | _ => false
def vOf : D → V
  | .non => .non
  | .bl b => .bl b
  | .int i => .int i
  | .str x => .str x
  | .ty n => .ty n
  | .ref a => .ref a
  | _ => .non
theorem den_flat {K : PySem.W.Frag} {H : Hp} {d : D} {v : V} (h : Den K H d v) (f : flatD d = true) : v = vOf d ∧ flatV v = true := by
  cases d with
  | non => cases (show v = .non from h); exact ⟨rfl, rfl⟩
  | bl b => cases (show v = .bl b from h); exact ⟨rfl, rfl⟩
  | int b => cases (show v = .int b from h); exact ⟨rfl, rfl⟩
  | str b => cases (show v = .str b from h); exact ⟨rfl, rfl⟩
  | _ => cases f
theorem denL_flat {K : PySem.W.Frag} {H : Hp} : ∀ {ds : List D} {vs : List V}, DenL K H ds vs → ds.all flatD = true → vs = ds.map vOf ∧ vs.all flatV = true
  | [], _, h, _ => by
    cases h.nil_eq
    exact ⟨rfl, rfl⟩
  | d :: ds, _, h, f => by
    obtain ⟨v, w, rfl, h1, h2⟩ := h.uncons
    rw [List.all_cons, Bool.and_eq_true] at f
    obtain ⟨e1, f1⟩ := den_flat h1 f.1
    obtain ⟨e2, f2⟩ := denL_flat h2 f.2
    subst e1 e2
    exact ⟨rfl, by rw [List.all_cons, f1, f2]; rfl⟩
/-- x is one of them -/
def inD (x : D) (ds : List D) : Bool := ds.any fun d => eqV (vOf d) (vOf x)
theorem inD_eq (x : D) (ds : List D) : inV (vOf x) (ds.map vOf) = inD x ds := by
  unfold inV inD
  rw [List.any_map]
  rfl
def itemsIn (S : SD) (y : D) (ds : List D) : Prop := y = .tup ds ∨ y = .ilst ds ∨ ∃ p, y = .ref p ∧ S p = some (.lst ds)
theorem itemsIn_sq {K : PySem.W.Frag} {H : Hp} {S : SD} {y : D} {ds : List D} {v : V} (rS : RelS K H S) (d : Den K H y v) (h : itemsIn S y ds) : ∃ p vs, v = .ref p ∧ (SqL K H p vs ∨ SqT K H p vs) ∧ DenL K H ds vs := by
  rcases h with rfl | rfl | ⟨p, rfl, h⟩
  · obtain ⟨a, vs, rfl, h1, h2⟩ := d.untup
    exact ⟨a, vs, rfl, .inr h1.sq, h2⟩
  · obtain ⟨a, vs, rfl, h1, h2⟩ := d.unilst
    exact ⟨a, vs, rfl, .inl h1.sq, h2⟩
  · cases (show v = .ref p from d)
    obtain ⟨vs, e1, e2⟩ := rS.lst h
    exact ⟨p, vs, rfl, .inl (SqL.of e1), e2⟩
def rInD (neg : Bool) : R2D := fun x y S Q => ∃ ds, itemsIn S y ds ∧ flatD x = true ∧ ds.all flatD = true ∧ Q (.bl (if neg then !inD x ds else inD x ds)) S
theorem rInD_lift {K : PySem.W.Frag} {neg : Bool} {x y : V} {H : Hp} {Q : VK} (h : lift2 K (DL.rInD neg) x y H Q) : rIn K neg x y H Q := by
  obtain ⟨d, e, S, Q0, d1, d2, rS, ⟨ds, hi, f1, f2, q⟩, k⟩ := h
  obtain ⟨p, vs, rfl, hs, den⟩ := itemsIn_sq rS d2 hi
  obtain ⟨e1, g1⟩ := den_flat d1 f1
  obtain ⟨e2, g2⟩ := denL_flat den f2
  subst e1 e2
  exact ⟨p, _, rfl, hs, g1, g2, by rw [inD_eq]; exact k _ S _ H q rfl rS Frame.refl⟩
theorem dop_in : DOp X (compareOp .In) (DL.rInD false) := OpR_imp op_in_seq fun _ _ _ _ => rInD_lift
theorem dop_notIn : DOp X (compareOp .NotIn) (DL.rInD true) := OpR_imp op_notIn_seq fun _ _ _ _ => rInD_lift

def rIxD : R2D := fun x y S Q => match x, y with
  | .tup ds, .int i => ∃ d, atI ds i = some d ∧ Q d S
  | .ilst ds, .int i => ∃ d, atI ds i = some d ∧ Q d S
  | .ref p, .int i => ∃ ds, S p = some (.lst ds) ∧ ∃ d, atI ds i = some d ∧ Q d S
  | .str z, .int i => z.length ≤ 1000000 ∧ ∃ c, atI z.cps.toList i = some c ∧ Q (.str ⟨#[c]⟩) S
  | _, _ => False
theorem atI_den {K : PySem.W.Frag} {H : Hp} {ds : List D} {vs : List V} {i : Int} {d : D} (h : DenL K H ds vs) (e : atI ds i = some d) : ∃ v, atI vs i = some v ∧ Den K H d v := by
  unfold atI at e ⊢
  rw [h.length]
  cases q : ixN ds.length i with
  | none => rw [q] at e; cases e
  | some j =>
    rw [q] at e
    exact h.get e
theorem rIxD_lift {K : PySem.W.Frag} {x y : V} {H : Hp} {Q : VK} (h : lift2 K rIxD x y H Q) : rIx K x y H Q := by
  obtain ⟨d, e, S, Q0, d1, d2, rS, q, k⟩ := h
  unfold rIxD at q
  split at q
  · obtain ⟨d, hi, q⟩ := q
    obtain ⟨a, vs, rfl, h1, h2⟩ := d1.untup
    obtain ⟨v, e1, e2⟩ := atI_den h2 hi
    exact .inr (.inl ⟨a, vs, _, v, rfl, d2, h1.sq, e1, k _ S _ H q e2 rS Frame.refl⟩)
  · obtain ⟨d, hi, q⟩ := q
    obtain ⟨a, vs, rfl, h1, h2⟩ := d1.unilst
    obtain ⟨v, e1, e2⟩ := atI_den h2 hi
    exact .inl ⟨a, vs, _, v, rfl, d2, h1.sq, e1, k _ S _ H q e2 rS Frame.refl⟩
  · rename_i p i
    obtain ⟨ds, hp, d, hi, q⟩ := q
    obtain ⟨vs, h1, h2⟩ := rS.lst hp
    obtain ⟨v, e1, e2⟩ := atI_den h2 hi
    exact .inl ⟨p, vs, _, v, d1, d2, SqL.of h1, e1, k _ S _ H q e2 rS Frame.refl⟩
  · obtain ⟨hz, c, hc, q⟩ := q
    exact .inr (.inr ⟨_, _, c, d1, d2, million hz, hc, k _ S _ H q rfl rS Frame.refl⟩)
  · exact q.elim
theorem dix : DIx X rIxD := IxR_imp (IxR.or ix_list (IxR.or ix_tup ix_str)) fun _ _ _ _ => rIxD_lift
def dIx (ta tb : DTE) : DTE := dOp rIxD ta tb
theorem de_ix {a b : Expr} {ta tb : DTE} {pos : Pos} (ha : DE X a ta) (hb : DE X b tb) (hs : PlainIx b := by intro _ _; rfl) : DE X (.Subscript a b pos) (dIx ta tb) :=
  PE_imp (pe_ix dix ha hb hs) fun _ _ _ => dOp_lift
/-- [..][i]: a list just made, an item of it -/
def dIxF (t : DTA) (tb : DTE) : DTE := fun ε S Q => t ε S fun ds S1 => tb ε S1 fun y S2 => ∃ i, y = .int i ∧ ∃ d, atI ds i = some d ∧ Q d S2
theorem de_ixF {a b : Expr} {t : DTA} {tb : DTE} {pos : Pos} (ha : DF X a t) (hb : DE X b tb) (hs : PlainIx b := by intro _ _; rfl) : DE X (.Subscript a b pos) (dIxF t tb) :=
  PE_imp (pe_ix ix_list ha hb hs) fun σ H Q ⟨ε, S, Q0, rE, rS, q, k⟩ => ⟨ε, S, _, rE, rS, q, fun ds S1 p vs H1 q1 _ hS hp den rS1 f1 =>
    ⟨ε, S1, _, rE.frame rS f1, rS1, q1, fun y S2 v H2 q2 dy rS2 f2 => by
      obtain ⟨i, rfl, d, hi, q3⟩ := q2
      obtain ⟨u, e1, e2⟩ := atI_den (DenL.frame rS1 f2 ds vs den) hi
      exact ⟨p, vs, i, u, rfl, dy, SqL.of (f2.keep p _ hS hp (fun _ z => nomatch z)).1, e1, k _ S2 _ H2 q3 e2 rS2 (f1.trans f2)⟩⟩⟩
end
end DL

namespace DL
open PySem PySem.Spec PyProof.Rows L2
variable [Amb]

abbrev DTO := ED → SD → (Option Int → SD → Prop) → Prop
def liftO (K : PySem.W.Frag) (t : DTO) : TO := fun σ H Q => ∃ ε S Q0, RelE K H σ ε ∧ RelS K H S ∧ t ε S Q0 ∧ ∀ o S' H', Q0 o S' → RelS K H' S' → Frame S H S' H' → Q o H'
abbrev DPO (X : Cx) (e : Option Expr) (t : DTO) : Prop := PO X e (liftO X.K t)
def dNoPart : DTO := fun _ S Q => Q none S
def dPart (t : DTE) : DTO := fun ε S Q => t ε S fun x S1 => ∃ i, x = .int i ∧ Q (some i) S1
/-- the items of xs[lo:hi] -/
def cutG {α : Type} (xs : List α) (lo hi : Option Int) : List α := (xs.drop (HT.sIx xs.length 0 lo)).take (HT.sIx xs.length xs.length hi - HT.sIx xs.length 0 lo)
theorem cutG_from {α : Type} (xs : List α) (k : Nat) : cutG xs (some (k : Int)) none = xs.drop k := by
  unfold cutG
  rw [HT.sIx_nat, HT.sIx_none]
  by_cases h : k ≤ xs.length
  · rw [Nat.min_eq_left h]
    exact List.take_of_length_le (by rw [List.length_drop]; exact Nat.le_refl _)
  · rw [Nat.min_eq_right (by omega), List.drop_length, List.drop_eq_nil_of_le (by omega), List.take_nil]
theorem cutG_to {α : Type} (xs : List α) (k : Nat) : cutG xs none (some (k : Int)) = xs.take k := by
  unfold cutG
  rw [HT.sIx_nat, HT.sIx_none]
  show List.take (min k xs.length - 0) (xs.drop 0) = _
  rw [Nat.sub_zero, List.drop_zero]
  by_cases h : k ≤ xs.length
  · rw [Nat.min_eq_left h]
  · rw [Nat.min_eq_right (by omega), List.take_length, List.take_of_length_le (by omega)]
theorem cutG_1 {α : Type} (xs : List α) : cutG xs (some 1) none = xs.drop 1 := cutG_from xs 1
theorem cutG_2 {α : Type} (xs : List α) : cutG xs (some 2) none = xs.drop 2 := cutG_from xs 2
theorem cutG_den {K : PySem.W.Frag} {H : Hp} {ds : List D} {vs : List V} (h : DenL K H ds vs) (lo hi : Option Int) : DenL K H (cutG ds lo hi) (cutG vs lo hi) := by
  unfold cutG
  rw [h.length]
  exact (h.drop _).take _
section
variable {X : Cx} {e l a b : Expr} {te ta tb : DTE} {t u : DTA} {lo hi : Option Expr} {tl th : DTO} {pos p2 p : Pos}
theorem dpo_none : DPO X none dNoPart := ⟨fun pins s σ H Q I ⟨ε, S, Q0, rE, rS, q, k⟩ => po_none.run pins s σ H Q I (k none S H q rS Frame.refl)⟩
theorem dpo_some (h : DE X e te) : DPO X (some e) (dPart te) := ⟨fun pins s σ H Q I ⟨ε, S, Q0, rE, rS, q, k⟩ => (po_some h).run pins s σ H Q I
  ⟨ε, S, _, rE, rS, q, fun d S1 v H1 q1 den rS1 f1 => by
    obtain ⟨i, rfl, q2⟩ := q1
    exact ⟨i, den, k (some i) S1 H1 q2 rS1 f1⟩⟩⟩
def dSl (r : D → Option Int → Option Int → SD → DK → Prop) (te : DTE) (tl th : DTO) : DTE := fun ε S Q => te ε S fun x S1 => tl ε S1 fun l S2 => th ε S2 fun u S3 => r x l u S3 Q
def rSlF (K : PySem.W.Frag) : V → Option Int → Option Int → Hp → VK → Prop := fun x lo hi H Q => ∃ a xs, x = .ref a ∧ SqT K H a xs ∧ (cutG xs lo hi = xs → Q (.ref a) H) ∧ newT H (cutG xs lo hi) Q
theorem cutG_whole {α : Type} {xs : List α} {lo hi : Option Int} (h1 : HT.sIx xs.length 0 lo = 0) (h2 : HT.sIx xs.length xs.length hi = xs.length) : cutG xs lo hi = xs := by
  unfold cutG
  rw [h1, h2, Nat.sub_zero, List.drop_zero, List.take_length]
theorem sl_tupF : SlR X (rSlF X.K) := by
  intro pins s σ H x v vl vu lo hi sl Q I rx hs pl pu ⟨a, xs, e1, hx, q1, q2⟩
  subst e1
  by_cases hw : HT.sIx xs.length 0 lo = 0 ∧ HT.sIx xs.length xs.length hi = xs.length
  · exact sl_tupA pins s σ H _ v vl vu lo hi sl Q I rx hs pl pu ⟨a, xs, rfl, hx, fun _ => q1 (cutG_whole hw.1 hw.2), fun z => absurd hw z⟩
  · cases rx
    obtain ⟨its, r, ht, hz⟩ := I.tuple hx
    have hlen : its.toArray.size = xs.length := by rw [List.size_toArray]; exact r.length.symm
    refine ⟨"tuple", _, PyProof.Rows.slot_tuple_getitem.lookup, ht.typeIs, ?_⟩
    refine HT.getItem_tuple_cut ht hs pl pu (by rw [hlen]; exact hw) ?_ (by rw [hlen]; exact hz)
    rw [hlen]
    exact ep_newT (t' := s.toks) I ((r.drop (HT.sIx xs.length 0 lo)).take _) (by rw [List.length_take, List.length_drop]; omega) q2
def rSlTD : D → Option Int → Option Int → SD → DK → Prop := fun x lo hi S Q => ∃ ds, x = .tup ds ∧ Q (.tup (cutG ds lo hi)) S
theorem de_slT (he : DE X e te) (hl : DPO X lo tl) (hh : DPO X hi th) : DE X (.Subscript e (.Slice lo hi none p2) pos) (dSl rSlTD te tl th) :=
  PE_imp (pe_slice sl_tupF he hl hh) fun σ H Q ⟨ε, S, Q0, rE, rS, q, k⟩ => ⟨ε, S, _, rE, rS, q, fun d S1 v H1 q1 den rS1 f1 =>
    ⟨ε, S1, _, rE.frame rS f1, rS1, q1, fun l S2 H2 q2 rS2 f2 => ⟨ε, S2, _, (rE.frame rS f1).frame rS1 f2, rS2, q2, fun u S3 H3 q3 rS3 f3 => by
      obtain ⟨ds, rfl, q4⟩ := q3
      obtain ⟨a, vs, rfl, hst, hd⟩ := (den.frame rS1 (f2.trans f3)).untup
      refine ⟨a, vs, rfl, hst.sq, fun z => ?_, (k.frame ((f1.trans f2).trans f3)).newTup rS3 (cutG_den hd l u) q4⟩
      have hcut := cutG_den hd l u
      rw [z] at hcut
      exact k _ S3 _ H3 q4 (den_tup hst hcut) rS3 ((f1.trans f2).trans f3)⟩⟩⟩
/-- xs[lo:hi] of a list that the store tells of: a list just made -/
def dSlL (te : DTE) (tl th : DTO) : DTA := fun ε S Q => te ε S fun x S1 => tl ε S1 fun l S2 => th ε S2 fun u S3 => ∃ p ds, x = .ref p ∧ S3 p = some (.lst ds) ∧ Q (cutG ds l u) S3
theorem df_slL (he : DE X e te) (hl : DPO X lo tl) (hh : DPO X hi th) : DF X (.Subscript e (.Slice lo hi none p2) pos) (dSlL te tl th) :=
  PE_imp (pe_slice sl_list he hl hh) fun σ H Q ⟨ε, S, Q0, rE, rS, q, k⟩ => ⟨ε, S, _, rE, rS, q, fun d S1 v H1 q1 den rS1 f1 =>
    ⟨ε, S1, _, rE.frame rS f1, rS1, q1, fun l S2 H2 q2 rS2 f2 => ⟨ε, S2, _, (rE.frame rS f1).frame rS1 f2, rS2, q2, fun u S3 H3 q3 rS3 f3 => by
      obtain ⟨p, ds, rfl, hp, q4⟩ := q3
      cases (show v = .ref p from den)
      obtain ⟨vs, hv, hd⟩ := rS3.lst hp
      exact ⟨p, vs, rfl, SqL.of hv, fun r hr => ((show WkF X.K S H Q0 Q from k).frame ((f1.trans f2).trans f3)).new rS3 (cutG_den hd l u) hr q4⟩⟩⟩⟩
/-- xs[::-1] -/
def dRevL (te : DTE) : DTA := fun ε S Q => te ε S fun x S1 => ∃ p ds, x = .ref p ∧ S1 p = some (.lst ds) ∧ Q ds.reverse S1
theorem df_revL {k : Nat} {q1 q2 q3 : Pos} (he : DE X e te) : DF X (.Subscript e (.Slice none none (some (.UnaryOp .USub (.Constant (.int 1) k q1) q2)) q3) pos) (dRevL te) :=
  PE_imp (pe_revL he) fun σ H Q ⟨ε, S, Q0, rE, rS, q, k⟩ => ⟨ε, S, _, rE, rS, q, fun d S1 v H1 q1 den rS1 f1 => by
    obtain ⟨p, ds, rfl, hp, q2⟩ := q1
    cases (show v = .ref p from den)
    obtain ⟨vs, hv, hd⟩ := rS1.lst hp
    exact ⟨p, vs, rfl, SqL.of hv, fun r hr => ((show WkF X.K S H Q0 Q from k).frame f1).new rS1 hd.rev hr q2⟩⟩

def dCatFF (t u : DTA) : DTA := fun ε S Q => t ε S fun xs S1 => u ε S1 fun ys S2 => xs.length + ys.length ≤ 1000000 ∧ Q (xs ++ ys) S2
def dCatVF (ta : DTE) (u : DTA) : DTA := fun ε S Q => ta ε S fun x S1 => u ε S1 fun ys S2 => ∃ p xs, x = .ref p ∧ S2 p = some (.lst xs) ∧ xs.length + ys.length ≤ 1000000 ∧ Q (xs ++ ys) S2
def dCatFV (t : DTA) (tb : DTE) : DTA := fun ε S Q => t ε S fun xs S1 => tb ε S1 fun y S2 => ∃ p ys, y = .ref p ∧ S2 p = some (.lst ys) ∧ xs.length + ys.length ≤ 1000000 ∧ Q (xs ++ ys) S2
def dCatVV (ta tb : DTE) : DTA := fun ε S Q => ta ε S fun x S1 => tb ε S1 fun y S2 => ∃ p p' xs ys, x = .ref p ∧ y = .ref p' ∧ S2 p = some (.lst xs) ∧ S2 p' = some (.lst ys) ∧ xs.length + ys.length ≤ 1000000 ∧ Q (xs ++ ys) S2
theorem df_catFF (ha : DF X a t) (hb : DF X b u) : DF X (.BinOp a .Add b pos) (dCatFF t u) :=
  PE_imp (pe_op op_cat ha hb) fun σ H Q ⟨ε, S, Q0, rE, rS, q, k⟩ => ⟨ε, S, _, rE, rS, q, fun ds S1 p vs H1 q1 _ hS hp den rS1 f1 =>
    ⟨ε, S1, _, rE.frame rS f1, rS1, q1, fun es S2 p' us H2 q2 _ hS' hp' den2 rS2 f2 => by
      have kp := f2.keep p _ hS hp (fun _ z => nomatch z)
      have d1 := DenL.frame rS1 f2 ds vs den
      exact ⟨p, p', vs, us, rfl, rfl, kp.1, hp', by rw [d1.length, den2.length]; exact million q2.1, fun r hr => ((show WkF X.K S H Q0 Q from k).frame (f1.trans f2)).new rS2 (d1.app den2) hr q2.2⟩⟩⟩
theorem df_catVF (ha : DE X a ta) (hb : DF X b u) : DF X (.BinOp a .Add b pos) (dCatVF ta u) :=
  PE_imp (pe_op op_cat ha hb) fun σ H Q ⟨ε, S, Q0, rE, rS, q, k⟩ => ⟨ε, S, _, rE, rS, q, fun d S1 v H1 q1 den rS1 f1 =>
    ⟨ε, S1, _, rE.frame rS f1, rS1, q1, fun es S2 p' us H2 q2 _ hS' hp' den2 rS2 f2 => by
      obtain ⟨p, xs, rfl, hp, hz, q3⟩ := q2
      cases (show v = .ref p from den)
      obtain ⟨vs, hv, hd⟩ := rS2.lst hp
      exact ⟨p, p', vs, us, rfl, rfl, hv, hp', by rw [hd.length, den2.length]; exact million hz, fun r hr => ((show WkF X.K S H Q0 Q from k).frame (f1.trans f2)).new rS2 (hd.app den2) hr q3⟩⟩⟩
theorem df_catFV (ha : DF X a t) (hb : DE X b tb) : DF X (.BinOp a .Add b pos) (dCatFV t tb) :=
  PE_imp (pe_op op_cat ha hb) fun σ H Q ⟨ε, S, Q0, rE, rS, q, k⟩ => ⟨ε, S, _, rE, rS, q, fun ds S1 p vs H1 q1 _ hS hp den rS1 f1 =>
    ⟨ε, S1, _, rE.frame rS f1, rS1, q1, fun y S2 v H2 q2 den2 rS2 f2 => by
      obtain ⟨p', ys, rfl, hp', hz, q3⟩ := q2
      cases (show v = .ref p' from den2)
      obtain ⟨us, hv, hd⟩ := rS2.lst hp'
      have d1 := DenL.frame rS1 f2 ds vs den
      exact ⟨p, p', vs, us, rfl, rfl, (f2.keep p _ hS hp (fun _ z => nomatch z)).1, hv, by rw [d1.length, hd.length]; exact million hz, fun r hr => ((show WkF X.K S H Q0 Q from k).frame (f1.trans f2)).new rS2 (d1.app hd) hr q3⟩⟩⟩
theorem df_catVV (ha : DE X a ta) (hb : DE X b tb) : DF X (.BinOp a .Add b pos) (dCatVV ta tb) :=
  PE_imp (pe_op op_cat ha hb) fun σ H Q ⟨ε, S, Q0, rE, rS, q, k⟩ => ⟨ε, S, _, rE, rS, q, fun d S1 v H1 q1 den rS1 f1 =>
    ⟨ε, S1, _, rE.frame rS f1, rS1, q1, fun y S2 u H2 q2 den2 rS2 f2 => by
      obtain ⟨p, p', xs, ys, rfl, rfl, hp, hp', hz, q3⟩ := q2
      cases (show v = .ref p from den)
      cases (show u = .ref p' from den2)
      obtain ⟨vs, hv, hd⟩ := rS2.lst hp
      obtain ⟨us, hv', hd'⟩ := rS2.lst hp'
      exact ⟨p, p', vs, us, rfl, rfl, hv, hv', by rw [hd.length, hd'.length]; exact million hz, fun r hr => ((show WkF X.K S H Q0 Q from k).frame (f1.trans f2)).new rS2 (hd.app hd') hr q3⟩⟩⟩
/-- [..] * n -/
def dRepF (t : DTA) (tb : DTE) : DTA := fun ε S Q => t ε S fun xs S1 => tb ε S1 fun y S2 => ∃ i : Int, y = .int i ∧ -1000 ≤ i ∧ i ≤ 1000 ∧ xs.length ≤ 1000 ∧ Q (List.replicate i.toNat xs).flatten S2
theorem rep_line {n : Nat} {i : Int} (h1 : n ≤ 1000) (h2 : i ≤ 1000) : n * i.toNat ≤ sizeLine := million (Nat.le_trans (Nat.mul_le_mul h1 (show i.toNat ≤ 1000 by omega)) (by decide))
theorem df_repF (ha : DF X a t) (hb : DE X b tb) : DF X (.BinOp a .Mult b pos) (dRepF t tb) :=
  PE_imp (pe_op op_rep ha hb) fun σ H Q ⟨ε, S, Q0, rE, rS, q, k⟩ => ⟨ε, S, _, rE, rS, q, fun ds S1 p vs H1 q1 _ hS hp den rS1 f1 =>
    ⟨ε, S1, _, rE.frame rS f1, rS1, q1, fun y S2 v H2 q2 den2 rS2 f2 => by
      obtain ⟨i, rfl, h1, h2, hz, q3⟩ := q2
      cases (show v = .int i from den2)
      have d1 := DenL.frame rS1 f2 ds vs den
      exact ⟨p, i, vs, rfl, rfl, (f2.keep p _ hS hp (fun _ z => nomatch z)).1, by omega, by omega, rep_line (by rw [d1.length]; exact hz) h2, fun r hr => ((show WkF X.K S H Q0 Q from k).frame (f1.trans f2)).new rS2 (denL_rep _ d1) hr q3⟩⟩⟩
def dRepV (ta tb : DTE) : DTA := fun ε S Q => ta ε S fun x S1 => tb ε S1 fun y S2 => ∃ (i : Int) (p : Addr) (xs : List D), x = .ref p ∧ y = .int i ∧ S2 p = some (.lst xs) ∧ -1000 ≤ i ∧ i ≤ 1000 ∧ xs.length ≤ 1000 ∧ Q (List.replicate i.toNat xs).flatten S2
theorem df_repV (ha : DE X a ta) (hb : DE X b tb) : DF X (.BinOp a .Mult b pos) (dRepV ta tb) :=
  PE_imp (pe_op op_rep ha hb) fun σ H Q ⟨ε, S, Q0, rE, rS, q, k⟩ => ⟨ε, S, _, rE, rS, q, fun d S1 v H1 q1 den rS1 f1 =>
    ⟨ε, S1, _, rE.frame rS f1, rS1, q1, fun y S2 u H2 q2 den2 rS2 f2 => by
      obtain ⟨i, p, xs, rfl, rfl, hp, h1, h2, hz, q3⟩ := q2
      cases (show v = .ref p from den)
      cases (show u = .int i from den2)
      obtain ⟨vs, hv, hd⟩ := rS2.lst hp
      exact ⟨p, i, vs, rfl, rfl, hv, by omega, by omega, rep_line (by rw [hd.length]; exact hz) h2, fun r hr => ((show WkF X.K S H Q0 Q from k).frame (f1.trans f2)).new rS2 (denL_rep _ hd) hr q3⟩⟩⟩
/-- a if c else b, of lists just made -/
def dIfF (c : DTT) (t u : DTA) : DTA := fun ε S Q => c ε S fun k S1 => if k = true then t ε S1 Q else u ε S1 Q
theorem df_if {c : Expr} {tc : DTT} (hc : DT X c tc) (ha : DF X a t) (hb : DF X b u) : DF X (.IfExp c a b pos) (dIfF tc t u) :=
  PE_imp (pe_ifExp hc ha hb) fun σ H Q ⟨ε, S, Q0, rE, rS, q, k⟩ => ⟨ε, S, _, rE, rS, q, fun d S1 H1 q1 rS1 f1 => by
    cases d with
    | true => exact ⟨ε, S1, Q0, rE.frame rS f1, rS1, q1, (show WkF X.K S H Q0 Q from k).frame f1⟩
    | false => exact ⟨ε, S1, Q0, rE.frame rS f1, rS1, q1, (show WkF X.K S H Q0 Q from k).frame f1⟩⟩

theorem vals1V {xs : List V} {us : List Value} {x : V} (r : Vals xs us) (e : xs = [x]) : ∃ u, us = [u] ∧ RelV x u := by
  subst e
  exact vals1 r
/-- tuple(a list), plain -/
theorem call_tupleF : CallR X (.type "tuple") (fun xs H Q => ∃ p ys, xs = [.ref p] ∧ SqL X.K H p ys ∧ newT H ys Q) := by
  rintro pins s σ H xs us Q I r ⟨p, ys, rfl, hq, q⟩
  obtain ⟨u, rfl, rx⟩ := vals1 r
  cases rx
  obtain ⟨its, r', pl, hz⟩ := I.list hq
  have ln := r'.length
  refine call_tuple_list pl.isList (fun h' kp => ?_) (by simp only [List.size_toArray]; omega)
  have I1 : Inv X pins σ H { s with heap := h' } := I.kept (t' := s.toks) kp
  exact ep_newT (t' := s.toks) I1 r' hz q
/-- f(a list just made), f a built-in -/
def dTupF (t : DTA) : DTE := fun ε S Q => t ε S fun ds S1 => Q (.tup ds) S1
theorem de_tupF (hg : Gl X "tuple") (hm : X.mg "tuple" = none) (ha : DF X a t) (he : starEach [a] X.env = (false, eval a X.env) :: starEach [] X.env := by rfl) (hpl : (backTo pos (starEach [] X.env)).any (·.1) = false := by rfl) : DE X (.Call (.Name "tuple" p) [a] [] pos) (dTupF t) :=
  PE_imp (pe_callTy call_tupleF hg hm (by decide +kernel) (pa_cons ha pa_nil he) (he := he) (hpl := hpl)) fun σ H Q ⟨ε, S, Q0, rE, rS, q, k⟩ => ⟨ε, S, _, rE, rS, q, fun ds S1 p vs H1 q1 _ hS hp den rS1 f1 =>
    ⟨p, vs, rfl, SqL.of hp, (k.frame f1).newTup rS1 den q1⟩⟩
def dTupV (ta : DTE) : DTE := fun ε S Q => ta ε S fun x S1 => (∃ ds, x = .tup ds ∧ Q (.tup ds) S1) ∨ (∃ ds, x = .ilst ds ∧ Q (.tup ds) S1) ∨ ∃ p ds, x = .ref p ∧ S1 p = some (.lst ds) ∧ Q (.tup ds) S1
theorem de_tupV (hg : Gl X "tuple") (hm : X.mg "tuple" = none) (ha : DE X a ta) (he : starEach [a] X.env = (false, eval a X.env) :: starEach [] X.env := by rfl) (hpl : (backTo pos (starEach [] X.env)).any (·.1) = false := by rfl) : DE X (.Call (.Name "tuple" p) [a] [] pos) (dTupV ta) :=
  PE_imp (pe_callTy (r := fun xs H Q => (∃ p ys, xs = [.ref p] ∧ SqL X.K H p ys ∧ newT H ys Q) ∨ ∃ p ys, xs = [.ref p] ∧ SqT X.K H p ys ∧ Q (.ref p) H)
    (fun pins s σ H xs us Q I r h => h.elim (call_tupleF pins s σ H xs us Q I r) (call_tupleT pins s σ H xs us Q I r)) hg hm (by decide +kernel) (pa_cons ha pa_nil he) (he := he) (hpl := hpl)) fun σ H Q ⟨ε, S, Q0, rE, rS, q, k⟩ => ⟨ε, S, _, rE, rS, q, fun d S1 v H1 q1 den rS1 f1 => by
    rcases q1 with ⟨ds, rfl, q1⟩ | ⟨ds, rfl, q1⟩ | ⟨p, ds, rfl, hp, q1⟩
    · obtain ⟨x, vs, rfl, h1, h2⟩ := den.untup
      exact .inr ⟨x, vs, rfl, h1.sq, k _ S1 _ H1 q1 (den_tup h1 h2) rS1 f1⟩
    · obtain ⟨x, vs, rfl, h1, h2⟩ := den.unilst
      exact .inl ⟨x, vs, rfl, h1.sq, (k.frame f1).newTup rS1 h2 q1⟩
    · cases (show v = .ref p from den)
      obtain ⟨vs, hv, hd⟩ := rS1.lst hp
      exact .inl ⟨p, vs, rfl, SqL.of hv, (k.frame f1).newTup rS1 hd q1⟩⟩
/-- list(x): a list just made -/
def dListV (ta : DTE) : DTA := fun ε S Q => ta ε S fun x S1 => ∃ ds, itemsIn S1 x ds ∧ Q ds S1
theorem df_listV (hg : Gl X "list") (hm : X.mg "list" = none) (ha : DE X a ta) (he : starEach [a] X.env = (false, eval a X.env) :: starEach [] X.env := by rfl) (hpl : (backTo pos (starEach [] X.env)).any (·.1) = false := by rfl) : DF X (.Call (.Name "list" p) [a] [] pos) (dListV ta) :=
  PE_imp (pe_callTy call_list_of hg hm (by decide +kernel) (pa_cons ha pa_nil he) (he := he) (hpl := hpl)) fun σ H Q ⟨ε, S, Q0, rE, rS, q, k⟩ => ⟨ε, S, _, rE, rS, q, fun d S1 v H1 q1 den rS1 f1 => by
    obtain ⟨ds, hi, q2⟩ := q1
    obtain ⟨p, vs, rfl, hs, hd⟩ := itemsIn_sq rS1 den hi
    exact ⟨p, vs, rfl, hs, fun r hr => ((show WkF X.K S H Q0 Q from k).frame f1).new rS1 hd hr q2⟩⟩
def dAllF (t : DTA) : DTE := fun ε S Q => t ε S fun ds S1 => ∃ bs : List Bool, ds = bs.map D.bl ∧ Q (.bl (bs.all id)) S1
def dAnyF (t : DTA) : DTE := fun ε S Q => t ε S fun ds S1 => ∃ bs : List Bool, ds = bs.map D.bl ∧ Q (.bl (bs.any id)) S1
def dSumF (t : DTA) : DTE := fun ε S Q => t ε S fun ds S1 => ∃ ns : List Int, ds = ns.map D.int ∧ Q (.int ns.sum) S1
theorem de_allF (hc : X.calm = true) (hg : Gl X "all") (hm : X.mg "all" = none) (ha : DF X a t) (he : starEach [a] X.env = (false, eval a X.env) :: starEach [] X.env := by rfl) (hpl : (backTo pos (starEach [] X.env)).any (·.1) = false := by rfl) : DE X (.Call (.Name "all" p) [a] [] pos) (dAllF t) :=
  PE_imp (pe_callB (cr_all hc) hg hm (by decide +kernel) (pa_cons ha pa_nil he) (he := he) (hpl := hpl)) fun σ H Q ⟨ε, S, Q0, rE, rS, q, k⟩ => ⟨ε, S, _, rE, rS, q, fun ds S1 p vs H1 q1 _ hS hp den rS1 f1 => by
    obtain ⟨bs, rfl, q2⟩ := q1
    cases denL_bools' den
    exact ⟨p, bs, rfl, SqL.of hp, k _ S1 _ H1 q2 rfl rS1 f1⟩⟩
theorem de_anyF (hc : X.calm = true) (hg : Gl X "any") (hm : X.mg "any" = none) (ha : DF X a t) (he : starEach [a] X.env = (false, eval a X.env) :: starEach [] X.env := by rfl) (hpl : (backTo pos (starEach [] X.env)).any (·.1) = false := by rfl) : DE X (.Call (.Name "any" p) [a] [] pos) (dAnyF t) :=
  PE_imp (pe_callB (cr_any hc) hg hm (by decide +kernel) (pa_cons ha pa_nil he) (he := he) (hpl := hpl)) fun σ H Q ⟨ε, S, Q0, rE, rS, q, k⟩ => ⟨ε, S, _, rE, rS, q, fun ds S1 p vs H1 q1 _ hS hp den rS1 f1 => by
    obtain ⟨bs, rfl, q2⟩ := q1
    cases denL_bools' den
    exact ⟨p, bs, rfl, SqL.of hp, k _ S1 _ H1 q2 rfl rS1 f1⟩⟩
theorem de_sumF (hc : X.calm = true) (hg : Gl X "sum") (hm : X.mg "sum" = none) (ha : DF X a t) (he : starEach [a] X.env = (false, eval a X.env) :: starEach [] X.env := by rfl) (hpl : (backTo pos (starEach [] X.env)).any (·.1) = false := by rfl) : DE X (.Call (.Name "sum" p) [a] [] pos) (dSumF t) :=
  PE_imp (pe_callB (cr_sum hc) hg hm (by decide +kernel) (pa_cons ha pa_nil he) (he := he) (hpl := hpl)) fun σ H Q ⟨ε, S, Q0, rE, rS, q, k⟩ => ⟨ε, S, _, rE, rS, q, fun ds S1 p vs H1 q1 _ hS hp den rS1 f1 => by
    obtain ⟨ns, rfl, q2⟩ := q1
    cases denL_ints' den
    exact ⟨p, ns, rfl, SqL.of hp, k _ S1 _ H1 q2 rfl rS1 f1⟩⟩
/-- f(a, ..) by values -/
def dCB (r : RAD) (t : DTA) : DTE := fun ε S Q => t ε S fun ds S1 => r ds S1 Q
theorem dCB_lift {K : PySem.W.Frag} {r : RAD} {σ : L2.St} {H : Hp} {Q : VK} (h : liftE K (dCB r t) σ H Q) : tCB (liftC K r) (liftA K t) σ H Q := by
  obtain ⟨ε, S, Q0, rE, rS, q, k⟩ := h
  exact ⟨ε, S, _, rE, rS, q, fun ds S1 vs H1 q1 den rS1 f1 => ⟨ds, S1, Q0, den, rS1, q1, k.frame f1⟩⟩
theorem de_callB {x : Str} {id : String} {es : List Expr} {r : RAD} (hc : DCall X (.builtin id) r) (hg : Gl X x) (hm : X.mg x = none) (hv : bootBuiltins x = some (.builtin id)) (ha : DA X (e :: es) t) (hn : x ≠ "__name__" := by decide) (hdb : (x == ("__debug__" : Str)) = false := by decide)
    (he : starEach (e :: es) X.env = (false, eval e X.env) :: starEach es X.env := by rfl) (hpl : (backTo pos (starEach es X.env)).any (·.1) = false := by rfl) : DE X (.Call (.Name x p) (e :: es) [] pos) (dCB r t) :=
  PE_imp (pe_callB hc hg hm hv ha hn hdb he hpl) fun _ _ _ => dCB_lift
theorem de_callTy {x : Str} {T : String} {es : List Expr} {r : RAD} (hc : DCall X (.type T) r) (hg : Gl X x) (hm : X.mg x = none) (hv : bootBuiltins x = some (.type T)) (ha : DA X (e :: es) t) (hn : x ≠ "__name__" := by decide) (hdb : (x == ("__debug__" : Str)) = false := by decide)
    (he : starEach (e :: es) X.env = (false, eval e X.env) :: starEach es X.env := by rfl) (hpl : (backTo pos (starEach es X.env)).any (·.1) = false := by rfl) : DE X (.Call (.Name x p) (e :: es) [] pos) (dCB r t) :=
  PE_imp (pe_callTy hc hg hm hv ha hn hdb he hpl) fun _ _ _ => dCB_lift
/-- len -/
def rLenD : RAD := fun ds S Q => ∃ x, ds = [x] ∧ ((∃ xs, itemsIn S x xs ∧ Q (.int xs.length) S) ∨ (∃ z, x = .str z ∧ z.length ≤ 1000000 ∧ Q (.int z.length) S) ∨ ∃ p kvs, x = .ref p ∧ S p = some (.dic kvs) ∧ Q (.int kvs.length) S)
theorem KVD.length {K : PySem.W.Frag} {H : Hp} : ∀ {kvs : List (Key × D)} {kv : List (Key × V)}, KVD K H kvs kv → kv.length = kvs.length
  | _, _, .nil => rfl
  | _, _, .cons _ t => by rw [List.length_cons, List.length_cons, KVD.length t]
theorem dc_len : DCall X (.builtin "len") rLenD := by
  intro pins s σ H xs us Q I r ⟨ds, S, Q0, den, rS, ⟨x, e1, h⟩, k⟩
  subst e1
  obtain ⟨v, w, rfl, d1, d2⟩ := den.uncons
  cases d2.nil_eq
  rcases h with ⟨ys, hi, q⟩ | ⟨z, rfl, hz, q⟩ | ⟨p, kvs, rfl, hp, q⟩
  · obtain ⟨p, vs, rfl, hs, hd⟩ := itemsIn_sq rS d1 hi
    exact call_len_seq pins s σ H _ us Q I r ⟨p, vs, rfl, hs, by rw [hd.length]; exact k _ S _ H q rfl rS Frame.refl⟩
  · cases (show v = .str z from d1)
    exact call_len pins s σ H _ us Q I r ⟨.str z, z.length, rfl, ⟨million hz, rfl⟩, k _ S _ H q rfl rS Frame.refl⟩
  · cases (show v = .ref p from d1)
    obtain ⟨kv, e1, e2⟩ : ∃ kv, H p = some (.dK kv) ∧ KVD X.K H kvs kv := rS.cell p _ hp
    obtain ⟨u, rfl, ru⟩ := vals1 r
    cases ru
    exact d_len I (.inl e1) fun t s' I' => ⟨.int kvs.length, H, I', ⟨t, by rw [KVD.length e2]⟩, k _ S _ H q rfl rS Frame.refl⟩
/-- int of a truth or a whole number -/
def rIntD : RAD := fun ds S Q => (∃ i, ds = [.int i] ∧ Q (.int i) S) ∨ ∃ b, ds = [.bl b] ∧ Q (.int (if b then 1 else 0)) S
theorem dc_int : DCall X (.type "int") rIntD := by
  intro pins s σ H xs us Q I r ⟨ds, S, Q0, den, rS, h, k⟩
  refine call_int1 pins s σ H xs us Q I r ?_
  rcases h with ⟨i, rfl, q⟩ | ⟨b, rfl, q⟩
  · obtain ⟨v, w, rfl, d1, d2⟩ := den.uncons
    cases d2.nil_eq
    cases (show v = .int i from d1)
    exact .inl ⟨i, rfl, k _ S _ H q rfl rS Frame.refl⟩
  · obtain ⟨v, w, rfl, d1, d2⟩ := den.uncons
    cases d2.nil_eq
    cases (show v = .bl b from d1)
    exact .inr ⟨b, rfl, k _ S _ H q rfl rS Frame.refl⟩
def rMin2 : RAD := fun ds S Q => ∃ i j, ds = [.int i, .int j] ∧ Q (.int (if j < i then j else i)) S
def rMax2 : RAD := fun ds S Q => ∃ i j, ds = [.int i, .int j] ∧ Q (.int (if j > i then j else i)) S
theorem den2 {K : PySem.W.Frag} {H : Hp} {a b : D} {xs : List V} (h : DenL K H [a, b] xs) : ∃ v w, xs = [v, w] ∧ Den K H a v ∧ Den K H b w := by
  obtain ⟨v, w, rfl, d1, d2⟩ := h.uncons
  obtain ⟨u, z, rfl, d3, d4⟩ := d2.uncons
  cases d4.nil_eq
  exact ⟨v, u, rfl, d1, d3⟩
theorem dc_min2 (hc : X.calm = true) : DCall X (.builtin "min") rMin2 := CallR_imp (call_min2 hc) fun xs H Q ⟨ds, S, Q0, den, rS, ⟨i, j, e1, q⟩, k⟩ => by
  subst e1
  obtain ⟨v, w, rfl, d1, d2⟩ := den2 den
  cases (show v = .int i from d1)
  cases (show w = .int j from d2)
  exact ⟨i, j, rfl, k _ S _ H q rfl rS Frame.refl⟩
theorem dc_max2 (hc : X.calm = true) : DCall X (.builtin "max") rMax2 := CallR_imp (call_max2 hc) fun xs H Q ⟨ds, S, Q0, den, rS, ⟨i, j, e1, q⟩, k⟩ => by
  subst e1
  obtain ⟨v, w, rfl, d1, d2⟩ := den2 den
  cases (show v = .int i from d1)
  cases (show w = .int j from d2)
  exact ⟨i, j, rfl, k _ S _ H q rfl rS Frame.refl⟩
/-- isinstance of a built-in class -/
def tyD (S : SD) : D → Option String
  | .non => some "NoneType"
  | .bl _ => some "bool"
  | .int _ => some "int"
  | .str _ => some "str"
  | .tup _ => some "tuple"
  | .ilst _ => some "list"
  | .edic => some "dict"
  | .ref p => match S p with
    | some (.lst _) => some "list"
    | some (.sat _) => some "list"
    | some (.dic _) => some "dict"
    | _ => none
  | .ty _ => none
def subTy (t T : String) : Bool := t == T || (t == "bool" && T == "int")
def rIsiD : RAD := fun ds S Q => ∃ x T t, ds = [x, .ty T] ∧ tyD S x = some t ∧ (T = "tuple" ∨ T = "str" ∨ T = "int" ∨ T = "bool") ∧ Q (.bl (subTy t T)) S
theorem kit_sub {t T : String} (ht : t ∈ ["NoneType", "bool", "int", "str", "tuple", "list", "dict"]) (hT : T = "tuple" ∨ T = "str" ∨ T = "int" ∨ T = "bool") : kitB t T = some (subTy t T) := by
  have all : ∀ t ∈ ["NoneType", "bool", "int", "str", "tuple", "list", "dict"], ∀ T ∈ ["tuple", "str", "int", "bool"], kitB t T = some (subTy t T) := by decide +kernel
  exact all t ht T (by rcases hT with h | h | h | h <;> simp [h])
theorem tyD_mem {S : SD} {x : D} {t : String} (h : tyD S x = some t) : t ∈ ["NoneType", "bool", "int", "str", "tuple", "list", "dict"] := by
  unfold tyD at h
  split at h
  all_goals first
    | (cases h; done)
    | (cases h; decide)
    | (split at h <;> first | (cases h; done) | (cases h; decide))
theorem tyD_tyX {K : PySem.W.Frag} {H : Hp} {S : SD} {x : D} {v : V} {t : String} (rS : RelS K H S) (d : Den K H x v) (h : tyD S x = some t) : TyX K H v (.type t) := by
  cases x with
  | non => cases h; cases (show v = .non from d); exact .base .non
  | bl b => cases h; cases (show v = .bl b from d); exact .base (.bl b)
  | int b => cases h; cases (show v = .int b from d); exact .base (.int b)
  | str b => cases h; cases (show v = .str b from d); exact .base (.str b)
  | ty n => cases h
  | tup ds =>
    cases h
    obtain ⟨a, vs, rfl, h1, _⟩ := d.untup
    rcases h1 with ⟨o, _, h1⟩ | ⟨o, its, n, h1, h2, _⟩
    · exact .fTuple h1
    · exact .kTuple h1 h2
  | ilst ds =>
    cases h
    obtain ⟨a, vs, rfl, h1, _⟩ := d.unilst
    rcases h1 with ⟨o, h1⟩ | h1
    · exact .base (.frz h1)
    · rcases h1 with (h1 | ⟨o, h1⟩) | ⟨o, its, n, h1, h2, _⟩
      · cases h1
      · cases h1
      · exact .kList h1 h2
  | edic =>
    cases h
    obtain ⟨a, o, rfl, h1⟩ := (show ∃ a o, v = .ref a ∧ H a = some (.frz o (.dK [])) from d)
    exact .fDict h1
  | ref p =>
    cases (show v = .ref p from d)
    have h' : (match S p with
      | some (.lst _) => some "list"
      | some (.sat _) => some "list"
      | some (.dic _) => some "dict"
      | _ => none) = some t := h
    split at h' <;> cases h'
    · rename_i ds e
      obtain ⟨vs, e1, _⟩ := rS.lst e
      exact .base (.lst e1)
    · rename_i q e
      obtain ⟨ds, vs, _, e1, _⟩ : ∃ ds vs, q ds ∧ H p = some (.lst vs) ∧ DenL K H ds vs := rS.cell p _ e
      exact .base (.lst e1)
    · rename_i kvs e
      obtain ⟨kv, e1, _⟩ : ∃ kv, H p = some (.dK kv) ∧ KVD K H kvs kv := rS.cell p _ e
      exact .base (.dK e1)
theorem dc_isi : DCall X (.builtin "isinstance") rIsiD := CallR_imp call_isi fun xs H Q ⟨ds, S, Q0, den, rS, ⟨x, T, t, e1, ht, hT, q⟩, k⟩ => by
  subst e1
  obtain ⟨v, w, rfl, d1, d2⟩ := den2 den
  cases (show w = .ty T from d2)
  exact ⟨v, .ty T, .type t, .type T, subTy t T, rfl, .ty T, tyD_tyX rS d1 ht, kit_ty (kit_sub (tyD_mem ht) hT), k _ S _ H q rfl rS Frame.refl⟩
end
end DL

namespace DL
open PySem PySem.Spec PyProof.Rows L2
variable [Amb]

abbrev RMD := D → List D → SD → DK → Prop
def liftM (K : PySem.W.Frag) (r : RMD) : V → List V → Hp → VK → Prop := fun x xs H Q => ∃ d ds S Q0, Den K H d x ∧ DenL K H ds xs ∧ RelS K H S ∧ r d ds S Q0 ∧ WkE K S H Q0 Q
abbrev DMt (X : Cx) (id : String) (r : RMD) : Prop := MtR X id (liftM X.K r)
def IsLst (S : SD) (x : D) : Prop := ∃ p ds, x = .ref p ∧ S p = some (.lst ds)
def dLM (r : RMD) (to : DTE) (ta : DTA) : DTE := fun ε S Q => to ε S fun x S1 => IsLst S1 x ∧ ta ε S1 fun ds S2 => r x ds S2 Q
def dLM0 (r : RMD) (to : DTE) : DTE := fun ε S Q => to ε S fun x S1 => IsLst S1 x ∧ r x [] S1 Q
section
variable {X : Cx} {o e a b : Expr} {es : List Expr} {name : Str} {apos cpos pos p : Pos} {id : String} {r : RMD} {to ta tb : DTE} {tas : DTA} {t u : DTA}
theorem tyV_lst {K : PySem.W.Frag} {H : Hp} {S : SD} {x : D} {v : V} (rS : RelS K H S) (d : Den K H x v) (h : IsLst S x) : tyV K "list" v H := by
  obtain ⟨p, ds, rfl, hp⟩ := h
  cases (show v = .ref p from d)
  obtain ⟨vs, e1, _⟩ := rS.lst hp
  exact .inl ⟨rfl, vs, SqL.of e1⟩
theorem de_lm (slot : Slot "list" name id) (hty : typeOf (.builtin id) = pure (.type "method_descriptor")) (hm : DMt X id r) (ho : DE X o to) (ha : DA X (e :: es) tas)
    (hbase : attributeBase o name X.env (eval o X.env) = eval o X.env := by rfl)
    (hfew : ((backTo cpos (starEach (e :: es) X.env)).all (fun x => !x.1) && (backToKw cpos (keywordEach [] X.env)).all (fun x => x.1.isSome)
      && decide ((e :: es).length + ([] : List Keyword).length + (if ([] : List Keyword).isEmpty then 0 else 1) < 30)) = true := by rfl)
    (hline : (apos.endLine == cpos.line) = true := by rfl) (hs : starEach (e :: es) X.env = (false, eval e X.env) :: starEach es X.env := by rfl) (hplain : (backTo cpos (starEach es X.env)).any (·.1) = false := by rfl) :
    DE X (.Call (.Attribute o name apos) (e :: es) [] cpos) (dLM r to tas) :=
  PE_imp (pe_bm PySem.F.plainAttrs_list slot hty hm ho ha hbase hfew hline hs hplain) fun σ H Q ⟨ε, S, Q0, rE, rS, q, k⟩ => ⟨ε, S, _, rE, rS, q, fun d S1 v H1 q1 den rS1 f1 =>
    ⟨tyV_lst rS1 den q1.1, ε, S1, _, rE.frame rS f1, rS1, q1.2, fun ds S2 vs H2 q2 den2 rS2 f2 => ⟨d, ds, S2, Q0, den.frame rS1 f2, den2, rS2, q2, k.frame (f1.trans f2)⟩⟩⟩
theorem de_lm0 (slot : Slot "list" name id) (hty : typeOf (.builtin id) = pure (.type "method_descriptor")) (hm : DMt X id r) (ho : DE X o to)
    (hbase : attributeBase o name X.env (eval o X.env) = eval o X.env := by rfl) (hline : (apos.endLine == cpos.line) = true := by rfl) : DE X (.Call (.Attribute o name apos) [] [] cpos) (dLM0 r to) :=
  PE_imp (pe_bm0 PySem.F.plainAttrs_list slot hty hm ho hbase hline) fun σ H Q ⟨ε, S, Q0, rE, rS, q, k⟩ => ⟨ε, S, _, rE, rS, q, fun d S1 v H1 q1 den rS1 f1 =>
    ⟨tyV_lst rS1 den q1.1, d, [], S1, Q0, den, DenL.nil, rS1, q1.2, k.frame f1⟩⟩
/-- a list of the store is written -/
theorem WkE.putL {K : PySem.W.Frag} {S : SD} {H : Hp} {Q0 : DK} {Q : VK} {p : Addr} {ds ds' : List D} {vs vs' : List V} {d : D} {v : V} (k : WkE K S H Q0 Q) (rS : RelS K H S) (hp : S p = some (.lst ds)) (hv : H p = some (.lst vs)) (hd : DenL K H ds' vs')
    (dd : Den K H d v) (q : Q0 d (put S p (.lst ds'))) : Q v (upd H p (.lst vs')) := by
  have f : Frame S H (put S p (.lst ds')) (upd H p (.lst vs')) := frame_put hp
  exact k d _ v _ q (dd.frame rS f) (rS.put hp (fun _ z => nomatch z) (cell_lst upd_same (DenL.frame rS f ds' vs' hd))) f
def rAppD : RMD := fun x xs S Q => ∃ p ds d, x = .ref p ∧ xs = [d] ∧ S p = some (.lst ds) ∧ ds.length ≤ 1000000 ∧ Q .non (put S p (.lst (ds ++ [d])))
theorem lt_line {n : Nat} (h : n ≤ 1000000) : n < sizeLine := Nat.lt_of_le_of_lt h (by decide)
theorem dm_append : DMt X "list.append" rAppD := MtR_imp mt_append fun x xs H Q ⟨d, ds, S, Q0, d1, d2, rS, ⟨p, ys, y, e1, e2, hp, hz, q⟩, k⟩ => by
  subst e1 e2
  cases (show x = .ref p from d1)
  obtain ⟨v, w, rfl, d3, d4⟩ := d2.uncons
  cases d4.nil_eq
  obtain ⟨vs, hv, hd⟩ := rS.lst hp
  exact ⟨p, vs, v, rfl, rfl, hv, by rw [hd.length]; exact lt_line hz, k.putL rS hp hv (hd.app (DenL.one d3)) (d := .non) (v := .non) rfl q⟩
def rPopD : RMD := fun x xs S Q => ∃ p ds d, x = .ref p ∧ xs = [] ∧ S p = some (.lst (ds ++ [d])) ∧ Q d (put S p (.lst ds))
theorem denL_snoc {K : PySem.W.Frag} {H : Hp} : ∀ {ds : List D} {d : D} {vs : List V}, DenL K H (ds ++ [d]) vs → ∃ us v, vs = us ++ [v] ∧ DenL K H ds us ∧ Den K H d v
  | [], d, vs, h => by
    obtain ⟨v, w, rfl, h1, h2⟩ := h.uncons
    cases h2.nil_eq
    exact ⟨[], v, rfl, DenL.nil, h1⟩
  | x :: ds, d, vs, h => by
    obtain ⟨v, w, rfl, h1, h2⟩ := h.uncons
    obtain ⟨us, u, rfl, h3, h4⟩ := denL_snoc h2
    exact ⟨v :: us, u, rfl, DenL.cons h1 h3, h4⟩
theorem dm_pop : DMt X "list.pop" rPopD := MtR_imp mt_pop fun x xs H Q ⟨d, ds, S, Q0, d1, d2, rS, ⟨p, ys, y, e1, e2, hp, q⟩, k⟩ => by
  subst e1 e2
  cases (show x = .ref p from d1)
  cases d2.nil_eq
  obtain ⟨vs, hv, hd⟩ := rS.lst hp
  obtain ⟨us, v, rfl, h3, h4⟩ := denL_snoc hd
  refine ⟨p, us ++ [v], v, rfl, rfl, hv, by simp, ?_⟩
  rw [List.dropLast_concat]
  exact k.putL rS hp hv h3 h4 q
def rPopAtD : RMD := fun x xs S Q => ∃ (p : Addr) (ds : List D) (i : Int) (d : D), x = .ref p ∧ xs = [.int i] ∧ S p = some (.lst ds) ∧ 0 ≤ i ∧ ds.length ≤ 1000000 ∧ ds[i.toNat]? = some d ∧ Q d (put S p (.lst (ds.eraseIdx i.toNat)))
theorem dm_popAt : DMt X "list.pop" rPopAtD := MtR_imp mt_popAt fun x xs H Q ⟨d, ds, S, Q0, d1, d2, rS, ⟨p, ys, i, y, e1, e2, hp, h0, hz, hi, q⟩, k⟩ => by
  subst e1 e2
  cases (show x = .ref p from d1)
  obtain ⟨v, w, rfl, d3, d4⟩ := d2.uncons
  cases d4.nil_eq
  cases (show v = .int i from d3)
  obtain ⟨vs, hv, hd⟩ := rS.lst hp
  obtain ⟨u, hu, du⟩ := hd.get hi
  have hl : i.toNat < ys.length := (List.getElem?_eq_some_iff.mp hi).1
  refine ⟨p, vs, i, i.toNat, u, rfl, rfl, hv, by omega, by omega, ?_, hu, k.putL rS hp hv (hd.erase _) du q⟩
  rw [hd.length]
  exact seqIndex_of h0 (by omega)
/-- xs.extend(a list just made) -/
def dExtF (to : DTE) (t : DTA) : DTE := fun ε S Q => to ε S fun x S1 => IsLst S1 x ∧ t ε S1 fun ys S2 => ∃ p xs, x = .ref p ∧ S2 p = some (.lst xs) ∧ xs.length + ys.length ≤ 1000000 ∧ Q .non (put S2 p (.lst (xs ++ ys)))
theorem de_extF (ho : DE X o to) (ha : DF X e t) (hbase : attributeBase o "extend" X.env (eval o X.env) = eval o X.env := by rfl)
    (hfew : ((backTo cpos (starEach [e] X.env)).all (fun x => !x.1) && (backToKw cpos (keywordEach [] X.env)).all (fun x => x.1.isSome)
      && decide (([e] : List Expr).length + ([] : List Keyword).length + (if ([] : List Keyword).isEmpty then 0 else 1) < 30)) = true := by rfl)
    (hline : (apos.endLine == cpos.line) = true := by rfl) (hs : starEach [e] X.env = (false, eval e X.env) :: starEach [] X.env := by rfl) (hplain : (backTo cpos (starEach [] X.env)).any (·.1) = false := by rfl) :
    DE X (.Call (.Attribute o "extend" apos) [e] [] cpos) (dExtF to t) :=
  PE_imp (pe_bm PySem.F.plainAttrs_list PySem.F.slot_list_extend PySem.F.type_list_extend mt_extend ho (pa_cons ha pa_nil hs) hbase hfew hline hs hplain) fun σ H Q ⟨ε, S, Q0, rE, rS, q, k⟩ => ⟨ε, S, _, rE, rS, q, fun d S1 v H1 q1 den rS1 f1 =>
    ⟨tyV_lst rS1 den q1.1, ε, S1, _, rE.frame rS f1, rS1, q1.2, fun ys S2 p' us H2 q2 _ hS hp' den2 rS2 f2 => by
      obtain ⟨p, xs, rfl, hp, hz, q3⟩ := q2
      cases (show v = .ref p from den)
      obtain ⟨vs, hv, hd⟩ := rS2.lst hp
      exact ⟨p, p', vs, us, rfl, rfl, hv, hp', by rw [hd.length, den2.length]; exact million hz, (k.frame (f1.trans f2)).putL rS2 hp hv (hd.app den2) (d := .non) (v := .non) rfl q3⟩⟩⟩
def rExtV : RMD := fun x xs S Q => ∃ p p' ds ys, x = .ref p ∧ xs = [.ref p'] ∧ S p = some (.lst ds) ∧ S p' = some (.lst ys) ∧ ds.length + ys.length ≤ 1000000 ∧ Q .non (put S p (.lst (ds ++ ys)))
theorem dm_extV : DMt X "list.extend" rExtV := MtR_imp mt_extend fun x xs H Q ⟨d, ds, S, Q0, d1, d2, rS, ⟨p, p', as, ys, e1, e2, hp, hp', hz, q⟩, k⟩ => by
  subst e1 e2
  cases (show x = .ref p from d1)
  obtain ⟨v, w, rfl, d3, d4⟩ := d2.uncons
  cases d4.nil_eq
  cases (show v = .ref p' from d3)
  obtain ⟨vs, hv, hd⟩ := rS.lst hp
  obtain ⟨us, hv', hd'⟩ := rS.lst hp'
  exact ⟨p, p', vs, us, rfl, rfl, hv, hv', by rw [hd.length, hd'.length]; exact million hz, k.putL rS hp hv (hd.app hd') (d := .non) (v := .non) rfl q⟩
end
end DL

namespace DL
open PySem PySem.Spec PyProof.Rows L2
variable [Amb]

def keyD : Key → D
  | .inl i => .int i
  | .inr x => .str x
theorem den_key {K : PySem.W.Frag} {H : Hp} {k : Key} {v : V} (h : Den K H (keyD k) v) : v = kV k := by
  cases k with
  | inl i => exact h
  | inr x => exact h
def valD (kvs : List (Key × D)) (k : Key) : Option D := (kvs.find? fun kv => decide (kv.1 = k)).map (·.2)
def putD (kvs : List (Key × D)) (k : Key) (v : D) : List (Key × D) :=
  if (kvs.any fun kv => decide (kv.1 = k)) = true then kvs.map (fun kv => if kv.1 = k then (kv.1, v) else kv) else kvs ++ [(k, v)]
def mergeD (kvs more : List (Key × D)) : List (Key × D) := more.foldl (fun acc kv => putD acc kv.1 kv.2) kvs
section
variable {K : PySem.W.Frag} {H : Hp}
theorem valD_pos {p : Key × D} {r : List (Key × D)} {k : Key} (e : p.1 = k) : valD (p :: r) k = some p.2 := by simp [valD, List.find?_cons, e]
theorem valD_neg {p : Key × D} {r : List (Key × D)} {k : Key} (e : ¬ p.1 = k) : valD (p :: r) k = valD r k := by simp [valD, List.find?_cons, e]
theorem KVD.val : ∀ {kvs : List (Key × D)} {kv : List (Key × V)}, KVD K H kvs kv → ∀ k, (valD kvs k = none ∧ valV kv k = none) ∨ ∃ d v, valD kvs k = some d ∧ valV kv k = some v ∧ Den K H d v
  | _, _, .nil, k => .inl ⟨rfl, rfl⟩
  | _, _, .cons (a := p) (b := q) h t, k => by
    by_cases e : p.1 = k
    · exact .inr ⟨p.2, q.2, valD_pos e, valV_pos (h.1 ▸ e), h.2⟩
    · rw [valD_neg e, valV_neg (h.1 ▸ e)]
      exact KVD.val t k
theorem KVD.anyK {k : Key} : ∀ {kvs : List (Key × D)} {kv : List (Key × V)}, KVD K H kvs kv → (kvs.any fun x => decide (x.1 = k)) = kv.any fun x => decide (x.1 = k)
  | _, _, .nil => rfl
  | _, _, .cons h t => by rw [List.any_cons, List.any_cons, KVD.anyK t, h.1]
theorem KVD.repl {k : Key} {d : D} {v : V} (g : Den K H d v) : ∀ {kvs : List (Key × D)} {kv : List (Key × V)}, KVD K H kvs kv →
    KVD K H (kvs.map fun x => if x.1 = k then (x.1, d) else x) (kv.map fun x => if x.1 = k then (x.1, v) else x)
  | _, _, .nil => .nil
  | _, _, .cons (a := p) (b := q) h t => by
    rw [List.map_cons, List.map_cons]
    refine .cons ?_ (KVD.repl g t)
    by_cases e : p.1 = k
    · rw [if_pos e, if_pos (h.1 ▸ e)]
      exact ⟨h.1, g⟩
    · rw [if_neg e, if_neg (h.1 ▸ e)]
      exact h
theorem KVD.put {k : Key} {d : D} {v : V} {kvs : List (Key × D)} {kv : List (Key × V)} (r : KVD K H kvs kv) (g : Den K H d v) : KVD K H (putD kvs k d) (putK kv k v) := by
  unfold putD putK
  rw [r.anyK]
  split
  · exact KVD.repl g r
  · exact Paired.snoc r ⟨rfl, g⟩
theorem KVD.merge : ∀ {more : List (Key × D)} {mv : List (Key × V)} {kvs : List (Key × D)} {kv : List (Key × V)}, KVD K H more mv → KVD K H kvs kv → KVD K H (mergeD kvs more) (mergeK kv mv)
  | _, _, _, _, .nil, r => r
  | _, _, kvs, kv, .cons (a := p) (b := q) h t, r => by
    have e : KVD K H (putD kvs p.1 p.2) (putK kv q.1 q.2) := by
      rw [← h.1]
      exact r.put h.2
    have g := KVD.merge t e
    exact g
theorem RelS.dic {S : SD} (r : RelS K H S) {p : Addr} {kvs : List (Key × D)} (h : S p = some (.dic kvs)) : ∃ kv, H p = some (.dK kv) ∧ KVD K H kvs kv := r.cell p _ h
theorem cell_dic {p : Addr} {kvs : List (Key × D)} {kv : List (Key × V)} (h : H p = some (.dK kv)) (g : KVD K H kvs kv) : CellOk K H p (.dic kvs) := ⟨kv, h, g⟩
end
/-- a dict of the store is written -/
theorem frame_dic {K : PySem.W.Frag} {S : SD} {H : Hp} {p : Addr} {kvs kvs' : List (Key × D)} {kv' : List (Key × V)} (rS : RelS K H S) (hp : S p = some (.dic kvs)) (g : KVD K H kvs' kv') :
    RelS K (upd H p (.dK kv')) (put S p (.dic kvs')) ∧ Frame S H (put S p (.dic kvs')) (upd H p (.dK kv')) := by
  have f : Frame S H (put S p (.dic kvs')) (upd H p (.dK kv')) := frame_put hp
  exact ⟨rS.put hp (fun _ z => nomatch z) (cell_dic upd_same (g.frame rS f)), f⟩

section
variable {X : Cx} {a b e : Expr} {ta tb : DTE} {pos : Pos}
/-- subscripts: tuples, lists, texts at an int; dicts at a text -/
def rIxE : R2D := fun x y S Q => match x, y with
  | .tup ds, .int i => ∃ d, atI ds i = some d ∧ Q d S
  | .ilst ds, .int i => ∃ d, atI ds i = some d ∧ Q d S
  | .ref p, .int i => ∃ ds, S p = some (.lst ds) ∧ ∃ d, atI ds i = some d ∧ Q d S
  | .str z, .int i => z.length ≤ 1000000 ∧ ∃ c, atI z.cps.toList i = some c ∧ Q (.str ⟨#[c]⟩) S
  | .ref p, .str z => ∃ kvs, S p = some (.dic kvs) ∧ ∃ d, valD kvs (.inr z) = some d ∧ Q d S
  | _, _ => False
theorem ix_dict (hu : X.A.units + 1 < cLine) : IxR X (fun x y H Q => ∃ p v, x = .ref p ∧ DGet H p y (some v) ∧ Q v H) := by
  intro value slice pins s σ H x y v u Q I rx ry h hs
  obtain ⟨p, w, rfl, g, q⟩ := h
  cases rx
  have hT := dict_typeIs I g
  unfold subscriptTail
  refine wpAny_bind ?_
  rw [getitemInPython_of_ne hT.not_modules]
  refine wpAny_bind (wpAny_specialOf hT PySem.F.slot_dict_getitem.lookup ?_)
  have fin : wpAny (model X.prog X.w) X.A (subscripted slice false (.ref p) u) (fun r s₃ => wpAny (model X.prog X.w) X.A (letTemporaryGo value (.ref p) r >>= fun _ => pure r) (EP X pins σ Q) X.xe s₃) X.xe s := by
    rw [hs]
    exact wpAny_operating (d_getItem hu I g ry fun w' s3 I3 rw' => wpAny_bind (wpAny_letTemporaryGo (wpAny_pure ⟨w, H, I3, rw', q⟩)))
  first
    | exact wpAny_pure (wpAny_bind fin)
    | exact wpAny_bind (wpAny_pure (wpAny_bind fin))
theorem dixE (hu : X.A.units + 1 < cLine) : DIx X rIxE := IxR_imp (IxR.or dix (ix_dict hu)) fun x y H Q ⟨d, e, S, Q0, d1, d2, rS, q, k⟩ => by
  unfold rIxE at q
  split at q
  · exact .inl ⟨_, _, S, Q0, d1, d2, rS, q, k⟩
  · exact .inl ⟨_, _, S, Q0, d1, d2, rS, q, k⟩
  · exact .inl ⟨_, _, S, Q0, d1, d2, rS, q, k⟩
  · exact .inl ⟨_, _, S, Q0, d1, d2, rS, q, k⟩
  · rename_i p z
    obtain ⟨kvs, hp, d, hd, q⟩ := q
    obtain ⟨kv, e1, e2⟩ := rS.dic hp
    rcases e2.val (.inr z) with ⟨n1, n2⟩ | ⟨d', v, v1, v2, v3⟩
    · rw [hd] at n1; cases n1
    · rw [hd] at v1
      cases v1
      cases (show y = .str z from d2)
      have g : DGet H p (kV (.inr z)) (valV kv (.inr z)) := DGet.k e1
      rw [v2] at g
      exact .inr ⟨p, v, d1, g, k _ S _ H q v3 rS Frame.refl⟩
  · exact q.elim
def dIxE (ta tb : DTE) : DTE := dOp rIxE ta tb
theorem de_ixE (hu : X.A.units + 1 < cLine) (ha : DE X a ta) (hb : DE X b tb) (hs : PlainIx b := by intro _ _; rfl) : DE X (.Subscript a b pos) (dIxE ta tb) :=
  PE_imp (pe_ix (dixE hu) ha hb hs) fun _ _ _ => dOp_lift
/-- in, not in a dict -/
def rInDic (neg : Bool) : R2D := fun y x S Q => ∃ p kvs k, x = .ref p ∧ S p = some (.dic kvs) ∧ y = keyD k ∧ Q (.bl (if neg then !(valD kvs k).isSome else (valD kvs k).isSome)) S
theorem val_isSome {K : PySem.W.Frag} {H : Hp} {kvs : List (Key × D)} {kv : List (Key × V)} (r : KVD K H kvs kv) (k : Key) : (valV kv k).isSome = (valD kvs k).isSome := by
  rcases r.val k with ⟨n1, n2⟩ | ⟨d, v, v1, v2, _⟩
  · rw [n1, n2]; rfl
  · rw [v1, v2]; rfl
theorem dop_inDic (hu : X.A.units + 1 < cLine) : DOp X (compareOp .In) (rInDic false) := by
  intro pins s σ H y x u v Q I ry rx ⟨d, e, S, Q0, d1, d2, rS, ⟨p, kvs, k0, e1, hp, e2, q⟩, k⟩
  subst e1 e2
  cases (show x = .ref p from d2)
  cases den_key d1
  cases rx
  obtain ⟨kv, h1, h2⟩ := rS.dic hp
  exact d_in hu I (DGet.k h1) ry fun s' I' => ⟨.bl _, H, I', rfl, by rw [val_isSome h2]; exact k _ S _ H q rfl rS Frame.refl⟩
theorem dop_notInDic (hu : X.A.units + 1 < cLine) : DOp X (compareOp .NotIn) (rInDic true) := by
  intro pins s σ H y x u v Q I ry rx ⟨d, e, S, Q0, d1, d2, rS, ⟨p, kvs, k0, e1, hp, e2, q⟩, k⟩
  subst e1 e2
  cases (show x = .ref p from d2)
  cases den_key d1
  cases rx
  obtain ⟨kv, h1, h2⟩ := rS.dic hp
  exact d_notIn hu I (DGet.k h1) ry fun s' I' => ⟨.bl _, H, I', rfl, by rw [val_isSome h2]; exact k _ S _ H q rfl rS Frame.refl⟩
/-- {} -/
def dNewD : DTE := fun _ S Q => ∀ p, S p = none → Q (.ref p) (put S p (.dic []))
theorem de_dnew : DE X (.Dict [] [] pos) dNewD := PE_imp pe_dnewK fun σ H Q ⟨ε, S, Q0, rE, rS, q, k⟩ p hp =>
  k (.ref p) _ (.ref p) _ (q p (rS.free hp)) rfl (rS.add hp (cell_dic upd_same .nil)) (frame_add hp)
/-- {k: v, ..}: keys that are written out, all unlike -/
def dPairs : List (Key × DTE) → ED → SD → (List (Key × D) → SD → Prop) → Prop
  | [], _, S, Q => Q [] S
  | (k, t) :: r, ε, S, Q => t ε S fun y S1 => dPairs r ε S1 fun ps S2 => Q ((k, y) :: ps) S2
def tKV (K : PySem.W.Frag) (trs : List (Key × DTE)) : List (TE × TE) := trs.map fun p => (tC (kV p.1), liftE K p.2)
structure DPPs (X : Cx) (pos : Pos) (keys : List (Option Expr)) (values : List Expr) (trs : List (Key × DTE)) : Prop where
  pps : PPs X pos keys values (tKV X.K trs)
theorem dpp_nil : DPPs X pos [] [] [] := ⟨pps_nil⟩
theorem dpp_cons {x : Str} {j : Nat} {p0 : Pos} {v : Expr} {ks : List (Option Expr)} {vs : List Expr} {tv : DTE} {trs : List (Key × DTE)} (hv : DE X v tv) (hr : DPPs X pos ks vs trs) :
    DPPs X pos (some (.Constant (.str x) j p0) :: ks) (v :: vs) ((.inr x, tv) :: trs) := ⟨pps_cons (tk := tC (kV (.inr x))) pe_str hv hr.pps⟩
def dDisp (trs : List (Key × DTE)) : DTE := fun ε S Q => dPairs trs ε S fun ps S1 => ∀ p, S1 p = none → Q (.ref p) (put S1 p (.dic ps))
theorem KVD_of {K : PySem.W.Frag} {H : Hp} : ∀ {ps : List (Key × D)} {kv : List (Key × V)}, KVD K H ps kv → ps.map (·.1) = kv.map (·.1)
  | _, _, .nil => rfl
  | _, _, .cons h t => by rw [List.map_cons, List.map_cons, KVD_of t, h.1]
theorem mergeK_nodup : ∀ (more kvs : List (Key × V)), ((kvs ++ more).map (·.1)).Nodup → mergeK kvs more = kvs ++ more
  | [], kvs, _ => by rw [List.append_nil]; rfl
  | p :: r, kvs, h => by
    have h' : ((kvs ++ [p] ++ r).map (·.1)).Nodup := by rw [List.append_assoc]; exact h
    have hn : ¬ (kvs.any fun kv => decide (kv.1 = p.1)) = true := by
      intro z
      obtain ⟨q, hq, e⟩ := List.any_eq_true.mp z
      rw [List.map_append, List.map_cons, List.nodup_append] at h
      exact h.2.2 q.1 (List.mem_map_of_mem hq) p.1 List.mem_cons_self (of_decide_eq_true e)
    have e : putK kvs p.1 p.2 = kvs ++ [p] := by
      unfold putK
      rw [if_neg hn]
    show mergeK (putK kvs p.1 p.2) r = _
    rw [e, mergeK_nodup r _ h', List.append_assoc]
    rfl
theorem tPairs_of {K : PySem.W.Frag} : ∀ (trs : List (Key × DTE)) (ε : ED) (σ : L2.St) (S : SD) (H : Hp) (Q0 : List (Key × D) → SD → Prop) (Q : List (V × V) → Hp → Prop), RelE K H σ ε → RelS K H S → dPairs trs ε S Q0 →
    (∀ ps S' kv H', Q0 ps S' → ps.map (·.1) = trs.map (·.1) → KVD K H' ps kv → RelS K H' S' → Frame S H S' H' → Q (kv.map fun x => (kV x.1, x.2)) H') → tPairs (tKV K trs) σ H Q
  | [], ε, σ, S, H, Q0, Q, rE, rS, q, k => k [] S [] H q rfl .nil rS Frame.refl
  | (ky, t) :: r, ε, σ, S, H, Q0, Q, rE, rS, q, k => by
    show tC (kV ky) σ H fun x H1 => liftE K t σ H1 fun y H2 => tPairs (tKV K r) σ H2 fun ps H3 => Q ((x, y) :: ps) H3
    show liftE K t σ H fun y H2 => tPairs (tKV K r) σ H2 fun ps H3 => Q ((kV ky, y) :: ps) H3
    refine ⟨ε, S, _, rE, rS, q, fun d S1 v H1 q1 den rS1 f1 => ?_⟩
    exact tPairs_of r ε σ S1 H1 _ _ (rE.frame rS f1) rS1 q1 fun ps S2 kv H2 q2 hk g rS2 f2 =>
      k ((ky, d) :: ps) S2 ((ky, v) :: kv) H2 q2 (by rw [List.map_cons, List.map_cons, hk]) (.cons ⟨rfl, den.frame rS1 f2⟩ g) rS2 (f1.trans f2)
theorem de_disp {keys : List (Option Expr)} {values : List Expr} {trs : List (Key × DTE)} (h : DPPs X pos keys values trs) (hn : (trs.map (·.1)).Nodup := by decide) (hall : keys.all (·.isSome) = true := by rfl) (hl : keys.length = values.length := by rfl)
    (h0 : keys ≠ [] := by simp) (h15 : keys.length ≤ 15 := by decide) (h15' : trs.length ≤ 15 := by decide) : DE X (.Dict keys values pos) (dDisp trs) :=
  PE_imp (pe_disp h.pps hall hl h0 h15) fun σ H Q ⟨ε, S, Q0, rE, rS, q, k⟩ p hp => by
    have f0 : Frame S H S (upd H p (.dK [])) := frame_new hp
    refine tPairs_of trs ε σ S _ _ _ (rE.frame rS f0) (rS.frame_new hp) q fun ps S1 kv H1 q1 hk g rS1 f1 => ?_
    obtain ⟨e1, n1⟩ := f1.keep p _ (rS.free hp) upd_same (fun _ z => nomatch z)
    have hk2 : (kv.map (·.1)).Nodup := by
      rw [← KVD_of g, hk]
      exact hn
    have hlen : kv.length ≤ 15 := by
      have e := congrArg List.length (KVD_of g)
      have e2 := congrArg List.length hk
      rw [List.length_map, List.length_map] at e e2
      omega
    refine ⟨e1, kv, rfl, hlen, ?_⟩
    rw [mergeK_nodup kv [] (by rw [List.nil_append]; exact hk2), List.nil_append]
    have rS2 : RelS X.K H1 (put S1 p (.dic [])) := ⟨fun a c z => by
      by_cases ha : a = p
      · subst ha
        rw [put_same] at z
        cases z
        exact ⟨[], e1, .nil⟩
      · rw [put_ne ha] at z
        exact rS1.cell a c z, rS1.tabs⟩
    obtain ⟨rS3, f3⟩ := frame_dic rS2 put_same g
    have q2 := q1 p n1
    rw [put_put] at rS3 f3
    refine k _ _ (.ref p) _ q2 rfl rS3 ⟨fun b o z1 z2 nt => ?_, fun b z => ?_⟩
    · have ne : b ≠ p := ne_of_none z2 hp
      obtain ⟨y1, y2⟩ := f1.keep b o z1 (by rw [upd_ne ne]; exact z2) nt
      exact ⟨by rw [upd_ne ne]; exact y1, by rw [put_ne ne]; exact y2⟩
    · exact upd_there (f1.there b (upd_there z))
def rSetE : TSetD := fun o i v S Q => match o, i with
  | .ref p, .int i => ∃ ds j, S p = some (.lst ds) ∧ ixN ds.length i = some j ∧ Q (put S p (.lst (ds.set j v)))
  | .ref p, .str z => ∃ kvs, S p = some (.dic kvs) ∧ kvs.length ≤ 1000000 ∧ Q (put S p (.dic (putD kvs (.inr z) v)))
  | _, _ => False
theorem dset (hu : X.A.units + 1 < cLine) : DPSet X rSetE := by
  intro pins s σ H o i v ov iv u Q I ro ri rv ⟨a, b, d, S, Q0, d1, d2, d3, rS, q, k⟩
  unfold rSetE at q
  split at q
  · rename_i p z
    obtain ⟨ds, j, hp, hj, q⟩ := q
    cases (show o = .ref p from d1)
    cases (show i = .int z from d2)
    obtain ⟨vs, h1, h2⟩ := rS.lst hp
    have f : Frame S H (put S p (.lst (ds.set j d))) (upd H p (.lst (vs.set j v))) := frame_put hp
    exact set_list pins s σ H _ _ v ov iv u Q I ro ri rv ⟨p, vs, z, j, rfl, rfl, h1, by rw [h2.length]; exact hj, k _ _ q (rS.put hp (fun _ z => nomatch z) (cell_lst upd_same (DenL.frame rS f _ _ (h2.set j d3)))) f⟩
  · rename_i p z
    obtain ⟨kvs, hp, hz, q⟩ := q
    cases (show o = .ref p from d1)
    cases (show i = .str z from d2)
    cases ro
    obtain ⟨kv, h1, h2⟩ := rS.dic hp
    obtain ⟨rS', f⟩ := frame_dic rS hp (h2.put (k := .inr z) d3)
    exact d_setItem hu I (DPut.k (k := .inr z) h1 (by rw [KVD.length h2]; exact lt_line hz)) ri rv fun s' I' => ⟨_, I', k _ _ q rS' f⟩
  · exact q.elim
def dGet2 (to ta tb : DTE) : DTE := fun ε S Q => to ε S fun x S1 => ∃ p, x = .ref p ∧ (∃ kvs, S1 p = some (.dic kvs)) ∧ ta ε S1 fun y S2 => tb ε S2 fun z S3 => ∃ kvs k, S3 p = some (.dic kvs) ∧ y = keyD k ∧ Q ((valD kvs k).getD z) S3
def dGet1 (to ta : DTE) : DTE := fun ε S Q => to ε S fun x S1 => ∃ p, x = .ref p ∧ (∃ kvs, S1 p = some (.dic kvs)) ∧ ta ε S1 fun y S2 => ∃ kvs k, S2 p = some (.dic kvs) ∧ y = keyD k ∧ Q ((valD kvs k).getD .non) S2
theorem val_getD {K : PySem.W.Frag} {H : Hp} {kvs : List (Key × D)} {kv : List (Key × V)} {d : D} {v : V} (r : KVD K H kvs kv) (k : Key) (h : Den K H d v) : Den K H ((valD kvs k).getD d) ((valV kv k).getD v) := by
  rcases r.val k with ⟨n1, n2⟩ | ⟨d', v', v1, v2, v3⟩
  · rw [n1, n2]; exact h
  · rw [v1, v2]; exact v3
variable {o f : Expr} {to : DTE} {apos cpos : Pos}
theorem de_get2 (hu : X.A.units + 1 < cLine) (ho : DE X o to) (ha : DE X e ta) (hb : DE X f tb) (m : M2 X o "get" apos e f cpos := by exact ⟨rfl, rfl, rfl, rfl⟩) : DE X (.Call (.Attribute o "get" apos) [e, f] [] cpos) (dGet2 to ta tb) :=
  PE_imp (pe_dget2 hu ho ha hb m) fun σ H Q ⟨ε, S, Q0, rE, rS, q, k⟩ => ⟨ε, S, _, rE, rS, q, fun x S1 v H1 ⟨p, ex, ⟨kvs, hp⟩, q1⟩ den rS1 f1 => by
    subst ex
    obtain ⟨kv, e1, _⟩ := rS1.dic hp
    refine ⟨p, den, .inl ⟨kv, .inl e1⟩, ε, S1, _, rE.frame rS f1, rS1, q1, fun y S2 w H2 q2 dy rS2 f2 => ⟨ε, S2, _, (rE.frame rS f1).frame rS1 f2, rS2, q2, fun z S3 u H3 ⟨kvs3, k0, hp3, ey, q3⟩ dz rS3 f3 => ?_⟩⟩
    subst ey
    cases den_key dy
    obtain ⟨kv3, e3, g3⟩ := rS3.dic hp3
    exact ⟨valV kv3 k0, DGet.k e3, k _ S3 _ H3 q3 (val_getD g3 k0 dz) rS3 ((f1.trans f2).trans f3)⟩⟩
theorem de_get1 (hu : X.A.units + 1 < cLine) (ho : DE X o to) (ha : DE X e ta) (m : M1 X o "get" apos e cpos := by exact ⟨rfl, rfl, rfl, rfl⟩) : DE X (.Call (.Attribute o "get" apos) [e] [] cpos) (dGet1 to ta) :=
  PE_imp (pe_dget1 hu ho ha m) fun σ H Q ⟨ε, S, Q0, rE, rS, q, k⟩ => ⟨ε, S, _, rE, rS, q, fun x S1 v H1 ⟨p, ex, ⟨kvs, hp⟩, q1⟩ den rS1 f1 => by
    subst ex
    obtain ⟨kv, e1, _⟩ := rS1.dic hp
    refine ⟨p, den, .inl ⟨kv, .inl e1⟩, ε, S1, _, rE.frame rS f1, rS1, q1, fun y S2 w H2 ⟨kvs3, k0, hp3, ey, q3⟩ dy rS2 f2 => ?_⟩
    subst ey
    cases den_key dy
    obtain ⟨kv3, e3, g3⟩ := rS2.dic hp3
    exact ⟨valV kv3 k0, DGet.k e3, k _ S2 _ H2 q3 (val_getD g3 k0 (d := .non) (v := .non) rfl) rS2 (f1.trans f2)⟩⟩
end
end DL

namespace DL
open PySem PySem.Spec PyProof.Rows L2
variable [Amb]

section
variable {X : Cx} {a b e : Expr} {ta tb : DTE} {pos : Pos} {pins : List (Addr × Obj)} {σ : L2.St} {H : Hp} {s : Shared}
def okShow (p : PyData) : Prop := p.showable = true ∧ p.hasDict = false ∧ p.depth ≤ 62 ∧ p.shown.length ≤ sizeLine
def rReprD : RAD := fun ds S Q => ∃ x p, ds = [x] ∧ toP S x p ∧ (∃ xs, p = .tuple xs ∨ p = .list xs) ∧ okShow p ∧ Q (.str p.shown) S
theorem dc_repr (hu : X.A.units + 64 < cLine) (hg : X.A.guards = some []) : DCall X (.builtin "repr") rReprD := by
  intro pins s σ H xs us Q I r ⟨ds, S, Q0, den, rS, ⟨x, p, e1, tp, hs, ⟨s1, s2, s3, s4⟩, q⟩, k⟩
  subst e1
  obtain ⟨v, w, rfl, d1, d2⟩ := den.uncons
  cases d2.nil_eq
  obtain ⟨u, rfl, ru⟩ := vals1 r
  obtain ⟨as, hr⟩ := Dp.reads I p v u (toP_dp rS d1 tp) ru
  obtain ⟨b, rfl⟩ : ∃ b, u = .ref b := by
    obtain ⟨zs, rfl | rfl⟩ := hs
    · cases hr
      exact ⟨_, rfl⟩
    · cases hr
      exact ⟨_, rfl⟩
  exact repr_of_reads' hr s1 (fun z => by rw [s2] at z; cases z) hg (by omega) (fun _ _ z => z) (fun h' u tk hk => ⟨.str p.shown, H, I.kept hk, ⟨_, rfl⟩, k _ S _ H q rfl rS Frame.refl⟩) s4

theorem plT_seq {p : Addr} {vs : List V} (I : Inv X pins σ H s) (h : PlT X.K H p vs) : ∃ its : List Value, Vals vs its ∧ PlainSeq "tuple" s.heap p its.toArray ∧ vs.length ≤ sizeLine := by
  rcases h with ⟨o, ⟨hc, hd, its0, n, hdat⟩, h⟩ | ⟨o, its, n, h1, h2, h3, h4, h5, h6⟩
  · obtain ⟨e, z, its, r, ⟨o', e', c', n', d'⟩⟩ := (show ObjOk X.prog X.w H s.heap p (.frz o (.tup vs)) from I.hok p _ h)
    rw [e] at e'
    cases e'
    exact ⟨its, r, ⟨o, n', e, hc, hd, d'⟩, z⟩
  · refine ⟨its.toList, h6, ⟨o, n, I.kIn p o h1, h2, h3, by simpa using h4⟩, ?_⟩
    have e := h6.length
    simp only [Array.length_toList] at e
    omega

theorem pairs_den {K : PySem.W.Frag} {H : Hp} : ∀ {kvs : List (Key × D)} {vs : List V}, DenL K H (kvs.map fun kv => D.tup [keyD kv.1, kv.2]) vs →
    ∃ (ts : List Addr) (kv : List (Key × V)), vs = ts.map V.ref ∧ KVD K H kvs kv ∧ Paired (fun t q => SqT K H t [kV q.1, q.2]) ts kv
  | [], vs, h => by
    cases h.nil_eq
    exact ⟨[], [], rfl, .nil, .nil⟩
  | (k, d) :: r, vs, h => by
    obtain ⟨v, w, rfl, h1, h2⟩ := h.uncons
    obtain ⟨p, us, rfl, ht, hd⟩ := h1.untup
    obtain ⟨u1, w1, rfl, g1, g2⟩ := hd.uncons
    obtain ⟨u2, w2, rfl, g3, g4⟩ := g2.uncons
    cases g4.nil_eq
    cases den_key g1
    obtain ⟨ts, kv, rfl, r1, r2⟩ := pairs_den h2
    exact ⟨p :: ts, (k, u2) :: kv, rfl, .cons ⟨rfl, g3⟩ r1, .cons ht.sq r2⟩
theorem pairs_heap (I : Inv X pins σ H s) : ∀ {ts : List Addr} {kvs : List (Key × V)}, Paired (fun t kv => SqT X.K H t [kV kv.1, kv.2]) ts kvs →
    ∃ (prs : List (Key × Value)) (ps : List (Value × Value)), KV kvs prs ∧ prs.length = ts.length ∧ ps.length = ts.length ∧ (∀ (j : Nat) (q : Value × Value), ps[j]? = some q → ∃ t, ts[j]? = some t ∧ IsTup s.heap t #[q.1, q.2]) ∧
      ∀ (j : Nat) (k v : Value), ps[j]? = some (k, v) → ∃ c, prs[j]? = some (c, v) ∧ (mixKind X.prog X.w).is c k = true
  | _, _, .nil => ⟨[], [], .nil, rfl, rfl, (fun j q e => by simp at e), fun j k v e => by simp at e⟩
  | _, _, .cons (a := p) (b := kv) h t => by
    obtain ⟨prs, ps, r, hl, hl2, h1, h2⟩ := pairs_heap I t
    obtain ⟨its, rv, ht, _⟩ := I.tuple h
    obtain ⟨u, y, ei, ru, ry⟩ := vals2 rv
    subst ei
    refine ⟨(kv.1, y) :: prs, (u, y) :: ps, .cons ⟨rfl, ry⟩ r, by rw [List.length_cons, List.length_cons, hl], by rw [List.length_cons, List.length_cons, hl2], fun j q e => ?_, fun j k v e => ?_⟩
    · cases j with
      | zero =>
        have e' : (u, y) = q := Option.some.inj e
        subst e'
        exact ⟨p, rfl, ht⟩
      | succ j =>
        obtain ⟨t, e1, e2⟩ := h1 j q (by simpa using e)
        exact ⟨t, by simpa using e1, e2⟩
    · cases j with
      | zero =>
        have e' : (u, y) = (k, v) := Option.some.inj e
        cases e'
        exact ⟨kv.1, rfl, kV_is (P := X.prog) (w := X.w) ru⟩
      | succ j =>
        obtain ⟨c, e1, e2⟩ := h2 j k v (by simpa using e)
        exact ⟨c, by simpa using e1, e2⟩
def rDictT : RAD := fun ds S Q => ∃ kvs : List (Key × D), ds = [.tup (kvs.map fun kv => D.tup [keyD kv.1, kv.2])] ∧ ∀ p, S p = none → Q (.ref p) (put S p (.dic (mergeD [] kvs)))
theorem dc_dictT (hcalm : X.calm = true) : DCall X (.type "dict") rDictT := by
  intro pins s σ H xs us Q I r ⟨ds, S, Q0, den, rS, ⟨kvs, e1, q⟩, k⟩
  subst e1
  obtain ⟨v, w, rfl, d1, d2⟩ := den.uncons
  cases d2.nil_eq
  obtain ⟨a, vs, rfl, hpl, hds⟩ := d1.untup
  obtain ⟨u, rfl, ru⟩ := vals1 r
  cases ru
  obtain ⟨ts, kv, rfl, g1, g2⟩ := pairs_den hds
  obtain ⟨its, rv, hseq, hz⟩ := plT_seq I hpl
  have ei := refs_at rv
  subst ei
  rw [List.length_map] at hz
  obtain ⟨prs, ps, rel, hl, hl2, h1, h2⟩ := pairs_heap I g2
  have hitems : PairItems s.heap (ts.map Value.ref).toArray (fun j => ts.getD j 0) ps := by
    refine ⟨by simp [hl2], fun j k v e => ?_⟩
    obtain ⟨t, e1, e2⟩ := h1 j (k, v) e
    refine ⟨by simp [e1], ?_⟩
    have e3 : ts.getD j 0 = t := by simp [e1]
    show PairAt s.heap (ts.getD j 0) k v
    rw [e3]
    exact .inl e2
  have P := PairArg.tuple (prog := X.prog) (w := X.w) a (ts.map Value.ref).toArray (fun j => ts.getD j 0) ps
  refine PySem.call_dict_pairs (knd := mixKind X.prog X.w) (kvs := prs) P (I.ok.hd hcalm) ⟨hseq, hitems⟩ ⟨by rw [hl, hl2], fun i key v hr => h2 i key v hr⟩ (by rw [hl2]; exact hz) fun h' tk hd' hk => ?_
  have hm : (s.heap.objs.size == sysModules) = false := beq_eq_false_iff_ne.mpr (Nat.ne_of_gt I.big)
  have hlen : (mergeK [] kv).length ≤ sizeLine := by
    refine Nat.le_trans (length_mergeK kv []) ?_
    rw [List.length_nil, Nat.zero_add, rel.length, hl]
    exact hz
  have hn : H s.heap.objs.size = none := I.hok.fresh (Nat.le_refl _)
  refine ⟨.ref s.heap.objs.size, upd H s.heap.objs.size (.dK (mergeK [] kv)), I.laid (t' := tk) (fun b o e => hk b o (by simp) e) (Nat.le_refl _) (show ObjOk X.prog X.w _ _ _ (.dK (mergeK [] kv)) from ⟨hlen, hm, merged [] prs, KV.merge rel .nil, hd'⟩), rfl, ?_⟩
  exact k (.ref _) _ (.ref _) _ (q _ (rS.free hn)) rfl (rS.add hn (cell_dic upd_same ((KVD.merge g1 .nil).frame rS (frame_new (S := S) hn)))) (frame_add hn)

def rMulT : R2D := fun x y S Q => ∃ ds i, x = .tup ds ∧ y = .int i ∧ ds ≠ [] ∧ 2 ≤ i ∧ i ≤ 1000 ∧ ds.length ≤ 1000 ∧ Q (.tup (List.replicate i.toNat ds).flatten) S
theorem dop_mulT : DOp X (binaryOp .Mult) rMulT := by
  intro pins s σ H x y v u Q I rx ry ⟨d, e, S, Q0, d1, d2, rS, ⟨ds, k, e1, e2, hne, h1, h2, hz, q⟩, kk⟩
  subst e1 e2
  obtain ⟨l, xs, rfl, hpl, hd⟩ := d1.untup
  cases (show y = .int k from d2)
  cases rx
  obtain ⟨t, rfl⟩ := ry
  have hxl := hd.length
  obtain ⟨its, r, ⟨⟨cls, dd, data, sl⟩, ho, hc, n, hd'⟩, hs⟩ := I.tuple hpl.sq
  simp only at hc hd'
  subst hc hd'
  have hle : its.length = xs.length := r.length.symm
  have hn : its ≠ [] := fun e => hne (by
    rw [e] at hle
    exact List.eq_nil_of_length_eq_zero (by rw [← hxl]; exact hle.symm))
  have hi : its.toArray.isEmpty = false := by
    cases its with
    | nil => exact absurd rfl hn
    | cons a b => rfl
  have hsz0 : its.toArray.size = xs.length := by rw [List.size_toArray, hle]
  have hxz : xs.length ≤ 1000 := by omega
  have hm : ((its.toArray.size : Nat) : Int) * k ≤ 1000000 := by
    rw [hsz0]
    have a1 : ((xs.length : Nat) : Int) * k ≤ 1000 * k := Int.mul_le_mul_of_nonneg_right (by omega) (by omega)
    omega
  have hrl : k.toNat * xs.length ≤ 1000 * 1000 := Nat.mul_le_mul (by omega) hxz
  have flen : (List.replicate k.toNat its).flatten.length ≤ sizeLine := by
    rw [PyProof.Rows.lm_len_rep_flat, hle, sizeLine_eq]
    omega
  have c0 : (decide (k < -(2 ^ 63)) || decide (k ≥ 2 ^ 63)) = false := by
    rw [decide_eq_false (by omega), decide_eq_false (by omega)] <;> rfl
  have c1 : (its.toArray.isEmpty || k == 1) = false := by
    rw [hi, Bool.false_or]
    exact beq_eq_false_iff_ne.mpr (by omega)
  have c2 : (decide (k ≤ 0) || its.toArray.isEmpty) = false := by
    rw [hi, Bool.or_false]
    exact decide_eq_false (by omega)
  have c4 : Builtin.Tuple.tupleTooMany (((its.toArray.size : Nat) : Int) * k) = false := by
    unfold Builtin.Tuple.tupleTooMany
    rw [sizeLine_eq]
    exact decide_eq_false (by omega)
  refine wpAny_binaryOp_repeat_ref (T := "tuple") (U := "int") (by decide) ⟨_, ho, rfl⟩ (fun s' => typeIs_int s' k t) noFill_tuple_mul F.fills_int_mul F.slot_int_rmul repeat_tuple F.slot_int_index.lookup
    (call_meets F.slot_int_rmul (typeIs_int s k t) F.entry_int_rmul (F.args_int_rmul_2 _ _) (int_rmul_tuple k t l its.toArray n dd sl)
      ⟨ho, rfl, ⟨_, ho, rfl⟩, call_meets F.slot_tuple_mul ⟨_, ho, rfl⟩ F.entry_tuple_mul (F.args_tuple_mul_2 _ _) (tuple_mulW l its.toArray n dd sl k t c0 c1 c2 (by omega) c4 (by rw [size_rep, List.size_toArray]; exact flen)) ⟨ho, ?_⟩⟩)
  rw [size_rep]
  refine ep_newT (t' := s.toks) I (r.rep k.toNat) (by rw [PyProof.Rows.lm_len_rep_flat, sizeLine_eq]; omega) ?_
  exact WkE.newTup kk rS (denL_rep k.toNat hd) q

theorem fm_congr {α β : Type} {f g : α → Option β} : ∀ {l : List α}, (∀ x ∈ l, f x = g x) → l.filterMap f = l.filterMap g
  | [], _ => rfl
  | x :: l, h => by
    rw [List.filterMap_cons, List.filterMap_cons, h x List.mem_cons_self, fm_congr fun y hy => h y (List.mem_cons_of_mem _ hy)]
theorem pick_rev (l : List Value) : ((List.range l.length).filterMap fun (k : Nat) => l.toArray[((l.length : Int) - 1 + (k : Int) * (-1)).toNat]?).toArray = l.reverse.toArray := by
  have h := PyProof.Rows.pick_from l.reverse.toArray 0 (Nat.zero_le _)
  rw [List.size_toArray, List.length_reverse, Nat.sub_zero, List.toList_toArray, List.drop_zero] at h
  rw [← h]
  congr 1
  apply fm_congr
  intro k hk
  have hk' : k < l.length := List.mem_range.mp hk
  have e1 : ((l.length : Int) - 1 + (k : Int) * (-1)).toNat = l.length - 1 - k := by omega
  have e2 : (((0 : Nat) : Int) + (k : Int) * 1).toNat = k := by omega
  rw [e1, e2]
  simp only [List.getElem?_toArray]
  rw [List.getElem?_reverse hk']
theorem sliceApplied_rev {prog : Program} {w : World} {A : Around} {E : Value → Shared → Prop} {s : Shared} {sl : Addr} {u : Tok} {n : Nat} {Q : Int × Int × Nat → Shared → Prop} (hs : s.heap.IsSliceOf sl .none .none (.int (-1) u)) (h : Q ((n : Int) - 1, -1, n) s) :
    wpAny (model prog w) A (Builtin.Slice.sliceApplied (.ref sl) (pure (n : Int))) Q E s := by
  obtain ⟨os, hos, hcs, hds⟩ := id hs
  unfold Builtin.Slice.sliceApplied Builtin.Slice.sliceFields
  refine wpAny_bind (wpAny_bind (wpAny_field hos hds (x := .none) rfl (wpAny_bind (wpAny_field hos hds (x := .none) rfl (wpAny_bind (wpAny_field hos hds (x := .int (-1) u) rfl (wpAny_pure ?_)))))))
  refine wpAny_bind (PyProof.Rows.slicePart_int ?_)
  show wpAny _ _ (if ((-1 : Int) == 0) = true then _ else _) _ _ s
  rw [if_neg (by decide)]
  refine wpAny_bind (PyProof.Rows.slicePart_none (wpAny_bind (PyProof.Rows.slicePart_none (wpAny_bind (wpAny_pure ?_)))))
  show wpAny _ _ (match Builtin.Slice.sliceAdjust none none (-1) (n : Int) with | (lo, hi) => pure (lo, (-1 : Int), Builtin.Slice.slicePlaces lo hi (-1))) _ _ s
  have e : Builtin.Slice.sliceAdjust none none (-1) (n : Int) = ((n : Int) - 1, -1) := rfl
  rw [e]
  show wpAny _ _ (pure ((n : Int) - 1, (-1 : Int), Builtin.Slice.slicePlaces ((n : Int) - 1) (-1) (-1))) _ _ s
  have e2 : Builtin.Slice.slicePlaces ((n : Int) - 1) (-1) (-1) = n := by
    unfold Builtin.Slice.slicePlaces
    rw [if_neg (by decide)]
    split
    · have : (-(-1 : Int)) = 1 := by decide
      rw [this, Int.ediv_one]
      omega
    · omega
  rw [e2]
  exact wpAny_pure h
theorem getItem_tuple_rev {prog : Program} {w : World} {A : Around} {E : Value → Shared → Prop} {s : Shared} {t sl : Addr} {its : List Value} {u : Tok} {Q : Value → Shared → Prop} (ht : IsTup s.heap t its.toArray) (hs : s.heap.IsSliceOf sl .none .none (.int (-1) u))
    (h : Q (.ref s.heap.objs.size) { s with heap := s.heap.push { cls := .type "tuple", data := .seq its.reverse.toArray } }) (hsz : its.length ≤ sizeLine) : wpAny (model prog w) A (getItem (.ref t) (.ref sl)) Q E s := by
  have hdrop : sizeOk (.seq its.reverse.toArray) := by
    show its.reverse.toArray.size ≤ sizeLine
    rw [List.size_toArray, List.length_reverse]
    exact hsz
  obtain ⟨os, hos, hcs, hds⟩ := id hs
  have hTs : s.TypeIs (.ref sl) "slice" := ⟨os, hos, hcs⟩
  unfold getItem
  try with_reducible refine wpAny_holding ?_
  first | refine wpAny_bind (wpAny_pure ?_) | skip
  refine wpAny_bind (wpAny_sequenceKey ht.typeIs (by decide) ?_)
  refine wpAny_bind (wpAny_callSpecial?_slot (name := Str.ofString "__getitem__") ht.typeIs PyProof.Rows.slot_tuple_getitem
    (wpAny_call_entry PyProof.Rows.slot_tuple_getitem ht.typeIs PyProof.Rows.entry_tuple_getitem ?_ (PyProof.Rows.args_tuple_getitem _ _)))
  show wpAny _ _ (Builtin.Tuple.tupleItemsOf (.ref t) >>= _) _ _ s
  refine wpAny_bind (tupleItemsOf_ ht ?_)
  refine wpAny_bind (wpAny_typeOf hTs ?_)
  rw [if_pos (by decide)]
  refine wpAny_bind (sliceApplied_rev hs ?_)
  have hno : ¬ ((((its.toArray.size : Int) - 1) == 0 && (-1 : Int) == 1 && (its.toArray.size) == its.toArray.size) = true) := by
    have : ((-1 : Int) == 1) = false := by decide
    rw [this, Bool.and_false, Bool.false_and]
    exact Bool.false_ne_true
  show wpAny _ _ (if (((its.toArray.size : Int) - 1) == 0 && (-1 : Int) == 1 && (its.toArray.size) == its.toArray.size) = true then _ else _) _ _ s
  have hp := pick_rev its
  rw [← List.size_toArray] at hp
  rw [if_neg hno, hp]
  first
    | exact wpAny_bind (m := Builtin.Tuple.tupleExact _) (wpAny_newObj_type (wpAny_pure ⟨_, rfl, wpAny_pure h⟩) hdrop)
    | exact wpAny_bind (m := Builtin.Tuple.tupleExact _) (wpAny_newObj_type (wpAny_bind (wpAny_pure (wpAny_pure ⟨_, rfl, wpAny_pure h⟩))) hdrop)
    | exact wpAny_bind (wpAny_bind (m := Builtin.Tuple.tupleExact _) (wpAny_newObj_type (wpAny_pure (wpAny_pure ⟨_, rfl, wpAny_pure h⟩)) hdrop))
    | exact wpAny_bind (wpAny_bind (m := Builtin.Tuple.tupleExact _) (wpAny_newObj_type (wpAny_pure ⟨_, rfl, wpAny_pure h⟩) hdrop))
def tRevT (K : PySem.W.Frag) (te : TE) : TE := fun σ H Q => te σ H fun x H1 => ∃ a xs, x = .ref a ∧ SqT K H1 a xs ∧ newT H1 xs.reverse Q
theorem pe_revT {te : TE} {k : Nat} {p1 p2 p3 : Pos} (he : PE X e te) : PE X (.Subscript e (.Slice none none (some (.UnaryOp .USub (.Constant (.int 1) k p1) p2)) p3) pos) (tRevT X.K te) := by
  refine ⟨fun pins s σ H Q I h => ?_⟩
  refine Subscript_ (thn (he.run pins s σ H _ I h) fun v s1 ⟨x, H1, I1, r1, q1⟩ => ?_)
  obtain ⟨a, xs, ex, hx, q⟩ := q1
  subst ex
  cases r1
  have hst : PO X (some (.UnaryOp .USub (.Constant (.int 1) k p1) p2)) (tPart (tUn (rU fun i => .int (-i)) (tC (.int 1)))) := po_some (pe_un un_neg pe_int)
  refine wpAny_Slice (thn (po_none.run pins s1 σ H1 (fun o H2 => o = none ∧ H2 = H1) I1 ⟨rfl, rfl⟩) fun vl s2 ⟨l, H2, I2, pl, el, e2⟩ => ?_)
  subst el e2
  refine thn (po_none.run pins s2 σ H2 (fun o H3 => o = none ∧ H3 = H2) I2 ⟨rfl, rfl⟩) fun vu s3 ⟨u, H3, I3, pu, eu, e3⟩ => ?_
  subst eu e3
  refine thn (hst.run pins s3 σ H3 (fun o H4 => o = some (-1) ∧ H4 = H3) I3 ⟨1, rfl, -1, rfl, rfl, rfl⟩) fun vs s4 ⟨o, H4, I4, ps, eo, e4⟩ => ?_
  subst eo e4
  have I5 : Inv X pins σ H4 { s4 with heap := s4.heap.push { cls := .type "slice", data := .fields #[vl, vu, vs] } } := I4.kept (t' := s4.toks) fun b ob q => Heap.get?_push_of_some _ q
  obtain ⟨its, r, ht, hz⟩ := I5.tuple hx
  have hlen := r.length
  cases pl
  cases pu
  cases ps
  show wpAny (model X.prog X.w) X.A (subscriptTail e (.Slice none none (some (.UnaryOp .USub (.Constant (.int 1) k p1) p2)) p3) (.ref a) (.ref s4.heap.objs.size)) (EP X pins σ Q) X.xe { s4 with heap := s4.heap.push _ }
  refine tail_any (ops := [.ref a, .ref s4.heap.objs.size]) ht.typeIs (PyProof.Rows.slot_tuple_getitem.lookup) ?_ (by with_unfolding_all rfl)
  refine getItem_tuple_rev ht (Heap.IsSliceOf.new _ _ _ _) ?_ (by omega)
  exact ep_newT (t' := s4.toks) I5 r.reverse (by rw [List.length_reverse]; exact hz) q
def dRevT (te : DTE) : DTE := fun ε S Q => te ε S fun x S1 => ∃ ds, x = .tup ds ∧ Q (.tup ds.reverse) S1
theorem de_revT {k : Nat} {q1 q2 q3 : Pos} (he : DE X e ta) : DE X (.Subscript e (.Slice none none (some (.UnaryOp .USub (.Constant (.int 1) k q1) q2)) q3) pos) (dRevT ta) :=
  PE_imp (pe_revT he) fun σ H Q ⟨ε, S, Q0, rE, rS, q, k⟩ => ⟨ε, S, _, rE, rS, q, fun d S1 v H1 q1 den rS1 f1 => by
    obtain ⟨ds, rfl, q2⟩ := q1
    obtain ⟨p, vs, rfl, hp, hd⟩ := den.untup
    exact ⟨p, vs, rfl, hp.sq, (k.frame f1).newTup rS1 hd.rev q2⟩⟩

def tTM (K : PySem.W.Frag) (r : V → List V → Hp → VK → Prop) (to : TE) (t : TA) : TE := fun σ H Q => to σ H fun x H1 => (∃ a vs, x = .ref a ∧ PlT K H1 a vs) ∧ t σ H1 fun xs H2 => r x xs H2 Q
theorem pe_tm {o : Expr} {es : List Expr} {name : Str} {apos cpos : Pos} {id : String} {r : V → List V → Hp → VK → Prop} {to : TE} {t : TA} (slot : Slot "tuple" name id) (hty : typeOf (.builtin id) = pure (.type "method_descriptor")) (hm : MtR X id r) (ho : PE X o to) (ha : PA X (e :: es) t)
    (hbase : attributeBase o name X.env (eval o X.env) = eval o X.env)
    (hfew : ((backTo cpos (starEach (e :: es) X.env)).all (fun x => !x.1) && (backToKw cpos (keywordEach [] X.env)).all (fun x => x.1.isSome) &&
      decide ((e :: es).length + ([] : List Keyword).length + (if ([] : List Keyword).isEmpty then 0 else 1) < 30)) = true)
    (hline : (apos.endLine == cpos.line) = true) (hs : starEach (e :: es) X.env = (false, eval e X.env) :: starEach es X.env) (hplain : (backTo cpos (starEach es X.env)).any (·.1) = false) :
    PE X (.Call (.Attribute o name apos) (e :: es) [] cpos) (tTM X.K r to t) := by
  refine ⟨fun pins s σ H Q I h => ?_⟩
  refine wpAny_Call_method_late hbase hfew hline rfl (thn (ho.run pins s σ H _ I h) fun v s1 ⟨x, H1, I1, r1, ⟨a, vs, ex, hp⟩, q1⟩ => ?_)
  subst ex
  cases r1
  obtain ⟨its, rv, ⟨ob, n, e1, e2, e3, e4⟩, _⟩ := plT_seq I1 hp
  refine ⟨"tuple", id, PySem.F.plainAttrs_tuple, slot, hty, ⟨ob, e1, e2⟩, fun b z => (by cases z; exact ⟨ob, e1, e3⟩), ?_⟩
  have hA := ha.run cpos pins s1 σ H1 _ I1 q1
  rw [hs] at hA ⊢
  refine Calls.callWith_builtin (by show (false || (backTo cpos (starEach es X.env)).any (·.1)) = false; rw [hplain] <;> rfl) (Calls.evalArgs_plain ?_)
  exact thn hA fun us s2 ⟨vs, H2, I2, r2, q2⟩ => hm pins s2 σ H2 (.ref a) vs (.ref a) us Q I2 rfl r2 q2
def dTM (r : RMD) (to : DTE) (ta : DTA) : DTE := fun ε S Q => to ε S fun x S1 => (∃ ds, x = .tup ds) ∧ ta ε S1 fun ds S2 => r x ds S2 Q
theorem de_tm {o : Expr} {es : List Expr} {name : Str} {apos cpos : Pos} {id : String} {r : RMD} {to : DTE} {tas : DTA} (slot : Slot "tuple" name id) (hty : typeOf (.builtin id) = pure (.type "method_descriptor")) (hm : DMt X id r) (ho : DE X o to) (ha : DA X (e :: es) tas)
    (hbase : attributeBase o name X.env (eval o X.env) = eval o X.env := by rfl)
    (hfew : ((backTo cpos (starEach (e :: es) X.env)).all (fun x => !x.1) && (backToKw cpos (keywordEach [] X.env)).all (fun x => x.1.isSome) &&
      decide ((e :: es).length + ([] : List Keyword).length + (if ([] : List Keyword).isEmpty then 0 else 1) < 30)) = true := by rfl)
    (hline : (apos.endLine == cpos.line) = true := by rfl) (hs : starEach (e :: es) X.env = (false, eval e X.env) :: starEach es X.env := by rfl) (hplain : (backTo cpos (starEach es X.env)).any (·.1) = false := by rfl) :
    DE X (.Call (.Attribute o name apos) (e :: es) [] cpos) (dTM r to tas) :=
  PE_imp (pe_tm slot hty hm ho ha hbase hfew hline hs hplain) fun σ H Q ⟨ε, S, Q0, rE, rS, q, k⟩ => ⟨ε, S, _, rE, rS, q, fun d S1 v H1 ⟨⟨ds, ed⟩, q1⟩ den rS1 f1 => by
    subst ed
    obtain ⟨p, vs, rfl, hp, hd⟩ := den.untup
    exact ⟨⟨p, vs, rfl, hp⟩, ε, S1, _, rE.frame rS f1, rS1, q1, fun xs S2 us H2 q2 den2 rS2 f2 => ⟨.tup ds, xs, S2, Q0, den.frame rS1 f2, den2, rS2, q2, k.frame (f1.trans f2)⟩⟩⟩
def rCountT : RMD := fun x xs S Q => ∃ ds d, x = .tup ds ∧ xs = [d] ∧ plainL ds = true ∧ d.plain = true ∧ (pys ds).all (fun p => p.plain) = true ∧ d.py.plain = true ∧ d.py.depth ≤ 60 ∧ Q (.int ((pys ds).countP fun y => PyData.eqv y d.py)) S
end
end DL

namespace DL
open PySem PySem.Spec PyProof.Rows L2
variable [Amb]

section
variable {X : Cx} {a b e : Expr} {ta tb : DTE} {pos : Pos}
def mAdd : R2D := fun x y S Q => match x, y with
  | .int i, .int j => Q (.int (i + j)) S
  | .str a, .str b => a.length + b.length ≤ 1000000 ∧ Q (.str (a ++ b)) S
  | .tup a, .tup b => a.length + b.length ≤ 1000000 ∧ Q (.tup (a ++ b)) S
  | _, _ => False
theorem dm_add : DOp X (binaryOp .Add) mAdd := DOp_imp dop_add fun x y S Q h => by
  unfold mAdd at h
  split at h
  · exact .inl ⟨_, _, rfl, rfl, h⟩
  · exact .inr (.inl ⟨_, _, rfl, rfl, h.1, h.2⟩)
  · exact .inr (.inr ⟨_, _, rfl, rfl, h.1, h.2⟩)
  · exact h.elim
def mSub : R2D := fun x y S Q => match x, y with
  | .int i, .int j => Q (.int (i - j)) S
  | _, _ => False
theorem dm_sub : DOp X (binaryOp .Sub) mSub := DOp_imp dop_sub fun x y S Q h => by
  unfold mSub at h
  split at h
  · exact ⟨_, _, rfl, rfl, h⟩
  · exact h.elim
def mMul : R2D := fun x y S Q => match x, y with
  | .int i, .int j => CMulW i j ∧ Q (.int (i * j)) S
  | .str a, .int i => rMulS (.str a) (.int i) S Q
  | .tup ds, .int i => ds ≠ [] ∧ 2 ≤ i ∧ i ≤ 1000 ∧ ds.length ≤ 1000 ∧ Q (.tup (List.replicate i.toNat ds).flatten) S
  | _, _ => False
theorem dm_mul : DOp X (binaryOp .Mult) mMul := DOp_imp (OpR_or dop_mulI (OpR_or dop_mulS dop_mulT)) fun x y S Q h => by
  unfold mMul at h
  split at h
  · exact .inl ⟨_, _, rfl, rfl, h.1, h.2⟩
  · exact .inr (.inl h)
  · exact .inr (.inr ⟨_, _, rfl, rfl, h⟩)
  · exact h.elim
def mDiv : R2D := fun x y S Q => match x, y with
  | .int i, .int j => CDivW i j ∧ Q (.int (i / j)) S
  | _, _ => False
theorem dm_div : DOp X (binaryOp .FloorDiv) mDiv := DOp_imp dop_fdiv fun x y S Q h => by
  unfold mDiv at h
  split at h
  · exact ⟨_, _, rfl, rfl, h.1, h.2⟩
  · exact h.elim
def mMod : R2D := fun x y S Q => match x, y with
  | .int i, .int j => 0 < j ∧ Q (.int (i % j)) S
  | _, _ => False
theorem dm_mod : DOp X (binaryOp .Mod) mMod := DOp_imp dop_mod fun x y S Q h => by
  unfold mMod at h
  split at h
  · exact ⟨_, _, rfl, rfl, h.1, h.2⟩
  · exact h.elim
def mPow : R2D := fun x y S Q => match x, y with
  | .int i, .int j => CPow i j ∧ Q (.int (i ^ j.toNat)) S
  | _, _ => False
theorem dm_pow : DOp X (binaryOp .Pow) mPow := DOp_imp dop_pow fun x y S Q h => by
  unfold mPow at h
  split at h
  · exact ⟨_, _, rfl, rfl, h.1, h.2⟩
  · exact h.elim
def mCmp (f : Int → Int → Bool) : R2D := fun x y S Q => match x, y with
  | .int i, .int j => Q (.bl (f i j)) S
  | _, _ => False
theorem mCmp_of {f : Int → Int → Bool} {g : Value → Value → Sem Value} (h0 : DOp X g (rIi fun i j => .bl (f i j))) : DOp X g (mCmp f) := DOp_imp h0 fun x y S Q h => by
  unfold mCmp at h
  split at h
  · exact ⟨_, _, rfl, rfl, h⟩
  · exact h.elim
def mLt : R2D := mCmp fun i j => decide (i < j)
def mLe : R2D := mCmp fun i j => decide (i ≤ j)
def mGt : R2D := mCmp fun i j => decide (j < i)
def mGe : R2D := mCmp fun i j => decide (j ≤ i)
theorem dm_lt : DOp X (compareOp .Lt) mLt := mCmp_of dop_lt
theorem dm_le : DOp X (compareOp .LtE) mLe := mCmp_of dop_le
theorem dm_gt : DOp X (compareOp .Gt) mGt := mCmp_of dop_gt
theorem dm_ge : DOp X (compareOp .GtE) mGe := mCmp_of dop_ge
mutual
theorem py_plain : ∀ d : D, d.plain = true → d.py.plain = true
  | .non, _ => rfl
  | .bl _, _ => rfl
  | .int _, _ => rfl
  | .str _, _ => rfl
  | .ty _, h => nomatch h
  | .ref _, h => nomatch h
  | .tup ds, h => py_plainL ds h
  | .ilst ds, h => py_plainL ds h
  | .edic, h => nomatch h
theorem py_plainL : ∀ ds : List D, plainL ds = true → PyData.plainAll (pys ds) = true
  | [], _ => rfl
  | d :: ds, h => by
    have h' : (d.plain && plainL ds) = true := h
    rw [Bool.and_eq_true] at h'
    show (d.py.plain && PyData.plainAll (pys ds)) = true
    rw [py_plain d h'.1, py_plainL ds h'.2]
    rfl
end
def mEqP (neg : Bool) : R2D := fun x y S Q => x.plain = true ∧ y.plain = true ∧ min x.py.depth y.py.depth ≤ 60 ∧ Q (.bl (if neg then !PyData.eqv x.py y.py else PyData.eqv x.py y.py)) S
theorem dop_eqP (hu : X.A.units + 64 < cLine) : DOp X (compareOp .Eq) (mEqP false) := by
  intro pins s σ H x y v u Q I rx ry ⟨d, e, S, Q0, d1, d2, rS, ⟨p1, p2, hd, q⟩, k⟩
  obtain ⟨as, r1⟩ := Dp.reads I d.py x v (Den.dp d x d1 p1) rx
  obtain ⟨bs, r2⟩ := Dp.reads I e.py y u (Den.dp e y d2 p2) ry
  exact PySem.SeqAt.eq_plain r1 r2 (py_plain d p1) (py_plain e p2) (by omega) ⟨.bl _, H, I, rfl, k _ S _ H q rfl rS Frame.refl⟩
theorem dop_neP (hu : X.A.units + 64 < cLine) : DOp X (compareOp .NotEq) (mEqP true) := by
  intro pins s σ H x y v u Q I rx ry ⟨d, e, S, Q0, d1, d2, rS, ⟨p1, p2, hd, q⟩, k⟩
  obtain ⟨as, r1⟩ := Dp.reads I d.py x v (Den.dp d x d1 p1) rx
  obtain ⟨bs, r2⟩ := Dp.reads I e.py y u (Den.dp e y d2 p2) ry
  exact PySem.SeqAt.ne_plain r1 r2 (py_plain d p1) (py_plain e p2) (by omega) ⟨.bl _, H, I, rfl, k _ S _ H q rfl rS Frame.refl⟩
/-- == and !=: texts and ints at once, else as plain data -/
def mEq (neg : Bool) : R2D := fun x y S Q => match x, y with
  | .str a, .str b => Q (.bl (if neg then !decide (a = b) else decide (a = b))) S
  | .int a, .int b => Q (.bl (if neg then !decide (a = b) else decide (a = b))) S
  | x, y => mEqP neg x y S Q
theorem mEq_split {neg : Bool} {x y : D} {S : SD} {Q : DK} (h : mEq neg x y S Q) : rEqS neg x y S Q ∨ mEqP neg x y S Q := by
  unfold mEq at h
  split at h
  · exact .inl ⟨_, _, rfl, rfl, h⟩
  · refine .inr ⟨rfl, rfl, Nat.zero_le _, ?_⟩
    have e : ∀ a b : Int, PyData.eqv (D.int a).py (D.int b).py = decide (a = b) := fun a b => by
      simp only [D.py, PyData.eqv]
      exact (Bool.beq_eq_decide_eq a b)
    rw [e]
    exact h
  · exact .inr h
theorem dm_eq (hu : X.A.units + 64 < cLine) : DOp X (compareOp .Eq) (mEq false) := DOp_imp (OpR_or dop_eqS (dop_eqP hu)) fun _ _ _ _ => mEq_split
theorem dm_ne (hu : X.A.units + 64 < cLine) : DOp X (compareOp .NotEq) (mEq true) := DOp_imp (OpR_or dop_neS (dop_neP hu)) fun _ _ _ _ => mEq_split
/-- in, not in -/
def mIn (neg : Bool) : R2D := fun x y S Q => match y with
  | .tup ds => flatD x = true ∧ ds.all flatD = true ∧ Q (.bl (if neg then !inD x ds else inD x ds)) S
  | .ilst ds => flatD x = true ∧ ds.all flatD = true ∧ Q (.bl (if neg then !inD x ds else inD x ds)) S
  | .ref p => (∃ ds, S p = some (.lst ds) ∧ flatD x = true ∧ ds.all flatD = true ∧ Q (.bl (if neg then !inD x ds else inD x ds)) S) ∨
      ∃ kvs k, S p = some (.dic kvs) ∧ x = keyD k ∧ Q (.bl (if neg then !(valD kvs k).isSome else (valD kvs k).isSome)) S
  | _ => False
theorem mIn_split {neg : Bool} {x y : D} {S : SD} {Q : DK} (h : mIn neg x y S Q) : DL.rInD neg x y S Q ∨ rInDic neg x y S Q := by
  unfold mIn at h
  split at h
  · exact .inl ⟨_, .inl rfl, h⟩
  · exact .inl ⟨_, .inr (.inl rfl), h⟩
  · rcases h with ⟨ds, hp, h⟩ | ⟨kvs, k, hp, hx, h⟩
    · exact .inl ⟨ds, .inr (.inr ⟨_, rfl, hp⟩), h⟩
    · exact .inr ⟨_, kvs, k, rfl, hp, hx, h⟩
  · exact h.elim
theorem dm_in (hu : X.A.units + 1 < cLine) : DOp X (compareOp .In) (mIn false) := DOp_imp (OpR_or dop_in (dop_inDic hu)) fun _ _ _ _ => mIn_split
theorem dm_notIn (hu : X.A.units + 1 < cLine) : DOp X (compareOp .NotIn) (mIn true) := DOp_imp (OpR_or dop_notIn (dop_notInDic hu)) fun _ _ _ _ => mIn_split
/-- xs == [], xs != [] -/
def dNilL (neg : Bool) (te : DTE) : DTE := fun ε S Q => te ε S fun x S1 => ∃ p ds, x = .ref p ∧ S1 p = some (.lst ds) ∧ Q (.bl (if neg then !ds.isEmpty else ds.isEmpty)) S1
def rNilL (K : PySem.W.Frag) (neg : Bool) : R2 := fun x y H Q => ∃ a c xs, x = .ref a ∧ y = .ref c ∧ SqL K H a xs ∧ SqL K H c [] ∧ Q (.bl (if neg then !xs.isEmpty else xs.isEmpty)) H
theorem op_nilE (hu : X.A.units + 1 < cLine) : OpR X (compareOp .Eq) (rNilL X.K false) := by
  intro pins s σ H x y v u Q I rx ry ⟨a, c, xs, e1, e2, h1, h2, q⟩
  subst e1 e2
  cases rx
  cases ry
  obtain ⟨its, r, p, _⟩ := I.list h1
  obtain ⟨its2, r2, p2, _⟩ := I.list h2
  cases r2
  have hl := r.length
  cases xs with
  | nil =>
    cases r
    exact PySem.SeqAt.eq_listAt (e := fun _ => true) p.isList p2.isList rfl (by omega) (fun j h => absurd h (by simp)) ⟨.bl true, H, I, rfl, q⟩
  | cons z zs =>
    refine PySem.SeqAt.eq_list_lengthsAt p.isList p2.isList ?_ (by omega) ⟨.bl false, H, I, rfl, q⟩
    rw [List.size_toArray, ← hl, List.length_cons]
    simp
theorem op_nilN (hu : X.A.units + 1 < cLine) : OpR X (compareOp .NotEq) (rNilL X.K true) := by
  intro pins s σ H x y v u Q I rx ry ⟨a, c, xs, e1, e2, h1, h2, q⟩
  subst e1 e2
  cases rx
  cases ry
  obtain ⟨its, r, p, _⟩ := I.list h1
  obtain ⟨its2, r2, p2, _⟩ := I.list h2
  cases r2
  have hl := r.length
  cases xs with
  | nil =>
    cases r
    exact PySem.SeqAt.RcNeAt.lists (e := fun _ => true) p.isList p2.isList rfl (by omega) (fun j h => absurd h (by simp)) _ _ _ _ ⟨.bl false, H, I, rfl, q⟩
  | cons z zs =>
    refine PySem.SeqAt.RcNeAt.lists_lengths p.isList p2.isList ?_ (by omega) _ _ _ _ ⟨.bl true, H, I, rfl, q⟩
    rw [List.size_toArray, ← hl, List.length_cons]
    simp
theorem isEmpty_den {K : PySem.W.Frag} {H : Hp} {ds : List D} {vs : List V} (h : DenL K H ds vs) : vs.isEmpty = ds.isEmpty := by
  cases ds with
  | nil => cases h.nil_eq; rfl
  | cons d ds => obtain ⟨v, w, rfl, _, _⟩ := h.uncons; rfl
theorem nil_lift {K : PySem.W.Frag} {neg : Bool} {σ : L2.St} {H : Hp} {Q : VK} (h : liftE K (dNilL neg ta) σ H Q) : tOp (rNilL K neg) (liftE K ta) (tLst tNil) σ H Q := by
  obtain ⟨ε, S, Q0, rE, rS, q, k⟩ := h
  refine ⟨ε, S, _, rE, rS, q, fun d S1 v H1 ⟨p, ds, e1, hp, q1⟩ den rS1 f1 => ?_⟩
  subst e1
  cases (show v = .ref p from den)
  obtain ⟨vs, h1, h2⟩ := rS1.lst hp
  refine ⟨Nat.zero_le _, fun c hc => ?_⟩
  have ne : p ≠ c := ne_of_none h1 hc
  refine ⟨p, c, vs, rfl, rfl, SqL.of (by rw [upd_ne ne]; exact h1), SqL.of upd_same, ?_⟩
  rw [isEmpty_den h2]
  exact k _ S1 _ _ q1 rfl (rS1.frame_new hc) (f1.trans (frame_new hc))
theorem de_nilE (hu : X.A.units + 1 < cLine) {p1 : Pos} (ha : DE X a ta) (hm : behindInMarks .Eq (.List [] p1) = false := by first | exact nomark _ | with_unfolding_all rfl) : DE X (.Compare a [.Eq] [.List [] p1] pos) (dNilL false ta) :=
  PE_imp (pe_cmpR (op_nilE hu) ha (pe_lst pa_nil) hm) fun _ _ _ => nil_lift
theorem de_nilN (hu : X.A.units + 1 < cLine) {p1 : Pos} (ha : DE X a ta) (hm : behindInMarks .NotEq (.List [] p1) = false := by first | exact nomark _ | with_unfolding_all rfl) : DE X (.Compare a [.NotEq] [.List [] p1] pos) (dNilL true ta) :=
  PE_imp (pe_cmpR (op_nilN hu) ha (pe_lst pa_nil) hm) fun _ _ _ => nil_lift
theorem dt_nilE (hu : X.A.units + 1 < cLine) {p1 : Pos} (ha : DE X a ta) (hm : behindInMarks .Eq (.List [] p1) = false := by first | exact nomark _ | with_unfolding_all rfl) : DT X (.Compare a [.Eq] [.List [] p1] pos) (dB (dNilL false ta)) :=
  PT_imp (pt_cmpR (op_nilE hu) ha (pe_lst pa_nil) hm) (dB_lift fun _ _ _ => nil_lift)
theorem dt_nilN (hu : X.A.units + 1 < cLine) {p1 : Pos} (ha : DE X a ta) (hm : behindInMarks .NotEq (.List [] p1) = false := by first | exact nomark _ | with_unfolding_all rfl) : DT X (.Compare a [.NotEq] [.List [] p1] pos) (dB (dNilL true ta)) :=
  PT_imp (pt_cmpR (op_nilN hu) ha (pe_lst pa_nil) hm) (dB_lift fun _ _ _ => nil_lift)
def mCountT : RMD := fun x xs S Q => ∃ ds d, x = .tup ds ∧ xs = [d] ∧ plainL ds = true ∧ d.plain = true ∧ d.py.depth ≤ 60 ∧ Q (.int ((pys ds).countP fun y => PyData.eqv y d.py : Nat)) S
theorem dm_count (hu : X.A.units + 64 < cLine) : DMt X "tuple.count" mCountT := by
  intro pins s σ H x xs v us Q I rx rv ⟨d, ds0, S, Q0, d1, d2, rS, ⟨ds, y, e1, e2, p1, p2, hd, q⟩, k⟩
  subst e1 e2
  obtain ⟨a, vs, rfl, hpl, hds⟩ := d1.untup
  obtain ⟨w, w2, rfl, d3, d4⟩ := d2.uncons
  cases d4.nil_eq
  obtain ⟨u, rfl, ru⟩ := rv.one
  cases rx
  obtain ⟨its, r, ht, _⟩ := I.tuple hpl.sq
  obtain ⟨as, r1⟩ := Dp.readsAll I (pys ds) vs its (DenL.dp ds vs hds p1) r
  obtain ⟨bs, r2⟩ := Dp.reads I y.py w u (Den.dp y w d3 p2) ru
  have hm : min (PyData.depthAll (pys ds)) y.py.depth ≤ y.py.depth := Nat.min_le_right _ _
  exact PySem.SeqAt.count_tuple_data ht (by simpa using r1) r2 (py_plainL ds p1) (py_plain y p2) (by omega) ⟨.int _, H, I.tok _, ⟨_, rfl⟩, k _ S _ H q rfl rS Frame.refl⟩
end

structure DC (P : Program) (w : World) (K : PySem.W.Frag) (mg : Str → Option Value) (base : Heap) (k : Nat) (x : Str) (ps : List Str) (sp : DSp) : Prop where
  ex : ∃ f fd, FnD P w K mg base k f fd ps sp ∧ mg x = some (.ref f) ∧ PySem.W.keepIn K (.ref f) = true ∧ Binds K fd ps []
theorem DC.up {P : Program} {w : World} {K : PySem.W.Frag} {mg : Str → Option Value} {base : Heap} {k j : Nat} {x : Str} {ps : List Str} {sp : DSp} (C : DC P w K mg base k x ps sp) (h : k ≤ j) : DC P w K mg base j x ps sp :=
  let ⟨f, fd, F, r⟩ := C.ex
  ⟨f, fd, F.mono h, r⟩
section
variable {X : Cx} {k : Nat} {ps : List Str} {sp : DSp} {x : Str} {p pos : Pos} {e : Expr} {es : List Expr} {ta : DTA}
/-- a call: what is asked there stands behind a gate -/
inductive Do (p : Prop) : Prop where
  | it (h : p)
  | go (h : p)
theorem Do.out {p : Prop} : Do p → p
  | .it h => h
  | .go h => h
def dDo (sp : DSp) (ta : DTA) : DTE := fun ε S Q => ta ε S fun ds S1 => Do (sp ds S1 Q)
theorem de_callC (C : DC X.prog X.w X.K X.mg X.base k x ps sp) (hr : RoomG k X.A) (hg : Gl X x) (ha : DA X (e :: es) ta)
    (hdb : (x == ("__debug__" : Str)) = false := by decide) (he : starEach (e :: es) X.env = (false, eval e X.env) :: starEach es X.env := by rfl) (hpl : (backTo pos (starEach es X.env)).any (·.1) = false := by rfl) :
    DE X (.Call (.Name x p) (e :: es) [] pos) (dDo sp ta) := by
  obtain ⟨f, fd, F, hm, hk, hb⟩ := C.ex
  exact de_call (F.imp (sp' := fun ds S Q => Do (sp ds S Q)) fun _ _ _ h => h.out) hr hg hm hk hb ha hdb he hpl
end
/-- the built-ins that stand as they are -/
def bltNames : List String := ["len", "range", "int", "tuple", "list", "dict", "min", "max", "enumerate", "repr", "isinstance", "all", "any", "sum", "sorted", "zip", "reversed", "str", "bool", "set"]
structure BI (mg : Str → Option Value) : Prop where
  all : ∀ x ∈ bltNames, mg (Str.ofString x) = none

theorem forL_inv {chk : SD → Prop} {f : D → DTS} {D : DEnds} (J : List DL.D → ED → SD → Prop) (h0 : ∀ ε S, J [] ε S → chk S ∧ D.nx ε S)
    (h1 : ∀ x xs (N : ED → SD → Prop) ε S, (∀ ε S, J xs ε S → N ε S) → J (x :: xs) ε S → chk S ∧ f x { D with nx := N, ct := N, bk := D.nx } ε S) : ∀ ds ε S, J ds ε S → forL chk f ds D ε S
  | [], ε, S, h => h0 ε S h
  | x :: xs, ε, S, h => h1 x xs _ ε S (fun ε' S' h' => forL_inv J h0 h1 xs ε' S' h') h
theorem lcL_inv {chk : SD → Prop} {g : DTG} {tt : DTT} {te : DTE} {vs : List Nat} {ε : ED} {Q : List D → SD → Prop} (J : List D → List D → SD → Prop) (h0 : ∀ acc S, J [] acc S → chk S ∧ Q acc S)
    (h1 : ∀ x xs acc (N : List D → SD → Prop) S, (∀ acc S, J xs acc S → N acc S) → J (x :: xs) acc S → chk S ∧ g x (wipeD ε vs) S fun ε' S' => tt ε' S' fun b S2 => if b = true then te ε' S2 fun y S3 => N (acc ++ [y]) S3 else N acc S2) :
    ∀ ds acc S, J ds acc S → lcL chk g tt te vs ds acc ε S Q
  | [], acc, S, h => h0 acc S h
  | x :: xs, acc, S, h => h1 x xs acc (fun acc' S' => lcL chk g tt te vs xs acc' ε S' Q) S (fun acc' S' h' => lcL_inv J h0 h1 xs acc' S' h') h

def Ext (ks : List Addr) (S S' : SD) : Prop := ∀ q c, q ∉ ks → S q = some c → S' q = some c
theorem Ext.refl {ks : List Addr} {S : SD} : Ext ks S S := fun _ _ _ h => h
theorem Ext.at {ks : List Addr} {S S' : SD} {q : Addr} {c : Cell} (e : Ext ks S S') (h : S q = some c) (hq : q ∉ ks) : S' q = some c := e q c hq h
theorem Ext.trans {ks ks' : List Addr} {S S1 S2 : SD} (a : Ext ks S S1) (b : Ext ks' S1 S2) (h : ∀ q ∈ ks', q ∈ ks ∨ S q = none) : Ext ks S S2 := fun q c hq hc => by
  refine b q c (fun z => ?_) (a q c hq hc)
  rcases h q z with y | y
  · exact hq y
  · rw [hc] at y; cases y
theorem Ext.put {ks : List Addr} {S S1 : SD} {p : Addr} {c : Cell} (a : Ext ks S S1) (h : p ∈ ks ∨ S p = none) : Ext ks S (put S1 p c) := fun q x hq hx => by
  have ne : q ≠ p := by
    rintro rfl
    rcases h with y | y
    · exact hq y
    · rw [hx] at y; cases y
  rw [put_ne ne]
  exact a q x hq hx
theorem Ext.none {ks : List Addr} {S S1 : SD} {p : Addr} (a : Ext ks S S1) (h : S1 p = .none) (hp : p ∉ ks) : S p = .none := by
  cases e : S p with
  | none => rfl
  | some c =>
    rw [a p c hp e] at h
    cases h
theorem ne_at {S : SD} {p q : Addr} {c : Cell} (h : S p = some c) (g : S q = none) : p ≠ q := by
  rintro rfl
  rw [h] at g
  cases g
end DL

namespace DL
open PySem PySem.Spec PyProof.Rows L2
variable [Amb]

section
variable {X : Cx} {pos : Pos}
def dPar2 (i j : Nat) (ta : DTA) : DTS := fun D ε S => ta ε S fun ds S1 => ∃ v w, ds = [v, w] ∧ D.nx ((ε.set i (some v)).set j (some w)) S1
theorem ds_par2 {i j : Nat} {x y : Str} {a b : Expr} {ta : DTA} {px py pt : Pos} {kt k2 pt2} (hc : X.calm = true) (hN : X.N.Nodup) (ha : DA X [a, b] ta) (hi : X.N[i]? = some x := by rfl) (hj : X.N[j]? = some y := by rfl) (hij : i ≠ j := by decide)
    (hx : X.env.scope.names.lookup x = some .local := by rfl) (hy : X.env.scope.names.lookup y = some .local := by rfl)
    (hw : swappedStores [.Tuple [.Name x px, .Name y py] kt pt] (.Tuple [a, b] k2 pt2) X.env = pure (some [x, y]) := by rfl)
    (hs : swapsWithSole [.Tuple [.Name x px, .Name y py] kt pt] (.Tuple [a, b] k2 pt2) pos.line X.env = pure false := by rfl) :
    DS X (.Assign [.Tuple [.Name x px, .Name y py] kt pt] (.Tuple [a, b] k2 pt2) pos) (dPar2 i j ta) :=
  PS_imp (ps_par hc hN hi hj hij hx hy ha hw hs) fun D σ H ⟨ε, S, D0, rE, rS, q, k⟩ => ⟨ε, S, _, rE, rS, q, fun ds S1 vs H1 q1 den rS1 f1 => by
    obtain ⟨d, e, e1, q2⟩ := q1
    subst e1
    obtain ⟨v, w, rfl, d1, d2⟩ := den2 den
    exact ⟨v, w, rfl, k.nx _ S1 _ H1 q2 (((rE.frame rS f1).set i d1).set j d2) rS1 f1⟩⟩
def dPar3 (i j l : Nat) (ta : DTA) : DTS := fun D ε S => ta ε S fun ds S1 => ∃ u v w, ds = [u, v, w] ∧ D.nx (((ε.set i (some u)).set j (some v)).set l (some w)) S1
theorem ds_par3 {i j l : Nat} {x y z : Str} {a b c : Expr} {ta : DTA} {px py pz pt : Pos} {kt k2 pt2} (hc : X.calm = true) (hN : X.N.Nodup) (ha : DA X [a, b, c] ta) (hi : X.N[i]? = some x := by rfl) (hj : X.N[j]? = some y := by rfl) (hl : X.N[l]? = some z := by rfl)
    (hij : i ≠ j := by decide) (hil : i ≠ l := by decide) (hjl : j ≠ l := by decide)
    (hx : X.env.scope.names.lookup x = some .local := by rfl) (hy : X.env.scope.names.lookup y = some .local := by rfl) (hz : X.env.scope.names.lookup z = some .local := by rfl)
    (hw : swappedStores [.Tuple [.Name x px, .Name y py, .Name z pz] kt pt] (.Tuple [a, b, c] k2 pt2) X.env = pure (some [x, y, z]) := by rfl)
    (hs : swapsWithSole [.Tuple [.Name x px, .Name y py, .Name z pz] kt pt] (.Tuple [a, b, c] k2 pt2) pos.line X.env = pure false := by rfl) :
    DS X (.Assign [.Tuple [.Name x px, .Name y py, .Name z pz] kt pt] (.Tuple [a, b, c] k2 pt2) pos) (dPar3 i j l ta) :=
  PS_imp (ps_par3 hc hN hi hj hl hij hil hjl hx hy hz ha hw hs) fun D σ H ⟨ε, S, D0, rE, rS, q, k⟩ => ⟨ε, S, _, rE, rS, q, fun ds S1 vs H1 q1 den rS1 f1 => by
    obtain ⟨d, e, g, e1, q2⟩ := q1
    subst e1
    obtain ⟨u, r, rfl, d1, d2⟩ := den.uncons
    obtain ⟨v, w, rfl, d3, d4⟩ := den2 d2
    exact ⟨u, v, w, rfl, k.nx _ S1 _ H1 q2 ((((rE.frame rS f1).set i d1).set j d3).set l d4) rS1 f1⟩⟩
end
/-- a def that is never called -/
theorem DC.no {P : Program} {w : World} {K : PySem.W.Frag} {mg : Str → Option Value} {base : Heap} {f : Addr} {fd : FuncData} {x : Str} {ps : List Str} (g : mg x = some (.ref f)) (kp : PySem.W.keepIn K (.ref f) = true) (bd : Binds K fd ps []) (k : Nat) :
    DC P w K mg base k x ps (fun _ _ _ => False) :=
  ⟨f, fd, ⟨fun _ _ _ _ ⟨_, _, _, _, _, h, _⟩ => h.elim, fun _ _ _ _ _ _ _ _ _ _ _ _ _ ⟨_, _, _, _, _, h, _⟩ => h.elim⟩, g, kp, bd⟩
theorem DC.imp {P : Program} {w : World} {K : PySem.W.Frag} {mg : Str → Option Value} {base : Heap} {k : Nat} {x : Str} {ps : List Str} {sp sp' : DSp} (C : DC P w K mg base k x ps sp) (h : ∀ ds S Q, sp' ds S Q → sp ds S Q) : DC P w K mg base k x ps sp' :=
  let ⟨f, fd, F, r⟩ := C.ex
  ⟨f, fd, F.imp h, r⟩

theorem Ext.new {S : SD} {p : Addr} {c : Cell} (h : S p = .none) : Ext [] S (DL.put S p c) := Ext.refl.put (.inr h)
theorem forL_at {chk : SD → Prop} {f : D → DTS} {D : DEnds} (J : Nat → ED → SD → Prop) {ds : List DL.D} (h0 : ∀ ε S, J ds.length ε S → chk S ∧ D.nx ε S)
    (h1 : ∀ j x (N : ED → SD → Prop) ε S, ds[j]? = some x → (∀ ε S, J (j + 1) ε S → N ε S) → J j ε S → chk S ∧ f x { D with nx := N, ct := N, bk := D.nx } ε S) {ε : ED} {S : SD} (h : J 0 ε S) : forL chk f ds D ε S := by
  refine forL_inv (fun xs ε S => ∃ j, j ≤ ds.length ∧ xs = ds.drop j ∧ J j ε S) (fun ε S hJ => ?_) (fun x xs N ε S hN hJ => ?_) ds ε S ⟨0, Nat.zero_le _, rfl, h⟩
  · obtain ⟨j, hj, e, hJ⟩ := hJ
    have : j = ds.length := by
      have := congrArg List.length e
      rw [List.length_nil, List.length_drop] at this
      omega
    subst this
    exact h0 ε S hJ
  · obtain ⟨j, hj, e, hJ⟩ := hJ
    have hlt : j < ds.length := by
      have := congrArg List.length e
      rw [List.length_cons, List.length_drop] at this
      omega
    rw [List.drop_eq_getElem_cons hlt] at e
    obtain ⟨e1, e2⟩ := List.cons.inj e
    exact h1 j x N ε S (by rw [e1]; exact List.getElem?_eq_getElem hlt) (fun ε' S' h' => hN ε' S' ⟨j + 1, hlt, e2, h'⟩) hJ
theorem lcL_at {chk : SD → Prop} {g : DTG} {tt : DTT} {te : DTE} {vs : List Nat} {ε : ED} {Q : List D → SD → Prop} (J : Nat → List D → SD → Prop) {ds : List D} (h0 : ∀ acc S, J ds.length acc S → chk S ∧ Q acc S)
    (h1 : ∀ j x acc (N : List D → SD → Prop) S, ds[j]? = some x → (∀ acc S, J (j + 1) acc S → N acc S) → J j acc S → chk S ∧ g x (wipeD ε vs) S fun ε' S' => tt ε' S' fun b S2 => if b = true then te ε' S2 fun y S3 => N (acc ++ [y]) S3 else N acc S2)
    {S : SD} (h : J 0 [] S) : lcL chk g tt te vs ds [] ε S Q := by
  refine lcL_inv (fun xs acc S => ∃ j, j ≤ ds.length ∧ xs = ds.drop j ∧ J j acc S) (fun acc S hJ => ?_) (fun x xs acc N S hN hJ => ?_) ds [] S ⟨0, Nat.zero_le _, rfl, h⟩
  · obtain ⟨j, hj, e, hJ⟩ := hJ
    have : j = ds.length := by
      have := congrArg List.length e
      rw [List.length_nil, List.length_drop] at this
      omega
    subst this
    exact h0 acc S hJ
  · obtain ⟨j, hj, e, hJ⟩ := hJ
    have hlt : j < ds.length := by
      have := congrArg List.length e
      rw [List.length_cons, List.length_drop] at this
      omega
    rw [List.drop_eq_getElem_cons hlt] at e
    obtain ⟨e1, e2⟩ := List.cons.inj e
    exact h1 j x acc N S (by rw [e1]; exact List.getElem?_eq_getElem hlt) (fun acc' S' h' => hN acc' S' ⟨j + 1, hlt, e2, h'⟩) hJ
theorem intsFrom_get {n j : Nat} {x : D} (h : (intsFrom 0 n)[j]? = some x) : x = .int (j : Nat) ∧ j < n := by
  have hl : j < n := by
    obtain ⟨q, _⟩ := List.getElem?_eq_some_iff.mp h
    rwa [intsFrom_length] at q
  unfold intsFrom at h
  rw [List.getElem?_map, List.getElem?_range hl] at h
  have e : x = .int (0 + ((j : Nat) : Int)) := (Option.some.inj h).symm
  rw [Int.zero_add] at e
  exact ⟨e, hl⟩
/-- a comprehension that only tells each item anew -/
theorem lcL_map {chk : SD → Prop} {g : DTG} {tt : DTT} {te : DTE} {vs : List Nat} {ε : ED} {S : SD} {Q : List D → SD → Prop} (keep : D → Bool) (fn : D → D) (hchk : chk S)
    : ∀ (ds acc : List D), (∀ x ∈ ds, ∀ (N : List D → SD → Prop) acc', (if keep x = true then N (acc' ++ [fn x]) S else N acc' S) → g x (wipeD ε vs) S fun ε' S' => tt ε' S' fun b S2 => if b = true then te ε' S2 fun y S3 => N (acc' ++ [y]) S3 else N acc' S2) →
      Q (acc ++ (ds.filter keep).map fn) S → lcL chk g tt te vs ds acc ε S Q
  | [], acc, _, hq => ⟨hchk, by simpa using hq⟩
  | x :: ds, acc, h, hq => by
    refine ⟨hchk, h x List.mem_cons_self (fun acc' S' => lcL chk g tt te vs ds acc' ε S' Q) acc ?_⟩
    have h' := fun y hy => h y (List.mem_cons_of_mem _ hy)
    by_cases hk : keep x = true
    · rw [if_pos hk]
      exact lcL_map keep fn hchk ds _ h' (by simpa [List.filter_cons, hk] using hq)
    · rw [if_neg hk]
      exact lcL_map keep fn hchk ds _ h' (by simpa [List.filter_cons, hk] using hq)
end DL

namespace DL
open PySem PySem.Spec PyProof.Rows L2 NdefX LamX
variable [Amb]

theorem PlT.un {K : PySem.W.Frag} {fs ex : List Addr} {H H' : Hp} {h h' : Heap} (u : Un fs ex H H' h h') {a : Addr} {vs : List V} (p : PlT K H a vs) : PlT K H' a vs := by
  rcases p with ⟨o, p, q⟩ | q
  · exact .inl ⟨o, p, u.frzs a o _ q⟩
  · exact .inr q
theorem StL.un {K : PySem.W.Frag} {fs ex : List Addr} {H H' : Hp} {h h' : Heap} (u : Un fs ex H H' h h') {a : Addr} {vs : List V} (p : StL K H a vs) : StL K H' a vs := by
  rcases p with ⟨o, q⟩ | q
  · exact .inl ⟨o, u.frzs a o _ q⟩
  · exact .inr q
mutual
theorem Den.un {K : PySem.W.Frag} {fs ex : List Addr} {H H' : Hp} {h h' : Heap} (u : Un fs ex H H' h h') : ∀ (d : D) (v : V), Den K H d v → Den K H' d v
  | .non, _, h => h
  | .bl _, _, h => h
  | .int _, _, h => h
  | .str _, _, h => h
  | .ty _, _, h => h
  | .ref _, _, h => h
  | .tup ds, v, h => by
    obtain ⟨a, vs, e, h1, h2⟩ := (show ∃ a vs, v = .ref a ∧ PlT K H a vs ∧ DenL K H ds vs from h)
    exact (show ∃ a vs, v = .ref a ∧ PlT K H' a vs ∧ DenL K H' ds vs from ⟨a, vs, e, h1.un u, DenL.un u ds vs h2⟩)
  | .ilst ds, v, h => by
    obtain ⟨a, vs, e, h1, h2⟩ := (show ∃ a vs, v = .ref a ∧ StL K H a vs ∧ DenL K H ds vs from h)
    exact (show ∃ a vs, v = .ref a ∧ StL K H' a vs ∧ DenL K H' ds vs from ⟨a, vs, e, h1.un u, DenL.un u ds vs h2⟩)
  | .edic, v, h => by
    obtain ⟨a, o, e, h1⟩ := (show ∃ a o, v = .ref a ∧ H a = some (.frz o (.dK [])) from h)
    exact (show ∃ a o, v = .ref a ∧ H' a = some (.frz o (.dK [])) from ⟨a, o, e, u.frzs a _ _ h1⟩)
theorem DenL.un {K : PySem.W.Frag} {fs ex : List Addr} {H H' : Hp} {h h' : Heap} (u : Un fs ex H H' h h') : ∀ (ds : List D) (vs : List V), DenL K H ds vs → DenL K H' ds vs
  | [], _, h => h
  | d :: ds, vs, h => by
    obtain ⟨v, w, e, h1, h2⟩ := (show ∃ v r, vs = v :: r ∧ Den K H d v ∧ DenL K H ds r from h)
    exact (show ∃ v r, vs = v :: r ∧ Den K H' d v ∧ DenL K H' ds r from ⟨v, w, e, Den.un u d v h1, DenL.un u ds w h2⟩)
end
/-- F at f, ds in the cells that it captured -/
structure NFn (P : Program) (w : World) (K : PySem.W.Frag) (mg : Str → Option Value) (base : Heap) (k : Nat) (f : Addr) (F : FK) (fr : List Str) (cs : List D) (sp : DSp) : Prop where
  run : ∀ (A : Around) (outer : List Env) (s : Shared) (H : Hp) (us : List Value) (vs ws : List V) (Q : VK) (E : XK), RoomG k A → Env0 P w K mg base A outer s H → H f = some (F.o f) → H F.c = some (CodeO F.c F.qual) → DenL K H cs ws →
    CellsAt F.cl fr (ws.map some) s.heap H → Vals vs us → liftSp K sp vs H Q E → codeAny (model P w) A (.call (.ref f) ⟨us, []⟩) (CR CX0 outer P w H s Q E) s
/-- the values of its names at the entry -/
def startN (N : List Str) (ds cs : List D) : ED := ds.map some ++ (cs.map some ++ List.replicate (N.length - ds.length - cs.length) none)
theorem rel_startN {K : PySem.W.Frag} {H : Hp} {N : List Str} {ds cs : List D} {vs ws : List V} (h : DenL K H ds vs) (g : DenL K H cs ws) : RelE K H (startF N vs (ws.map some)) (startN N ds cs) := by
  have h1 := h.length
  have h2 := g.length
  refine ⟨?_, fun i d hi => ?_⟩
  · unfold startF startN
    simp only [List.length_append, List.length_map, List.length_replicate, h1, h2]
  · unfold startN at hi
    unfold startF
    by_cases hk : i < ds.length
    · rw [List.getElem?_append_left (by simpa using hk), List.getElem?_map] at hi
      obtain ⟨d', e1, e2⟩ := Option.map_eq_some_iff.mp hi
      cases e2
      obtain ⟨v, e3, den⟩ := h.get e1
      refine ⟨v, ?_, den⟩
      rw [List.getElem?_append_left (by rw [List.length_map, h1]; exact hk), List.getElem?_map, e3]
      rfl
    · rw [List.getElem?_append_right (by rw [List.length_map]; omega), List.length_map] at hi
      rw [List.getElem?_append_right (by rw [List.length_map, h1]; omega)]
      by_cases hj : i - ds.length < cs.length
      · rw [List.getElem?_append_left (by simpa using hj), List.getElem?_map] at hi
        obtain ⟨d', e1, e2⟩ := Option.map_eq_some_iff.mp hi
        cases e2
        obtain ⟨v, e3, den⟩ := g.get e1
        refine ⟨v, ?_, den⟩
        have hl : i - (List.map some vs).length = i - ds.length := by rw [List.length_map, h1]
        rw [hl, List.getElem?_append_left (by rw [List.length_map, h2]; exact hj), List.getElem?_map, e3]
        rfl
      · rw [List.getElem?_append_right (by rw [List.length_map]; omega), List.getElem?_replicate] at hi
        split at hi <;> cases hi
section
variable {P : Program} {w : World} {K : PySem.W.Frag} {mg : Str → Option Value} {base : Heap}
/-- THE RULE: by its body -/
theorem nfn_of {N ps fr : List Str} {F : NF} {f : Addr} {k : Nat} {cs : List D} {sp : DSp} (S : NScope N ps fr F.scope) (hb : ∀ (doc pm ctv : Value) (us : List Value), us.length = ps.length → bindArgs (F.fd doc pm ctv) ⟨us, []⟩ = pure (ps.zip us))
    (len : ∀ ds S Q, sp ds S Q → ds.length = ps.length) (t : DTS)
    (hbody : ∀ (A : Around) (outer : List Env) (s : Shared) (H : Hp) (E : XK), RoomG k (A.deeper (envF F f s.heap.objs.size)) → DSs (ncx CX0 P w K mg base N F f A outer s H E).nox F.body t)
    (hsp : ∀ ds S Q, sp ds S Q → t (endsD Q) (startN N ds cs) S) : NFn P w K mg base (k + 1) f (FK.of F) fr cs sp := by
  refine ⟨fun A outer s H us vs ws Q E hr e0 hf hc hcs C r hsp' => ?_⟩
  obtain ⟨ds, S1, Q0, den, rS, c, wk⟩ := hsp'
  have hl : vs.length = ps.length := by rw [den.length]; exact len _ _ _ c
  have lim : s.heap.NoLimit := e0.mod.nolimit.keeps fun b o e => (e0.bs b o e).1
  obtain ⟨od, sl, doc, pm, ctv, ho⟩ := fnO_at e0.hok hf
  refine codeAny_call_function hr.r.depth ho rfl S.co S.gen rfl (codeO_at e0.hok hc) ?_
  rw [hb doc pm ctv us (by rw [← r.length]; exact hl)]
  refine wpAny_pure (wpAny_newFunctionEnv S.nocell (fun ⟨n, _⟩ hy => S.par n (List.of_mem_zip hy).1) (fun h₁ hns hsb => ⟨lim.fresh _ hsb, ?_⟩) S.kind)
  show codeAny _ _ (.func F.body (envF F f s.heap.objs.size)) _ _
  refine codeAny_func ?_
  have kp : ∀ b o, s.heap.get? b = some o → h₁.get? b = some o := fun b o e => hsb.extBut b o (Nat.ne_of_lt (Heap.lt_size e)) (Heap.get?_push_of_some _ e)
  have I : Inv (ncx CX0 P w K mg base N F f A outer s H E) [] (startF N vs (ws.map some)) H { s with heap := h₁, toks := s.toks + (ps.zip us).length } := inv_startN S hr.r.hd e0 hl r C hns kp
  have go : WkD K S1 H (endsD Q0) { nx := fun _ H' => Q .non H', rt := Q } := by
    refine ⟨fun ε' S' σ' H' q _ r f => ?_, fun d S' v H' q dd r f => ?_, fun _ _ _ _ q => q.elim, fun _ _ _ _ q => q.elim⟩
    · obtain ⟨S3, sub, q⟩ := q
      exact wk .non S3 .non H' q rfl (r.sub sub) (f.sub sub)
    · obtain ⟨S3, sub, q⟩ := q
      exact wk d S3 v H' q dd (r.sub sub) (f.sub sub)
  refine wpAny_mono ((PSs.nox (hbody A outer s H E (hr.deeper _))).run [] _ (startF N vs (ws.map some)) H _ I ⟨startN N ds cs, S1, endsD Q0, rel_startN den hcs, rS, hsp ds S1 Q0 c, go⟩) (fun fl s' hs => ?_) fun e s' hs => hs
  match fl, hs with
  | .ret u, ⟨v, σ', H', J, rv, q⟩ => exact ⟨v, H', J.os, J.bare, J.base, J.hok, rv, q⟩
  | .next, ⟨σ', H', J, q⟩ => exact ⟨V.non, H', J.os, J.bare, J.base, J.hok, rfl, q⟩
  | .brk, ⟨_, _, _, q⟩ => exact q.elim
  | .cont, ⟨_, _, _, q⟩ => exact q.elim
end
/-- what a frame knows of a function that it got: the promise, and that the captured cells stand -/
structure CbX (X : Cx) (k : Nat) (a : Addr) (F : FK) (sp : DSp) : Prop where
  ex : ∃ (fr : List Str) (cs : List D) (ws : List V), NFn X.prog X.w X.K X.mg X.base k a F fr cs sp ∧ DenL X.K X.H_0 cs ws ∧ CellsAt F.cl fr (ws.map some) X.s_0.heap X.H_0 ∧ (∀ y c, F.cl.lookup y = some c → c ∉ X.fs) ∧ ∀ y c, F.cl.lookup y = some c → c ∉ X.ex
def dCb (i : Nat) (CB : Addr → FK → Prop) (sp : DSp) (ta : DTA) : DTE := fun ε S Q => ∃ a F, ε[i]? = some (some (.ref a)) ∧ S a = some (.fn F) ∧ ta ε S fun ds S1 => ∃ F, S1 a = some (.fn F) ∧ CB a F ∧ sp ds S1 Q
theorem RelS.fn {K : PySem.W.Frag} {H : Hp} {S : SD} {a : Addr} {F : FK} (r : RelS K H S) (h : S a = some (.fn F)) : H a = some (F.o a) ∧ H F.c = some (CodeO F.c F.qual) := r.cell a _ h
theorem fk_at {X : Cx} {pins : List (Addr × Obj)} {σ : L2.St} {H : Hp} {s : Shared} {a : Addr} {F : FK} (I : Inv X pins σ H s) (e : H a = some (F.o a)) : PySem.W.FnAt a s.heap := by
  obtain ⟨z, _, _⟩ := I.hok a _ e
  exact F.at_ a _ z
theorem de_cb {X : Cx} {k i : Nat} {x : Str} {p pos : Pos} {e : Expr} {es : List Expr} {ta : DTA} {CB : Addr → FK → Prop} {sp : DSp} (hcb : ∀ a F, CB a F → CbX X k a F sp) (hr : RoomG k X.A) (ha : DA X (e :: es) ta)
    (hN : X.N[i]? = some x := by rfl) (hv : Vis X.env.scope x := by first | exact Or.inl rfl | exact Or.inr (Or.inl rfl) | exact Or.inr (Or.inr rfl)) (hd : (x == ("__debug__" : Str)) = false := by decide) (hcd : (x == ("__classdict__" : Str)) = false := by decide)
    (he : starEach (e :: es) X.env = (false, eval e X.env) :: starEach es X.env := by rfl) (hpl : (backTo pos (starEach es X.env)).any (·.1) = false := by rfl) :
    DE X (.Call (.Name x p) (e :: es) [] pos) (dCb i CB sp ta) := by
  refine ⟨fun pins s σ H Q I h => ?_⟩
  obtain ⟨ε, S, Q0, rE, rS, ⟨a, F, hi, hS, h⟩, wk⟩ := h
  obtain ⟨v0, hs, hv0⟩ := rE.2 i _ hi
  cases (show v0 = .ref a from hv0)
  refine wpAny_Call_Name_kw (thn ((pe_var (pos := p) hN hv hd hcd).run pins s σ H (fun v H1 => v = .ref a ∧ H1 = H) I ⟨.ref a, hs, rfl, rfl⟩) fun u s1 ⟨v, H1, I1, r1, q1⟩ => ?_)
  obtain ⟨ev, eH⟩ := q1
  subst ev
  rw [eH] at I1
  obtain rfl : u = Value.ref a := r1
  have args : ∀ pos' : Pos, wpAny _ _ _ _ _ _ := fun pos' => ha.run pos' pins s1 σ H (fun vs H2 => ∃ ds S2, DenL X.K H2 ds vs ∧ RelS X.K H2 S2 ∧ (∃ F, S2 a = some (.fn F) ∧ CB a F ∧ sp ds S2 Q0) ∧ WkE X.K S2 H2 Q0 Q) I1
    ⟨ε, S, _, rE, rS, h, fun ds S2 vs H2 q den r2 f2 => ⟨ds, S2, den, r2, q, wk.frame f2⟩⟩
  refine PySem.W.callWith_F (first := []) (fk_at I1 (rS.fn hS).1) (thn (args pos) fun us s2 ⟨vs, H2, I2, r, ds, S2, den, r2, ⟨F, hS2, hCB, hsp⟩, wk2⟩ => ⟨fk_at I2 (r2.fn hS2).1, ?_⟩) he hpl
  show wpAny _ _ (call (.ref a) us) _ _ _
  obtain ⟨fr, cs, ws, nf, hcs, cells, c1, c2⟩ := (hcb a F hCB).ex
  refine wpAny_call (codeAny_mono (nf.run X.A X.stack s2 H2 us vs ws Q (fun _ _ _ => False) hr I2.env0 (r2.fn hS2).1 (r2.fn hS2).2 (DenL.un I2.base cs ws hcs) (cells.later c1 c2 I2) r ⟨ds, S2, Q0, den, r2, hsp, wk2⟩) fun r s' hq => ?_)
  match r, hq with
  | .error e, hz => exact pass0 pins σ H2 s2 e s' I2 hz
  | .ok (.ret u), hz => exact I2.after hz
  | .ok .next, hz => exact hz.elim
  | .ok .brk, hz => exact hz.elim
  | .ok .cont, hz => exact hz.elim
end DL

namespace DL
open PySem PySem.Spec PyProof.Rows L2 NdefX LamX
variable [Amb]

theorem frame_ext {S : SD} {H H1 : Hp} (e : ExtN H H1) (t : ∀ b, H1 b = none → H b = none) : Frame S H S H1 := ⟨fun a o h q n => ⟨e a o q n, h⟩, t⟩
theorem CellOk.ext {K : PySem.W.Frag} {H H1 : Hp} {S : SD} {a : Addr} {c : Cell} (r : RelS K H S) (f : Frame S H S H1) (e : ExtN H H1) (h : CellOk K H a c) : CellOk K H1 a c := by
  cases c with
  | lst ds => obtain ⟨vs, e1, e2⟩ := h; exact ⟨vs, e a _ e1 (fun _ z => nomatch z), DenL.frame r f ds vs e2⟩
  | dic kvs => obtain ⟨kv, e1, e2⟩ := h; exact ⟨kv, e a _ e1 (fun _ z => nomatch z), KVD.frame r f e2⟩
  | sat p => obtain ⟨ds, vs, q, e1, e2⟩ := h; exact ⟨ds, vs, q, e a _ e1 (fun _ z => nomatch z), DenL.frame r f ds vs e2⟩
  | fn F => obtain ⟨e1, e2⟩ := h; exact ⟨e a _ e1 (fun _ z => nomatch z), e F.c _ e2 (fun _ z => nomatch z)⟩
/-- the slot i holds the new function -/
def dNdef (i : Nat) (mk : Addr → NF) : DTS := fun D ε S => ∀ f c', S f = none → D.nx (ε.set i (some (.ref f))) (put S f (.fn (FK.of (mk c'))))
theorem ds_ndef {X : Cx} {nm : Nat → Nat → Str} {c P : Addr} {name : Str} {params : Arguments} {body : List Stmt} {scope : Scope} {pos : Pos} {i : Nat} (TB : TabB X.base X.mg c P) (hcode : X.env.code = .ref c) (hm : (P, nm) ∈ Amb.tabs) (hn : nm pos.line pos.col = X.env.qual ++ name) (hu : ∀ p ∈ Amb.tabs, p.1 = P → p.2 = nm)
    (hfree : ∀ y ∈ scope.names, y.2 = .free → X.env.scope.names.lookup y.1 = some .cell ∨ X.env.scope.names.lookup y.1 = some .free) (hd0 : params.defaults = []) (hk0 : params.kw_defaults = []) (ha : annTrees params none X.env = [])
    (hN : X.N.Nodup) (hi : X.N[i]? = some name) (hx : Loc X.env.scope name) (hf : X.fn name = true ∨ X.env.scope.names.lookup name = some .local) :
    DS X (.FunctionDef name params body [] none [] scope none name pos) (dNdef i fun c' => ⟨name, X.env.qual ++ name, params, body, scope, cloFrom X.env.cells scope.names [], c'⟩) :=
  PS_imp (ps_ndefM (T := Amb.tabs) TB hcode hm hn hu hfree hd0 hk0 ha hN hi hx hf) fun D σ H ⟨ε, S, D0, rE, rS, q, wk⟩ => ⟨rS.tabs, fun f c' H1 eN there T1 hf hF hC => by
    have fr : Frame S H S H1 := frame_ext eN there
    refine wk.nx _ _ _ _ (q f c' (rS.free hf)) ((rE.frame rS fr).set i (v := .ref f) rfl) ⟨fun a x e => ?_, T1⟩ ⟨fun a o h e n => ⟨eN a o e n, by rw [put_ne (ne_of_none e hf)]; exact h⟩, there⟩
    by_cases hb : a = f
    · subst hb
      rw [put_same] at e
      cases e
      exact ⟨hF, hC⟩
    · rw [put_ne hb] at e
      exact (rS.cell a x e).ext rS fr eN⟩
/-- what is told of a function that is handed on -/
structure CbS (P : Program) (w : World) (K : PySem.W.Frag) (mg : Str → Option Value) (base : Heap) (k : Nat) (outer : List Env) (s : Shared) (H : Hp) (a : Addr) (F : FK) (sp : DSp) : Prop where
  ex : ∃ (fr : List Str) (cs : List D) (ws : List V), NFn P w K mg base k a F fr cs sp ∧ DenL K H cs ws ∧ CellsAt F.cl fr (ws.map some) s.heap H ∧ ∀ y c, F.cl.lookup y = some c → c ∉ frs outer
/-- its promise: two functions at a1, a2 -/
structure Fn2 (P : Program) (w : World) (K : PySem.W.Frag) (mg : Str → Option Value) (base : Heap) (k j : Nat) (f : Addr) (fd : FuncData) (ps : List Str) (s1 s2 : DSp) (sp : Addr → FK → Addr → FK → DSp) : Prop where
  len : ∀ a1 F1 a2 F2 ds S Q, sp a1 F1 a2 F2 ds S Q → ds.length = ps.length
  run : ∀ (A : Around) (outer : List Env) (s : Shared) (H : Hp) (args : Args) (us : List Value) (vs : List V) (Q : VK) (E : XK) (a1 a2 : Addr) (F1 F2 : FK), RoomG k A → Env0 P w K mg base A outer s H → BindsTo s fd args (ps.zip us) →
    Vals vs us → CbS P w K mg base j outer s H a1 F1 s1 → CbS P w K mg base j outer s H a2 F2 s2 → liftSp K (sp a1 F1 a2 F2) vs H Q E → codeAny (model P w) A (.call (.ref f) args) (CR CX0 outer P w H s Q E) s
section
variable {P : Program} {w : World} {K : PySem.W.Frag} {mg : Str → Option Value} {base : Heap}
theorem CbS.cbx {qual : Str} {scope : Scope} {f : Addr} {cdv : Value} {A : Around} {outer : List Env} {s : Shared} {H : Hp} {E : XK} {N : List Str} {j : Nat} {a : Addr} {F : FK} {sp : DSp} (c : CbS P w K mg base j outer s H a F sp) : CbX (cxOf CX0 P w K mg base N qual scope f cdv A outer s H E).nox j a F sp := by
  obtain ⟨fr, cs, ws, n, d, ca, nf⟩ := c.ex
  exact ⟨fr, cs, ws, n, d, ca, nf, fun y c _ z => nomatch z⟩
/-- THE RULE -/
theorem fn2_of {x qual : Str} {st : Stmt} {f : Addr} {fd : FuncData} {N ps : List Str} {k j : Nat} {s1 s2 : DSp} {sp : Addr → FK → Addr → FK → DSp} (F : Fun K x qual st f fd) (S : FnScope N ps (defScope st)) (len : ∀ a1 F1 a2 F2 ds S Q, sp a1 F1 a2 F2 ds S Q → ds.length = ps.length) (t : Addr → FK → Addr → FK → DTS)
    (hbody : ∀ (cdv : Value) (A : Around) (outer : List Env) (s : Shared) (H : Hp) (E : XK) (a1 a2 : Addr) (F1 F2 : FK), CbX (cxOf CX0 P w K mg base N qual (defScope st) f cdv A outer s H E).nox j a1 F1 s1 → CbX (cxOf CX0 P w K mg base N qual (defScope st) f cdv A outer s H E).nox j a2 F2 s2 →
      RoomG k (A.deeper (envOfC qual (defScope st) s.heap.objs.size f cdv)) → DSs (cxOf CX0 P w K mg base N qual (defScope st) f cdv A outer s H E).nox (defBody st) (t a1 F1 a2 F2))
    (hsp : ∀ a1 F1 a2 F2 ds S Q, sp a1 F1 a2 F2 ds S Q → t a1 F1 a2 F2 (endsD Q) (startD N ds) S) : Fn2 P w K mg base (k + 1) j f fd ps s1 s2 sp := by
  obtain ⟨oc, od, kV, doc, pm, an, cdv, ct, osl, rfl, lk, hcd⟩ := F.ex
  refine ⟨len, fun A outer s H args us vs Q E a1 a2 F1 F2 hr e0 hb r c1 c2 hsp' => ?_⟩
  obtain ⟨ds, S1, Q0, den, rS, c, wk⟩ := hsp'
  have ln : vs.length = ps.length := by rw [den.length]; exact len _ _ _ _ _ _ _ c
  have inK : K.In s.heap := e0.mod.kin.keeps fun b o q => (e0.bs b o q).1
  have lim : s.heap.NoLimit := e0.mod.nolimit.keeps fun b o q => (e0.bs b o q).1
  refine codeAny_call_function hr.r.depth (inK _ _ lk) rfl S.co S.gen rfl (PySem.W.codeRec_of inK hcd) (hb _ _ _ _ ?_)
  refine wpAny_newFunctionEnv_cells S.kind ?_ ?_
  · rintro ⟨n, v⟩ hy
    rcases S.par n (List.of_mem_zip hy).1 with q | q
    · exact .inl q
    · exact .inr ⟨q, PySem.W.cellsFrom_some _ _ _ (.inl q)⟩
  intro env he s1 x
  subst he
  refine ⟨lim.keeps x.toInCall.keep, codeAny_func ?_⟩
  have I := inv_start (CX := CX0) (E := E) (mg := mg) (base := base) S hr.r.hd e0 ln r x
  have go : WkD K S1 H (endsD Q0) { nx := fun _ H' => Q .non H', rt := Q } := by
    refine ⟨fun ε' S' σ' H' q _ r f => ?_, fun d S' v H' q dd r f => ?_, fun _ _ _ _ q => q.elim, fun _ _ _ _ q => q.elim⟩
    · obtain ⟨S3, sub, q⟩ := q
      exact wk .non S3 .non H' q rfl (r.sub sub) (f.sub sub)
    · obtain ⟨S3, sub, q⟩ := q
      exact wk d S3 v H' q dd (r.sub sub) (f.sub sub)
  refine wpAny_mono ((PSs.nox (hbody cdv A outer s H E a1 a2 F1 F2 c1.cbx c2.cbx (hr.deeper _))).run [] s1 (L2.start N vs) H _ I ⟨startD N ds, S1, endsD Q0, rel_start den, rS, hsp _ _ _ _ ds S1 Q0 c, go⟩) (fun fl s' hs => ?_) fun _ _ z => z
  match fl, hs with
  | .ret u, ⟨v, σ', H', J, rv, q⟩ => exact ⟨v, H', J.os, J.bare, J.base, J.hok, rv, q⟩
  | .next, ⟨σ', H', J, q⟩ => exact ⟨V.non, H', J.os, J.bare, J.base, J.hok, rfl, q⟩
  | .brk, ⟨_, _, _, q⟩ => exact q.elim
  | .cont, ⟨_, _, _, q⟩ => exact q.elim
end
end DL

namespace DL
open PySem PySem.Spec PyProof.Rows L2 NdefX LamX
variable [Amb]

/-- the captured slots hold cs -/
def Holds (js : List Nat) (ε : ED) (cs : List D) : Prop := js.map (fun j => ε[j]?) = cs.map fun d => some (some d)
theorem holds_vals {K : PySem.W.Frag} {H : Hp} {σ : L2.St} {ε : ED} (rE : RelE K H σ ε) : ∀ {js : List Nat} {cs : List D}, Holds js ε cs → ∃ ws : List V, js.map (slotAt σ) = ws.map some ∧ DenL K H cs ws
  | [], [], _ => ⟨[], rfl, DenL.nil⟩
  | [], _ :: _, h => by cases h
  | _ :: _, [], h => by cases h
  | j :: js, d :: cs, h => by
    unfold Holds at h
    rw [List.map_cons, List.map_cons] at h
    obtain ⟨h1, h2⟩ := List.cons.inj h
    obtain ⟨ws, e, g⟩ := holds_vals rE (js := js) (cs := cs) h2
    obtain ⟨v, e1, dv⟩ := rE.2 j d h1
    exact ⟨v :: ws, by rw [List.map_cons, List.map_cons, slotAt_of e1, e], DenL.cons dv g⟩
/-- a cell of the running frame is none of the frames -/
theorem cell_nofr {X : Cx} {pins : List (Addr × Obj)} {σ : L2.St} {H : Hp} {s : Shared} (I : Inv X pins σ H s) {y : Str} {c : Addr} (e : X.env.cells.lookup y = some c) (hf : X.fn y = true) : c ∉ frs X.stack := fun z => by
  rcases List.mem_cons.mp (I.stkSub c z) with rfl | z
  · obtain ⟨m, ⟨o, es, ep, e1, d1, _⟩, _⟩ := I.loc
    obtain ⟨v, o', e2, d2⟩ := I.cell y _ e
    rw [e1] at e2
    cases e2
    rw [d1] at d2
    cases d2
  · have h1 := I.ok.cab y c hf e
    obtain ⟨_, o, ho, _⟩ := I.ok.funs.mem z
    exact absurd h1 (Nat.not_le_of_lt (Heap.lt_size ho))
/-- how a function made here lies to the frame -/
structure Made (X : Cx) (scope : Scope) (fr : List Str) (js : List Nat) : Prop where
  free : ∀ y ∈ scope.names, y.2 = .free → X.env.scope.names.lookup y.1 = some .cell ∨ X.env.scope.names.lookup y.1 = some .free
  has : ∀ y ∈ fr, (y, NameKind.free) ∈ scope.names
  at_ : js.map (fun j => X.N[j]?) = fr.map some
  fn : ∀ y, X.fn y = true
theorem Made.cbs {X : Cx} {pins : List (Addr × Obj)} {σ : L2.St} {H : Hp} {s : Shared} {scope : Scope} {fr : List Str} {js : List Nat} {k : Nat} {a : Addr} {F : FK} {sp : DSp} {ε : ED} {cs : List D} (M : Made X scope fr js) (I : Inv X pins σ H s) (hcl : F.cl = cloFrom X.env.cells scope.names []) (rE : RelE X.K H σ ε) (h : Holds js ε cs)
    (n : NFn X.prog X.w X.K X.mg X.base k a F fr cs sp) : CbS X.prog X.w X.K X.mg X.base k X.stack s H a F sp := by
  obtain ⟨ws, e, g⟩ := holds_vals rE h
  have hc := Caps.made I.ok M.free M.has M.at_
  have C := cells_of I hc
  rw [e, ← hcl] at C
  refine ⟨fr, cs, ws, n, g, C, fun y c q => ?_⟩
  rw [hcl] at q
  exact cell_nofr I (hc.sub y c q) (M.fn y)
/-- a call of a def with two functions made here -/
def dCall2 (sc1 sc2 : FK → Prop) (js1 js2 : List Nat) (sp : List D → List D → Addr → FK → Addr → FK → DSp) (ta : DTA) : DTE := fun ε S Q => ta ε S fun ds S1 => ∃ a1 F1 a2 F2 cs1 cs2, S1 a1 = some (.fn F1) ∧ sc1 F1 ∧ Holds js1 ε cs1 ∧ S1 a2 = some (.fn F2) ∧ sc2 F2 ∧ Holds js2 ε cs2 ∧ sp cs1 cs2 a1 F1 a2 F2 ds S1 Q
theorem de_call2 {X : Cx} {k j : Nat} {f : Addr} {fd : FuncData} {ps : List Str} {s1 s2 : List D → DSp} {sp : List D → List D → Addr → FK → Addr → FK → DSp} {x : Str} {p pos : Pos} {e : Expr} {es : List Expr} {ta : DTA} {sc1 sc2 : FK → Prop} {scope1 scope2 : Scope} {fr1 fr2 : List Str} {js1 js2 : List Nat}
    (F : ∀ cs1 cs2, Fn2 X.prog X.w X.K X.mg X.base k j f fd ps (s1 cs1) (s2 cs2) (sp cs1 cs2)) (M1 : Made X scope1 fr1 js1) (M2 : Made X scope2 fr2 js2) (c1 : ∀ F, sc1 F → F.cl = cloFrom X.env.cells scope1.names []) (c2 : ∀ F, sc2 F → F.cl = cloFrom X.env.cells scope2.names [])
    (n1 : ∀ a F cs, sc1 F → NFn X.prog X.w X.K X.mg X.base j a F fr1 cs (s1 cs)) (n2 : ∀ a F cs, sc2 F → NFn X.prog X.w X.K X.mg X.base j a F fr2 cs (s2 cs))
    (hr : RoomG k X.A) (hg : Gl X x) (hm : X.mg x = some (.ref f)) (hk : PySem.W.keepIn X.K (.ref f) = true) (hb : Binds X.K fd ps []) (ha : DA X (e :: es) ta)
    (hdb : (x == ("__debug__" : Str)) = false := by decide) (he : starEach (e :: es) X.env = (false, eval e X.env) :: starEach es X.env := by rfl) (hpl : (backTo pos (starEach es X.env)).any (·.1) = false := by rfl) :
    DE X (.Call (.Name x p) (e :: es) [] pos) (dCall2 sc1 sc2 js1 js2 sp ta) := by
  refine ⟨fun pins s σ H Q I h => wpAny_Call_Name_kw (ld_glob I hg hm ?_ hdb)⟩
  obtain ⟨ε, S, Q0, rE, rS, h, wk⟩ := h
  have args : wpAny _ _ _ _ _ _ := ha.run pos pins s σ H (fun vs H1 => ∃ ds S1, RelE X.K H1 σ ε ∧ DenL X.K H1 ds vs ∧ RelS X.K H1 S1 ∧ (∃ a1 F1 a2 F2 cs1 cs2, S1 a1 = some (.fn F1) ∧ sc1 F1 ∧ Holds js1 ε cs1 ∧ S1 a2 = some (.fn F2) ∧ sc2 F2 ∧ Holds js2 ε cs2 ∧ sp cs1 cs2 a1 F1 a2 F2 ds S1 Q0) ∧ WkE X.K S1 H1 Q0 Q) I
    ⟨ε, S, _, rE, rS, h, fun ds S2 vs H2 q den r2 f2 => ⟨ds, S2, rE.frame rS f2, den, r2, q, wk.frame f2⟩⟩
  refine PySem.W.callWith_K (h₀ := X.base) I.ok.mod.kin hk (thn args ?_) he hpl
  rintro us s2 ⟨vs, H2, I2, r, ds, S2, rE2, den, r2, ⟨a1, F1, a2, F2, cs1, cs2, h1, q1, o1, h2, q2, o2, hsp⟩, wk2⟩
  refine ⟨I2.kIn, ?_⟩
  have b1 := M1.cbs I2 (c1 F1 q1) rE2 o1 (n1 a1 F1 cs1 q1)
  have b2 := M2.cbs I2 (c2 F2 q2) rE2 o2 (n2 a2 F2 cs2 q2)
  have ln : us.length = ps.length := r.length.symm.trans (by rw [den.length]; exact (F cs1 cs2).len _ _ _ _ _ _ _ hsp)
  have hb' := hb s2 us I2.kIn (by rw [List.append_nil]; exact ln)
  rw [List.append_nil] at hb'
  refine wpAny_call (codeAny_mono ((F cs1 cs2).run X.A X.stack s2 H2 ⟨us, []⟩ us vs Q (fun _ _ _ => False) a1 a2 F1 F2 hr I2.env0 hb' r b1 b2 ⟨ds, S2, Q0, den, r2, hsp, wk2⟩) fun z s' hz => ?_)
  match z, hz with
  | .error e, hz => exact pass0 pins σ H2 s2 e s' I2 hz
  | .ok (.ret u), hz => exact I2.after hz
  | .ok .next, hz => exact hz.elim
  | .ok .brk, hz => exact hz.elim
  | .ok .cont, hz => exact hz.elim
end DL

namespace DL
open PySem PySem.Spec PyProof.Rows L2 NdefX LamX

abbrev emptyT : Obj := { cls := .none, data := .fields #[] }
abbrev ambOf (Ts : List Addr) (nm : Nat → Nat → Str) : Amb := ⟨Ts.map fun P => (P, nm)⟩
def Bm (mg : Str → Option Value) (h : Heap) : Prop := ∃ (bm : Addr) (ob : Obj), mg "__builtins__" = some (.ref bm) ∧ bm ≠ builtinsNs ∧ h.get? bm = some ob ∧ ob.cls = .type "module" ∧ ob.dict = some builtinsNs ∧ ob.data = .plain
theorem lawGT {P : Program} {w : World} {K : PySem.W.Frag} {mg mb : Str → Option Value} {k : Nat} {fa a : Addr} {fd : FuncData} {x : Str} {sp : DSp} {s1 : Shared} {vs : List Value} {ns : List Int} {Ts : List Addr} {nm : Nat → Nat → Str}
    (KX : K.In s1.heap) (hns : s1.heap.Ns mainGlobals mg) (hb : s1.heap.Ns builtinsNs mb) (hbb : ∀ x : Str, x ≠ "__name__" → mb x = bootBuiltins x) (hlim : s1.heap.NoLimit) (hg : s1.gens = #[])
    (ha : s1.heap.get? a = some { cls := .type "list", data := .seq vs.toArray }) (hi : IntsAre vs ns) (hl : ns.length ≤ sizeLine) (hr : RoomG k callerA)
    (hT : ∀ P ∈ Ts, s1.heap.get? P = some emptyT) (nT : ∀ P ∈ Ts, K.lookup P = none) (hcT : ∀ P ∈ Ts, ∃ c, PySem.W.CodeHd s1.heap c P) (hbm : Bm mg s1.heap)
    (F : ∀ base : Heap, K.In base → base.Ns mainGlobals mg → (∀ P ∈ Ts, base.BuiltinsAt mg P ∧ mainGlobals ≠ P) → @FnD (ambOf Ts nm) P w K mg base k fa fd [x] sp) (hbind : ∀ (s : Shared) (u : Value), BindsTo s fd ⟨[u], []⟩ [(x, u)])
    (hsp : sp [.ilst (ns.map D.int)] (fun _ => none) fun d _ => d = .bl true) :
    codeAny (model P w) callerA (.call (.ref fa) ⟨[.ref a], []⟩) (fun r s' => r = .ok (.ret (.bool true)) ∧ OldK s1.heap s'.heap ∧ s'.os = s1.os ∧ AllBare s'.gens) s1 := by
  letI : Amb := ambOf Ts nm
  have rv := vals_ints hi
  have ln := hi.length
  have aT : a ∉ Ts := fun z => by
    have e := hT a z
    rw [ha] at e
    cases e
  have main : ∀ H : Hp, (∀ b, H b = none ∨ (b = a ∧ ∃ ob xs, H b = some (.frz ob (.lst xs))) ∨ b ∈ Ts) → (∀ b ∈ Ts, H b = some (.tbl #[])) → StL K H a (ns.map V.int) → HOk P w H s1.heap → (H a ≠ none → K.lookup a = none) →
      codeAny (model P w) callerA (.call (.ref fa) ⟨[.ref a], []⟩) (fun r s' => r = .ok (.ret (.bool true)) ∧ OldK s1.heap s'.heap ∧ s'.os = s1.os ∧ AllBare s'.gens) s1 := by
    intro H hO hTb hS hok hK
    have none_of : ∀ {b : Addr} {o : Obj}, s1.heap.get? b = some o → (∀ vs n, o.data ≠ .seq vs n) → o.data ≠ .fields #[] → H b = none := by
      intro b o e n1 n2
      rcases hO b with q | ⟨rfl, _⟩ | q
      · exact q
      · rw [ha] at e
        cases e
        exact (n1 _ _ rfl).elim
      · rw [hT b q] at e
        cases e
        exact (n2 rfl).elim
    have nsB : ∀ {b : Addr} {m : Str → Option Value}, s1.heap.Ns b m → (hidT s1.heap H).Ns b m := by
      rintro b m ⟨o, es, ep, e, d, r⟩
      exact ⟨o, es, ep, hidT_get e (none_of e (by rw [d]; exact fun _ _ z => nomatch z) (by rw [d]; exact fun z => nomatch z)), d, r⟩
    have kin : K.In (hidT s1.heap H) := by
      intro b o e
      refine hidT_get (KX b o e) ?_
      rcases hO b with q | ⟨rfl, q⟩ | q
      · exact q
      · obtain ⟨ob, xs, q⟩ := q
        rw [hK (by rw [q]; exact fun z => nomatch z)] at e
        cases e
      · rw [nT b q] at e
        cases e
    have hM : Mod K mg (hidT s1.heap H) := ⟨kin, nsB hns, ⟨mb, nsB hb, hbb⟩, let ⟨mc, h1, h2⟩ := hlim; ⟨mc, nsB h1, h2⟩⟩
    have nil : ∀ {b : Addr}, b ∉ frs ([] : List Env) := fun z => nomatch z
    have e0 : Env0 P w K mg (hidT s1.heap H) callerA [] s1 H := ⟨rfl, hM, fun b o e => of_hidT e, Nat.le_of_eq (hidT_size _ _), trivial, fun b z => (nil z).elim, hok, .of_eq hg⟩
    have den : DenL K H [D.ilst (ns.map D.int)] [V.ref a] :=
      DenL.one (show ∃ p us, V.ref a = .ref p ∧ StL K H p us ∧ DenL K H (ns.map D.int) us from ⟨a, _, rfl, hS, denL_ints ns⟩)
    have tabs0 : TabsN Amb.tabs H := fun q hq => by
      obtain ⟨P0, h0, rfl⟩ := List.mem_map.mp hq
      exact TabN.nil (hTb P0 h0)
    have spl : liftSp K sp [V.ref a] H (fun v _ => v = .bl true) (fun _ _ _ => False) :=
      ⟨_, fun _ => none, _, den, ⟨(fun b c z => nomatch z), tabs0⟩, hsp, fun d S' v H' q dd _ _ => by
        subst q
        exact dd⟩
    have gl : ∀ P0 ∈ Ts, mainGlobals ≠ P0 := fun P0 h0 z => by
      obtain ⟨o, es, ep, e, d, _⟩ := hns
      rw [z, hT P0 h0] at e
      cases e
      cases d
    have bmB : ∀ P0 ∈ Ts, (hidT s1.heap H).BuiltinsAt mg P0 ∧ mainGlobals ≠ P0 := fun P0 h0 => by
      obtain ⟨bm, ob, b1, b2, b3, b4, b5, b6⟩ := hbm
      have pl : ∀ {b : Addr} {o : Obj}, s1.heap.get? b = some o → o.data ≠ .plain → bm ≠ b := fun {b o} e n z => by
        rw [z, e] at b3
        cases b3
        exact n b6
      refine ⟨⟨bm, ob, b1, b2, ?_, pl (hT P0 h0) (fun z => nomatch z), hidT_get b3 (none_of b3 (by rw [b6]; exact fun _ _ z => nomatch z) (by rw [b6]; exact fun z => nomatch z)), b4, b5, b6⟩, gl P0 h0⟩
      obtain ⟨o, es, ep, e, d, _⟩ := hns
      exact pl e (by rw [d]; exact fun z => nomatch z)
    have go := (F _ kin (nsB hns) bmB).run callerA [] s1 H ⟨[.ref a], []⟩ [.ref a] [.ref a] _ _ hr e0 (hbind s1 (.ref a)) (.cons rfl .nil) spl
    refine codeAny_mono go fun r s' h => ?_
    match r, h with
    | .error e, h => exact h.elim
    | .ok .next, h => exact h.elim
    | .ok .brk, h => exact h.elim
    | .ok .cont, h => exact h.elim
    | .ok (.ret u), ⟨v, H', os, bare, un, hok', rr, q⟩ =>
      have q' : v = .bl true := q
      subst q'
      obtain rfl : u = Value.bool true := rr
      have stay : ∀ b o, b ∉ Ts → s1.heap.get? b = some o → s'.heap.get? b = some o := fun b o nb e => by
        rcases hO b with q | ⟨_, ob, xs, z⟩ | q
        · exact un.keep b o e q nil fun z => nomatch z
        · have z2 := un.frzs b ob _ z
          obtain ⟨e1, _⟩ := hok b _ z
          obtain ⟨e2, _⟩ := hok' b _ z2
          rw [e] at e1
          cases e1
          exact e2
        · exact (nb q).elim
      have more : ∀ b ∈ Ts, ∃ m : Array Value, s'.heap.get? b = some { cls := .none, data := .fields m } := fun b hb => by
        obtain ⟨m, z⟩ := un.tbls b #[] (hTb b hb)
        exact ⟨_, hok' b _ z⟩
      refine ⟨rfl, ⟨fun b o e => ?_, fun b o e => ?_⟩, os, bare⟩
      · by_cases hbT : b ∈ Ts
        · obtain ⟨m, hm⟩ := more b hbT
          obtain ⟨c, hc⟩ := hcT b hbT
          have e' := e
          rw [hT b hbT] at e'
          cases e'
          exact .inr (.inl ⟨(hc.tab e).isCodeTable, rfl, #[], m, rfl, by rw [Array.empty_append]; exact hm⟩)
        · exact .inl (stay b o hbT e)
      · by_cases hbT : b ∈ Ts
        · obtain ⟨m, hm⟩ := more b hbT
          exact ⟨_, hm⟩
        · exact ⟨o, stay b o hbT e⟩
  have okT : ∀ b, b ∈ Ts → ObjOk P w (fun _ => none) s1.heap b (.tbl #[]) := fun b hb => hT b hb
  cases hk : K.lookup a with
  | some o =>
    have e := KX a o hk
    rw [ha] at e
    cases e
    refine main (fun b => if b ∈ Ts then some (.tbl #[]) else none) (fun b => ?_) (fun b hb => if_pos hb) (.inr (.inr ⟨_, vs.toArray, _, hk, rfl, rfl, rfl, ?_, by simpa using rv⟩)) (fun b u z => ?_) fun z => absurd (if_neg aT) z
    · by_cases hbT : b ∈ Ts
      · exact .inr (.inr hbT)
      · exact .inl (if_neg hbT)
    · rw [List.size_toArray, ln]
      exact hl
    · by_cases hbT : b ∈ Ts
      · have z' := (if_pos hbT).symm.trans z
        cases z'
        exact hT b hbT
      · have z' := (if_neg hbT).symm.trans z
        cases z'
  | none =>
    refine main (fun b => if b ∈ Ts then some (.tbl #[]) else if b = a then some (.frz { cls := .type "list", data := .seq vs.toArray } (.lst (ns.map V.int))) else none) (fun b => ?_) (fun b hb => if_pos hb) (.inl ⟨{ cls := .type "list", data := .seq vs.toArray }, (if_neg aT).trans (if_pos rfl)⟩) (fun b u z => ?_) fun _ => hk
    · by_cases hbT : b ∈ Ts
      · exact .inr (.inr hbT)
      · by_cases hba : b = a
        · exact .inr (.inl ⟨hba, _, _, (if_neg hbT).trans (if_pos hba)⟩)
        · exact .inl ((if_neg hbT).trans (if_neg hba))
    · by_cases hbT : b ∈ Ts
      · have z' := (if_pos hbT).symm.trans z
        cases z'
        exact hT b hbT
      · have z1 := (if_neg hbT).symm.trans z
        by_cases hba : b = a
        · have z' := (if_pos hba).symm.trans z1
          cases z'
          subst hba
          exact ⟨ha, by rw [List.length_map]; exact hl, vs, _, rv, ha⟩
        · have z' := (if_neg hba).symm.trans z1
          cases z'
/-- where the table of the def y stands -/
def TabAt (K : PySem.W.Frag) (mg : Str → Option Value) (y : Str) (c P : Addr) : Prop := ∃ (f : Addr) (o : Obj) (g : FuncData) (e : Value) (dd : Option Addr) (us : Array Value) (sl : Array (Option Value)), mg y = some (.ref f) ∧ K.lookup f = some o ∧ o.data = .func g ∧ g.code = .ref c ∧ K.lookup c = some ⟨e, dd, .fields us, sl⟩ ∧ us[11]? = some (.ref P)
theorem walkGT {l : PySem.W.OpenLaw} {n k : Nat} {q : Program} {loose : List Str} {XP : (Str → Option Value) → Heap → Prop} {YP : World → Heap → Prop} {d : DefRec} {K : Params → PySem.W.Frag} {sp : DSp} {x : Str} {xs : List Str}
    (hn : l.most = some n) (hn2 : n ≤ sizeLine) (hdf : d.params.defaults = []) (hr : RoomG k callerA) (hrec : ∀ y ∈ xs, ((recsOf q).any fun e => e.name == y) = true) (hY : ∀ (w : World) (h : Heap), YP w h → (K w.params).In h)
    (F : ∀ (w : World) (mg : Str → Option Value) (fa : Addr) (h : Heap), (K w.params).In h → h.Ns mainGlobals mg → mg d.name = some (.ref fa) →
      ∃ (fd : FuncData) (Ts : List Addr) (nm : Nat → Nat → Str), (∀ (s : Shared) (u : Value), BindsTo s fd ⟨[u], []⟩ [(x, u)]) ∧ (∀ P ∈ Ts, (K w.params).lookup P = none ∧ ∃ y c, y ∈ xs ∧ PySem.W.codeHdIn (K w.params) c P = true ∧ TabAt (K w.params) mg y c P) ∧
        ∀ base : Heap, (K w.params).In base → base.Ns mainGlobals mg → (∀ P ∈ Ts, base.BuiltinsAt mg P ∧ mainGlobals ≠ P) → @FnD (ambOf Ts nm) l.prog w (K w.params) mg base k fa fd [x] sp)
    (hsp : ∀ ns : List Int, ns.length ≤ n → sp [.ilst (ns.map D.int)] (fun _ => none) fun d _ => d = .bl true) :
    PySem.W.WalkO q loose XP YP l.row.toRowW d [] (fun f vs => PySem.call f vs) := by
  refine Att.attach_call hn hdf fun w s₀ s1 mg mb fa o pm cd doc a vs ns G Y ho hd hcd hmg hobj hints hlen hg => ?_
  have KX := hY w _ Y
  obtain ⟨fd, Ts, nm, hb, hT, hF⟩ := F w mg fa _ KX G.T.g hmg
  refine lawGT KX G.T.g G.T.b G.T.builtins G.T.nolimit hg hobj hints (Nat.le_trans hlen hn2) hr (fun P hP => ?_) (fun P hP => (hT P hP).1) (fun P hP => ?_) G.T.bmain hF hb (hsp ns hlen)
  · obtain ⟨_, y, c, hy, _, f, o1, g, e, dd, us, sl, m1, k1, k2, k3, k4, k5⟩ := hT P hP
    obtain ⟨dy, my, ey⟩ := List.any_eq_true.mp (hrec y hy)
    obtain ⟨f2, o2, g2, c2, P2, r1, r2, r3, r4, r5, ⟨oc, vc, t1, t2, t3, t4⟩, tP⟩ := G.T.tab dy my
    rw [beq_iff_eq.mp ey, m1] at r1
    cases r1
    rw [KX _ _ k1] at r2
    cases r2
    rw [k2] at r3
    cases r3
    rw [k3] at r4
    cases r4
    rw [KX _ _ k4] at t1
    cases t1
    cases t3
    rw [k5] at t4
    cases t4
    exact tP
  · obtain ⟨_, y, c, _, hc, _⟩ := hT P hP
    exact ⟨c, PySem.W.codeHd_of_K KX hc⟩
end DL

namespace DL
open PySem PySem.Spec PyProof.Rows L2

theorem extend_tup (l : Addr) (items : Array Value) (n : Nat) (b : Addr) (items2 : Array Value) (n2 : Nat) (sl : Array (Option Value)) (hs0 : ¬(!items.isEmpty && Builtin.List.listTooLong (items.size + items2.size)) = true) (hs1 : items.size ≤ sizeLine) (hs2 : items.size + items2.size ≤ sizeLine + 1) :
    Meets (Builtin.«list.extend» ⟨[.ref l, .ref b], []⟩) (fun _ R s => s.heap.get? l = some { cls := .type "list", data := .seq items n } ∧ s.heap.get? b = some { cls := .type "tuple", data := .seq items2 n2, slots := sl } ∧
      R (.ok (.ret Value.none)) { s with heap := s.heap.update l (Obj.mapSeq fun x => x ++ items2) }) :=
  .of_wp fun prog w A R s h => by
    obtain ⟨hp, g, d, tk, os⟩ := s
    obtain ⟨hl, hb, h⟩ := h
    have f1 := AutoSeq1.sub_tuple_tuple
    have f2 := AutoSeq1.sub_list_list
    have f3 := AutoSeq1.sub_tuple_list
    have f4 := AutoSeq1.sub_list_tuple
    have f5 := AutoSeq1.idx_int
    have big : (items ++ items2).size ≤ sizeLine + 1 := by
      rw [Array.size_append]
      exact hs2
    wp_walk using (wpAny_updateSeq hl rfl (hz := hs1) (_hz' := big)), wpAny_loadPart' hl, wpAny_loadPart' hb
    exact ⟨_, rfl, h⟩
variable [Amb]
variable {X : Cx}
def rExtT : RMD := fun x xs S Q => ∃ p ds ys, x = .ref p ∧ xs = [.tup ys] ∧ S p = some (.lst ds) ∧ ds.length + ys.length ≤ 1000000 ∧ Q .non (put S p (.lst (ds ++ ys)))
theorem dm_extT : DMt X "list.extend" rExtT := by
  intro pins s σ H x xs v us Q I rx rv ⟨d, ds, S, Q0, d1, d2, rS, ⟨p, as, ys, e1, e2, hp, hz, q⟩, k⟩
  subst e1 e2
  cases (show x = .ref p from d1)
  obtain ⟨y, w, rfl, d3, d4⟩ := d2.uncons
  cases d4.nil_eq
  obtain ⟨vs, hv, hd⟩ := rS.lst hp
  obtain ⟨a, ts, rfl, ht, hts⟩ := d3.untup
  cases rx
  obtain ⟨u, rfl, ru⟩ := rv.one
  cases ru
  obtain ⟨z, its, n, r, hl, e⟩ := I.lstM hv
  obtain ⟨its2, r2, ⟨o2, n2, e2, c2, dd2, da2⟩, hl2⟩ := plT_seq I ht
  have len1 := hd.length
  have len2 := hts.length
  have len3 := r.length
  have len4 := r2.length
  have big := million hz
  have small : its.toArray.size + its2.toArray.size ≤ sizeLine := by
    rw [List.size_toArray, List.size_toArray]
    omega
  have notLong : ¬ (!its.toArray.isEmpty && Builtin.List.listTooLong (its.toArray.size + its2.toArray.size)) = true := by
    rw [notLongL small, Bool.and_false]
    exact Bool.false_ne_true
  obtain ⟨oc, od, oda, osl⟩ := o2
  cases c2
  cases dd2
  cases da2
  refine call_meets F.slot_list_extend ⟨_, e, rfl⟩ F.entry_list_extend (F.args_list_extend_2 _ _) (extend_tup p its.toArray n a its2.toArray n2 osl notLong (by rw [List.size_toArray]; omega) (by omega)) ⟨e, e2, ?_⟩
  exact ⟨.non, _, I.lset (its' := its ++ its2) hv e (by simp) (r.append r2) (by rw [List.length_append]; omega), rfl, k.putL rS hp hv (hd.app hts) (d := .non) (v := .non) rfl q⟩
def dItRev (ta : DTA) : DTI := fun ε S R => ta ε S fun xs S1 => ∃ a ds, xs = [.ref a] ∧ S1 a = some (.lst ds) ∧ R ds.reverse (fun S2 => S2 a = some (.lst ds)) S1
theorem rev_get {α : Type} (xs : List α) {i : Nat} (h : i < xs.length) : xs.reverse[i]? = xs[xs.length - 1 - i]? := by
  rw [List.getElem?_reverse h]
theorem di_rev {tg e : Expr} {ta : DTA} {p pos : Pos} (hg : Gl X "reversed") (hm : X.mg "reversed" = none) (ha : DA X [e] ta) (hs : starEach [e] X.env = [(false, eval e X.env)] := by rfl) : DI X tg (.Call (.Name "reversed" p) [e] [] pos) (dItRev ta) :=
  PI_imp (pi_reversed hg hm ha hs) fun σ H R ⟨ε, S, R0, rE, rS, q, k⟩ => ⟨ε, S, _, rE, rS, q, fun xs S1 vs H1 q1 den rS1 f1 => by
    obtain ⟨x, ds, rfl, hx, q1⟩ := q1
    obtain ⟨v, r, rfl, d1, d2⟩ := den.uncons
    cases d2.nil_eq
    cases (show v = .ref x from d1)
    obtain ⟨us, hv, hd⟩ := rS1.lst hx
    have hl := hd.length
    refine ⟨x, us, rfl, SqL.of hv, k _ _ S1 H1 _ q1 rS1 f1 fun i S2 H2 rS2 f2 hc => ?_⟩
    obtain ⟨ws, hv2, hd2⟩ := rS2.lst hc
    have hl2 := hd2.length
    refine ⟨fun hi => (show us.length ≤ i by rw [hi, List.length_reverse]; omega), fun d hi => ?_⟩
    have hlt : i < ds.length := by
      have := (List.getElem?_eq_some_iff.mp hi).1
      simpa using this
    rw [rev_get ds hlt] at hi
    obtain ⟨u, hu, du⟩ := hd2.get hi
    have hu' : ws[us.length - 1 - i]? = some u := by rw [hl]; exact hu
    refine ⟨⟨by omega, ws, u, SqL.of hv2, hu'⟩, fun z H3 hy => ?_⟩
    obtain ⟨rfl, hy⟩ := hy
    have e1 := hy ws (SqL.of hv2)
    rw [hu'] at e1
    cases e1
    exact ⟨du, rS2, Frame.refl⟩⟩
def truD : D → Option Bool
  | .non => some false
  | .bl b => some b
  | .tup ds => some (!ds.isEmpty)
  | _ => none
theorem truD_ok {K : PySem.W.Frag} {H : Hp} {d : D} {v : V} {k : Bool} (h : Den K H d v) (e : truD d = some k) : TruV K v H k := by
  cases d with
  | non => cases e; cases (show v = .non from h); rfl
  | bl b =>
    cases (show v = .bl b from h)
    exact (Option.some.inj e).symm
  | tup ds =>
    cases e
    obtain ⟨a, vs, rfl, h1, h2⟩ := h.untup
    refine .inr (.inl ⟨vs, h1.sq, ?_⟩)
    cases ds with
    | nil => cases h2.nil_eq; rfl
    | cons y ys => obtain ⟨u, r, rfl, _⟩ := h2.uncons; rfl
  | _ => cases e
def dOrT (ta tb : DTE) : DTE := fun ε S Q => ta ε S fun x S1 => ∃ k, truD x = some k ∧ if k = true then Q x S1 else tb ε S1 Q
theorem de_orT {a b : Expr} {rest : List Expr} {ta tb : DTE} {pos : Pos} (ha : DE X a ta) (hb : DE X (.BoolOp .Or (b :: rest) pos) tb) : DE X (.BoolOp .Or (a :: b :: rest) pos) (dOrT ta tb) :=
  PE_imp (pe_orT ha hb) fun σ H Q ⟨ε, S, Q0, rE, rS, q, wk⟩ => ⟨ε, S, _, rE, rS, q, fun x S1 v H1 q1 den rS1 f1 => by
    obtain ⟨k, e, q2⟩ := q1
    refine ⟨k, truD_ok den e, ?_⟩
    cases k with
    | true => exact wk x S1 v H1 q2 den rS1 f1
    | false => exact ⟨ε, S1, Q0, rE.frame rS f1, rS1, q2, wk.frame f1⟩⟩
def rEqL (K : PySem.W.Frag) : R2 := fun x y H Q => ∃ ds es, Dp K H x (D.ilst ds).py ∧ Dp K H y (D.ilst es).py ∧ (D.ilst ds).plain = true ∧ (D.ilst es).plain = true ∧ min (D.ilst ds).py.depth (D.ilst es).py.depth ≤ 60 ∧ Q (.bl (PyData.eqv (D.ilst ds).py (D.ilst es).py)) H
theorem op_eqL (hu : X.A.units + 64 < cLine) : OpR X (compareOp .Eq) (rEqL X.K) := by
  intro pins s σ H x y v u Q I rx ry ⟨ds, es, d1, d2, p1, p2, hd, q⟩
  obtain ⟨as, r1⟩ := Dp.reads I _ x v d1 rx
  obtain ⟨bs, r2⟩ := Dp.reads I _ y u d2 ry
  exact PySem.SeqAt.eq_plain r1 r2 (py_plain _ p1) (py_plain _ p2) (by omega) ⟨.bl _, H, I, rfl, q⟩
def dEqFL (t : DTA) (tb : DTE) : DTE := fun ε S Q => t ε S fun ds S1 => tb ε S1 fun y S2 => ∃ p es, y = .ref p ∧ S2 p = some (.lst es) ∧ (D.ilst ds).plain = true ∧ (D.ilst es).plain = true ∧ min (D.ilst ds).py.depth (D.ilst es).py.depth ≤ 60 ∧ Q (.bl (PyData.eqv (D.ilst ds).py (D.ilst es).py)) S2
theorem eqFL_lift {K : PySem.W.Frag} {t : DTA} {tb : DTE} {σ : L2.St} {H : Hp} {Q : VK} (h : liftE K (dEqFL t tb) σ H Q) : tOp (rEqL K) (liftF K t) (liftE K tb) σ H Q := by
  obtain ⟨ε, S, Q0, rE, rS, q, k⟩ := h
  exact ⟨ε, S, _, rE, rS, q, fun ds S1 p vs H1 q1 _ hS hp den rS1 f1 =>
    ⟨ε, S1, _, rE.frame rS f1, rS1, q1, fun y S2 v H2 q2 dy rS2 f2 => by
      obtain ⟨p', es, rfl, he, p1, p2, hd, q3⟩ := q2
      cases (show v = .ref p' from dy)
      obtain ⟨us, hv, hes⟩ := rS2.lst he
      exact ⟨ds, es, .lst (SqL.of (f2.keep p _ hS hp (fun _ z => nomatch z)).1) (DenL.dp ds vs (DenL.frame rS1 f2 ds vs den) p1), .lst (SqL.of hv) (DenL.dp es us hes p2), p1, p2, hd, k _ S2 _ H2 q3 rfl rS2 (f1.trans f2)⟩⟩⟩
theorem de_eqFL {a b : Expr} {t : DTA} {tb : DTE} {pos : Pos} (hu : X.A.units + 64 < cLine) (ha : DF X a t) (hb : DE X b tb) (hm : behindInMarks .Eq b = false := by first | exact nomark _ | with_unfolding_all rfl) : DE X (.Compare a [.Eq] [b] pos) (dEqFL t tb) :=
  PE_imp (pe_cmpR (op_eqL hu) ha hb hm) fun _ _ _ => eqFL_lift
theorem dt_eqFL {a b : Expr} {t : DTA} {tb : DTE} {pos : Pos} (hu : X.A.units + 64 < cLine) (ha : DF X a t) (hb : DE X b tb) (hm : behindInMarks .Eq b = false := by first | exact nomark _ | with_unfolding_all rfl) : DT X (.Compare a [.Eq] [b] pos) (dB (dEqFL t tb)) :=
  PT_imp (pt_cmpR (op_eqL hu) ha hb hm) (dB_lift fun _ _ _ => eqFL_lift)
end DL

namespace DL
open PySem PySem.Spec PyProof.Rows L2 NdefX LamX

abbrev lamS : Str := Str.ofString "<lambda>"
/-- the object of a lambda -/
def FK.lam (qual : Str) (params : Arguments) (body : Expr) (scope : Scope) (cl : List (Str × Addr)) (c : Addr) : FK :=
  ⟨fun f h => ∃ (pm ctv : Value), h.get? f = some (PySem.W.kla_obj "<lambda>" qual params body scope cl pm c ctv), c, qual, cl, fun a h ⟨pm, ctv, ho⟩ => ⟨_, _, _, _, ho⟩⟩
section
variable [Amb] {X : Cx} {pins : List (Addr × Obj)} {σ : L2.St} {H : Hp} {s : Shared}
theorem inv_lam {qual : Str} {params : Arguments} {body : Expr} {scope : Scope} {cl : List (Str × Addr)} {c : Addr} {pm ctv : Value} {t : Nat} (I : Inv X pins σ H s) :
    Inv X pins σ (upd H s.heap.objs.size ((FK.lam qual params body scope cl c).o s.heap.objs.size)) { s with heap := s.heap.push (PySem.W.kla_obj "<lambda>" qual params body scope cl pm c ctv), toks := t } := by
  refine I.laid (a := s.heap.objs.size) (fun b u e => Heap.get?_push_of_some _ e) (Nat.le_refl _) ?_
  have e : (s.heap.push (PySem.W.kla_obj "<lambda>" qual params body scope cl pm c ctv)).get? s.heap.objs.size = some (PySem.W.kla_obj "<lambda>" qual params body scope cl pm c ctv) := Heap.get?_push_size _ rfl
  exact ⟨⟨pm, ctv, e⟩, ⟨_, e⟩, fun h1 h2 ⟨p, v, z⟩ st => ⟨p, v, st _ z⟩⟩
/-- a lambda is made -/
theorem lam_made {nm : Nat → Nat → Str} {c P : Addr} {params : Arguments} {body : Expr} {scope : Scope} {pos : Pos} {E : Value → Shared → Prop} {Q : Value → Shared → Prop} (I : Inv X pins σ H s) (TB : TabB X.base X.mg c P) (hcode : X.env.code = .ref c) (hm : (P, nm) ∈ Amb.tabs) (hn : nm pos.line pos.col = X.env.qual ++ "<lambda>")
    (hu : ∀ p ∈ Amb.tabs, p.1 = P → p.2 = nm) (hT : TabsN Amb.tabs H) (hdef : defaultsOf params X.env = ([], [])) (hfree : ∀ y ∈ scope.names, y.2 = .free → ∃ c, X.env.cells.lookup y.1 = some c)
    (k : ∀ (f c' : Addr) (H1 : Hp) (s' : Shared), Inv X pins σ H1 s' → ExtN H H1 → (∀ b, H1 b = none → H b = none) → TabsN Amb.tabs H1 → H f = none →
      H1 f = some ((FK.lam (X.env.qual ++ "<lambda>") params body scope (cloFrom X.env.cells scope.names []) c').o f) → H1 c' = some (CodeO c' (X.env.qual ++ "<lambda>")) → Q (.ref f) s') :
    wpAny (model X.prog X.w) X.A (eval (.Lambda params body scope pos) X.env) Q E s := by
  obtain ⟨ps, hP, ht, ha⟩ := (show TabN H P nm from hT _ hm)
  have bP : s.heap.BuiltinsAt X.mg P := TB.bm.keeps I.bk
  have gP : s.heap.get? P = some { cls := .none, data := .fields ps } := I.hok P _ hP
  have glob := I.mod.glob.keeps I.bk
  have code := TB.code.keeps I.bk
  refine PySem.W.kla_eval hdef ?_
  rcases hc : codeAmong pos ps.toList with _ | cv
  · refine PySem.W.kla_makeFunction (mg := X.mg) (c := c) (P := P) (ps := ps) (closure_ok hfree) I.ok.glob glob hcode code gP ht hc TB.gP bP fun c' ctv h' tk hx hge hlt hrec htb => ?_
    obtain ⟨c2, oc, us, t, e2, hoc, hd, hv⟩ := hrec
    cases e2
    have newC : H c' = none := I.hok.fresh hge
    let row : Array Value := #[rawInt pos.line, rawInt pos.col, .ref c']
    have I1 := inv_table (t' := tk) (more := row) (h' := h') (q := X.env.qual ++ "<lambda>") I hP (fun b o hb e => hx b o hb e) htb hge ⟨oc, us, t, hoc, hd, hv⟩
    have ext1 : ExtN H (upd (upd H P (.tbl (ps ++ row))) c' (CodeO c' (X.env.qual ++ "<lambda>"))) := fun b o e n => by
      have b1 : b ≠ P := fun z => n ps (by rw [z, hP] at e; exact (Option.some.inj e).symm)
      rw [upd_ne (ne_of_none e newC), upd_ne b1]
      exact e
    have tabs1 : TabsN Amb.tabs (upd (upd H P (.tbl (ps ++ row))) c' (CodeO c' (X.env.qual ++ "<lambda>"))) := fun p hp => by
      by_cases hb : p.1 = P
      · rw [hu p hp hb, hb]
        have el : (ps ++ row).toList = ps.toList ++ [rawInt pos.line, rawInt pos.col, .ref c'] := by simp [row]
        refine ⟨ps ++ row, by rw [upd_ne (ne_of_none hP newC), upd_same], by rw [el]; exact PySem.TriplesOk_snoc _ _ _ _ ht, fun p' cv hcv => ?_⟩
        rw [el] at hcv
        rcases among_app2 _ ht hcv with z | ⟨z, z1, z2⟩
        · obtain ⟨c0, e1, e2⟩ := ha p' cv z
          exact ⟨c0, e1, ext1 _ _ e2 fun _ z => nomatch z⟩
        · exact ⟨c', z, by rw [← z1, ← z2, hn]; exact upd_same⟩
      · obtain ⟨ps', a1, a2, a3⟩ := hT p hp
        refine ⟨ps', by rw [upd_ne (ne_of_none a1 newC), upd_ne hb]; exact a1, a2, fun p' cv hcv => ?_⟩
        obtain ⟨c0, e1, e2⟩ := a3 p' cv hcv
        exact ⟨c0, e1, ext1 _ _ e2 fun _ z => nomatch z⟩
    have newF := I1.hok.fresh (Nat.le_refl _)
    have I2 := inv_lam (qual := X.env.qual ++ "<lambda>") (params := params) (body := body) (scope := scope) (cl := cloFrom X.env.cells scope.names []) (c := c') (pm := (X.mg "__name__").getD .none) (ctv := ctv) (t := tk) I1
    refine k h'.objs.size c' _ _ I2 (fun b o e n => ?_) (fun b e => upd_none (upd_none (upd_none e))) (tabs1.ext fun b o e => ?_) (I.hok.fresh (Nat.le_trans hge (Nat.le_of_lt hlt))) upd_same ((upd_ne (Nat.ne_of_lt hlt)).trans upd_same)
    · exact (upd_ne (ne_of_none (ext1 b o e n) newF)).trans (ext1 b o e n)
    · exact (upd_ne (ne_of_none e newF)).trans e
  · obtain ⟨c', e, hco⟩ := ha pos cv hc
    subst e
    rw [hn] at hco
    refine PySem.W.kla_makeFunctionHit (mg := X.mg) (c := c) (P := P) (ps := ps) (closure_ok hfree) I.ok.glob glob hcode code gP ht hc bP fun ctv h' tk hx hsz => ?_
    have I1 : Inv X pins σ H { s with heap := h', toks := tk } := I.kept hx
    have newF : H h'.objs.size = none := I1.hok.fresh (Nat.le_refl _)
    have I2 := inv_lam (qual := X.env.qual ++ "<lambda>") (params := params) (body := body) (scope := scope) (cl := cloFrom X.env.cells scope.names []) (c := c') (pm := (X.mg "__name__").getD .none) (ctv := ctv) (t := tk) I1
    exact k h'.objs.size c' _ _ I2 (fun b o e n => (upd_ne (ne_of_none e newF)).trans e) (fun b e => upd_none e) (hT.ext fun b o e => (upd_ne (ne_of_none e newF)).trans e) newF upd_same ((upd_ne (ne_of_none hco newF)).trans hco)
end
section
variable [Amb] {P : Program} {w : World} {K : PySem.W.Frag} {mg : Str → Option Value} {base : Heap}
/-- THE RULE: a lambda by its body -/
theorem nfn_lam {N ps fr : List Str} {qual : Str} {params : Arguments} {body : Expr} {scope : Scope} {cl : List (Str × Addr)} {c f : Addr} {k : Nat} {cs : List D} {sp : DSp} (S : NScope N ps fr scope)
    (hb : ∀ (pm ctv : Value) (us : List Value), us.length = ps.length → bindArgs (PySem.W.kla_fn "<lambda>" qual params body scope cl pm (.ref c) ctv) ⟨us, []⟩ = pure (ps.zip us)) (len : ∀ ds S Q, sp ds S Q → ds.length = ps.length) (t : DTE)
    (hbody : ∀ (A : Around) (outer : List Env) (s : Shared) (H : Hp) (E : XK), RoomG k (A.deeper (envF ⟨"<lambda>", qual, params, [], scope, cl, c⟩ f s.heap.objs.size)) → DE (ncx CX0 P w K mg base N ⟨"<lambda>", qual, params, [], scope, cl, c⟩ f A outer s H E).nox body t)
    (hsp : ∀ ds S Q, sp ds S Q → t (startN N ds cs) S (Lets Q)) : NFn P w K mg base (k + 1) f (FK.lam qual params body scope cl c) fr cs sp := by
  refine ⟨fun A outer s H us vs ws Q E hr e0 hf hc hcs C r hsp' => ?_⟩
  obtain ⟨ds, S1, Q0, den, rS, hs, wk⟩ := hsp'
  have hl : vs.length = ps.length := by rw [den.length]; exact len _ _ _ hs
  have lim : s.heap.NoLimit := e0.mod.nolimit.keeps fun b o e => (e0.bs b o e).1
  obtain ⟨⟨pm, ctv, ho⟩, _, _⟩ := e0.hok f _ hf
  refine PySem.W.kla_callFunE hr.r.depth ho rfl S.co S.gen rfl (codeO_at e0.hok hc) ?_
  rw [hb pm ctv us (by rw [← r.length]; exact hl)]
  refine wpAny_pure (wpAny_newFunctionEnv S.nocell (fun ⟨n, _⟩ hy => S.par n (List.of_mem_zip hy).1) (fun h₁ hns hsb => ⟨lim.fresh _ hsb, ?_⟩) S.kind)
  have kp : ∀ b o, s.heap.get? b = some o → h₁.get? b = some o := fun b o e => hsb.extBut b o (Nat.ne_of_lt (Heap.lt_size e)) (Heap.get?_push_of_some _ e)
  have I : Inv (ncx CX0 P w K mg base N ⟨"<lambda>", qual, params, [], scope, cl, c⟩ f A outer s H E) [] (startF N vs (ws.map some)) H { s with heap := h₁, toks := s.toks + (ps.zip us).length } := inv_startN S hr.r.hd e0 hl r C hns kp
  show codeAny _ _ (.expr body (envF ⟨"<lambda>", qual, params, [], scope, cl, c⟩ f s.heap.objs.size)) _ _
  refine PySem.W.kla_codeExpr (wpAny_mono ((PE.nox (hbody A outer s H E (hr.deeper _))).run [] _ (startF N vs (ws.map some)) H Q I ⟨startN N ds cs, S1, _, rel_startN den hcs, rS, hsp ds S1 Q0 hs, fun d S' v H' ⟨S3, sub, q⟩ dd r f => wk d S3 v H' q dd (r.sub sub) (f.sub sub)⟩) (fun v s' hq => ?_) fun e s' hq => hq)
  obtain ⟨v', H', J, rv, q⟩ := hq
  exact ⟨v', H', J.os, J.bare, J.base, J.hok, rv, q⟩
end
/-- as a value: the new function -/
def dLam (mk : Addr → FK) : DTE := fun ε S Q => ∀ f c', S f = none → Q (.ref f) (put S f (.fn (mk c')))
theorem de_lam [Amb] {X : Cx} {nm : Nat → Nat → Str} {c P : Addr} {params : Arguments} {body : Expr} {scope : Scope} {pos : Pos} (TB : TabB X.base X.mg c P) (hcode : X.env.code = .ref c) (hm : (P, nm) ∈ Amb.tabs) (hn : nm pos.line pos.col = X.env.qual ++ "<lambda>") (hu : ∀ p ∈ Amb.tabs, p.1 = P → p.2 = nm)
    (hfree : ∀ y ∈ scope.names, y.2 = .free → X.env.scope.names.lookup y.1 = some .cell ∨ X.env.scope.names.lookup y.1 = some .free) (hdef : defaultsOf params X.env = ([], [])) :
    DE X (.Lambda params body scope pos) (dLam fun c' => FK.lam (X.env.qual ++ "<lambda>") params body scope (cloFrom X.env.cells scope.names []) c') := by
  refine ⟨fun pins s σ H Q I h => ?_⟩
  obtain ⟨ε, S, Q0, rE, rS, q, wk⟩ := h
  have hfr : ∀ y ∈ scope.names, y.2 = .free → ∃ c, X.env.cells.lookup y.1 = some c := fun y hy e => (hfree y hy e).elim (fun z => I.ok.has _ (.inl z)) fun z => I.ok.has _ (.inr z)
  refine lam_made I TB hcode hm hn hu rS.tabs hdef hfr fun f c' H1 s' I1 eN there T1 hf hF hC => ⟨.ref f, H1, I1, rfl, ?_⟩
  have fr : Frame S H S H1 := frame_ext eN there
  refine wk (.ref f) _ (.ref f) H1 (q f c' (rS.free hf)) rfl ⟨fun a x e => ?_, T1⟩ ⟨fun a o h e n => ⟨eN a o e n, by rw [put_ne (ne_of_none e hf)]; exact h⟩, there⟩
  by_cases hb : a = f
  · subst hb
    rw [put_same] at e
    cases e
    exact ⟨hF, hC⟩
  · rw [put_ne hb] at e
    exact (rS.cell a x e).ext rS fr eN
end DL

namespace DL
open PySem PySem.Spec PyProof.Rows L2 NdefX LamX
section
variable [Amb] {X : Cx} {a : Expr} {ta : DTE} {p pos : Pos}
def dSumL (ta : DTE) : DTE := fun ε S Q => ta ε S fun x S1 => ∃ q, ∃ ns : List Int, x = .ref q ∧ S1 q = some (.lst (ns.map D.int)) ∧ Q (.int ns.sum) S1
theorem de_sumL (hc : X.calm = true) (hg : Gl X "sum") (hm : X.mg "sum" = none) (ha : DE X a ta) (he : starEach [a] X.env = (false, eval a X.env) :: starEach [] X.env := by rfl) (hpl : (backTo pos (starEach [] X.env)).any (·.1) = false := by rfl) : DE X (.Call (.Name "sum" p) [a] [] pos) (dSumL ta) :=
  PE_imp (pe_callB (cr_sum hc) hg hm (by decide +kernel) (pa_cons ha pa_nil he) (he := he) (hpl := hpl)) fun σ H Q ⟨ε, S, Q0, rE, rS, q, k⟩ => ⟨ε, S, _, rE, rS, q, fun d S1 v H1 q1 den rS1 f1 => by
    obtain ⟨q, ns, rfl, hp, q2⟩ := q1
    cases (show v = .ref q from den)
    obtain ⟨vs, hv, hd⟩ := rS1.lst hp
    cases denL_ints' hd
    exact ⟨q, ns, rfl, SqL.of hv, k _ S1 _ H1 q2 rfl rS1 f1⟩⟩
/-- tuple(range(e)) -/
theorem pe_tupRgF {e : Expr} {te : L2.St → Hp → (Int → Int → Hp → Prop) → Prop} (hc : X.calm = true) (hg : Gl X "tuple") (hm : X.mg "tuple" = none) (he : PRg X e te) (na : starEach [e] X.env = (false, eval e X.env) :: starEach [] X.env := by rfl) :
    PE X (.Call (.Name "tuple" p) [e] [] pos) (fun σ H Q => te σ H fun a b H1 => RgOk a b ∧ newT H1 (rgV a b) Q) := by
  refine ⟨fun pins s σ H Q I h => ?_⟩
  refine Call_ (ld_blt I hg hm boot_tuple (PyProof.Rows.callWith_type1 (args_cons (thn (he pins s σ H _ I h) fun x s1 ⟨r, a, b, t, u, v, H1, ex, hr, I1, ok, q⟩ => args_nil ?_) na) na))
  subst ex
  obtain ⟨b1, b2, b3, b4, b5⟩ := ok
  refine call_tuple_range (n := (b - a).toNat) (I1.ok.hd hc) hr (small_one b1 b2 b3 b4) (rangeSize_nat a b) b5 fun h' tk acc hk hi => ?_
  have I2 : Inv X pins σ H1 { s1 with heap := h', toks := tk } := I1.kept hk
  have z := ep_newT (t' := tk) I2 (vals_rg hi) (by rw [rgV_length, sizeLine_eq]; omega) q
  rw [Array.toArray_toList] at z
  exact z
def dTupR (ta : DTE) : DTE := fun ε S Q => ta ε S fun x S1 => ∃ j : Int, x = .int j ∧ 0 ≤ j ∧ j ≤ 1000000 ∧ Q (.tup (intsFrom 0 j.toNat)) S1
theorem denL_rg {K : PySem.W.Frag} {H : Hp} (j : Int) : DenL K H (intsFrom 0 j.toNat) (rgV 0 j) := by
  have e1 : intsFrom 0 j.toNat = ((List.range j.toNat).map fun i => (0 + (i : Nat) : Int)).map D.int := by
    unfold intsFrom
    rw [List.map_map]
    rfl
  have e2 : rgV 0 j = ((List.range j.toNat).map fun i => (0 + (i : Nat) : Int)).map V.int := by
    unfold rgV
    rw [List.map_map, Int.sub_zero]
    rfl
  rw [e1, e2]
  exact denL_ints _
theorem de_tupR {p2 pos2 : Pos} (hc : X.calm = true) (hg : Gl X "tuple") (hm : X.mg "tuple" = none) (hg2 : Gl X "range") (hm2 : X.mg "range" = none) (ha : DE X a ta) (na : starEach [a] X.env = (false, eval a X.env) :: starEach [] X.env := by rfl)
    (na2 : starEach [Expr.Call (.Name "range" p2) [a] [] pos2] X.env = (false, eval (.Call (.Name "range" p2) [a] [] pos2) X.env) :: starEach [] X.env := by rfl) : DE X (.Call (.Name "tuple" p) [.Call (.Name "range" p2) [a] [] pos2] [] pos) (dTupR ta) :=
  PE_imp (pe_tupRgF hc hg hm (prg_1 hg2 hm2 ha na) na2) fun σ H Q ⟨ε, S, Q0, rE, rS, q, k⟩ => ⟨ε, S, _, rE, rS, q, fun d S1 v H1 q1 den rS1 f1 => by
    obtain ⟨j, rfl, h0, h1, q2⟩ := q1
    cases (show v = .int j from den)
    exact ⟨j, rfl, RgOk.of_le (Int.le_refl 0) (by omega) (by omega) h0, (k.frame f1).newTup rS1 (denL_rg j) q2⟩⟩
end
end DL

namespace DL
open PySem PySem.Spec PyProof.Rows L2 NdefX LamX
section
variable [Amb] {X : Cx} {pos : Pos}
def dgLst (n : Nat) (u : DTGs) : DTG := fun d ε S Q => ∃ a ds, d = .ref a ∧ S a = some (.lst ds) ∧ ds.length = n ∧ u ds ε S Q
theorem dg_lst {es : List Expr} {k : Nat} {u : DTGs} {n : Nat} {vs : List Nat} (hc : X.calm = true) (h : DGs X es vs u)
    (hn : (assignEach es X.env).length = n := by rfl) (hst : (assignEach es X.env).findIdx? (·.1) = none := by rfl) : DG X (.Tuple es k pos) vs (dgLst n u) :=
  PG_imp (pg_unl hc h hn hst) fun v σ H Q ⟨d, ε, S, Q0, den, rE, rS, ⟨a, ds, e0, e1, e2, q⟩, kk⟩ => by
    subst e0
    cases (show v = .ref a from den)
    obtain ⟨us, hv, hd⟩ := rS.lst e1
    exact ⟨a, us, rfl, SqL.of hv, by rw [hd.length]; exact e2, ds, ε, S, Q0, hd, rE, rS, q, kk⟩
end
end DL

namespace DL
open PySem PySem.Spec PyProof.Rows L2 NdefX LamX
section
variable [Amb] {X : Cx}
def mIndexT : RMD := fun x xs S Q => ∃ (ys : List Str) (k : Str), x = .tup (ys.map D.str) ∧ xs = [.str k] ∧ k ∈ ys ∧ Q (.int (ys.idxOf k : Nat)) S
theorem dm_index : DMt X "tuple.index" mIndexT := by
  intro pins s σ H x xs v us Q I rx rv ⟨d, ds0, S, Q0, d1, d2, rS, ⟨ys, z, e1, e2, hz, q⟩, k⟩
  subst e1 e2
  obtain ⟨a, vs, rfl, hpl, hds⟩ := d1.untup
  obtain ⟨w, w2, rfl, d3, d4⟩ := d2.uncons
  cases d4.nil_eq
  obtain ⟨u, rfl, ru⟩ := rv.one
  cases (show w = .str z from d3)
  obtain ⟨t, rfl⟩ := ru
  cases rx
  cases denL_strs' hds
  obtain ⟨its, r, ht, _⟩ := I.tuple hpl.sq
  exact PySem.SeqAt.tuple_index_strs ht (Vals.strs r) hz ⟨.int _, H, I.tok _, ⟨_, rfl⟩, k _ S _ H q rfl rS Frame.refl⟩
end
end DL

namespace DL
open PySem PySem.Spec PyProof.Rows L2
variable [Amb]
theorem rel_lock {K : PySem.W.Frag} {H : Hp} {S : SD} {p : Addr} {o : HO} {c : Cell} (r : RelS K H S) (hS : S p = none) (hc : CellOk K H p c) (nf : ∀ F, c ≠ .fn F) : RelS K (upd H p o) S ∧ ∀ ds vs, DenL K H ds vs → DenL K (upd H p o) ds vs := by
  have r2 : RelS K H (put S p c) := rel_adopt r hc
  have f : Frame (put S p c) H (put (put S p c) p c) (upd H p o) := frame_put put_same
  refine ⟨⟨fun a x e => ?_, tabs_upd r.tabs fun u hu => ?_⟩, fun ds vs => DenL.frame r2 f ds vs⟩
  · have ha : a ≠ p := by
      rintro rfl
      rw [hS] at e
      cases e
    have g := r.cell a x e
    cases x with
    | lst ds => obtain ⟨vs, e1, e2⟩ := g; exact ⟨vs, by rw [upd_ne ha]; exact e1, DenL.frame r2 f ds vs e2⟩
    | dic kvs => obtain ⟨kv, e1, e2⟩ := g; exact ⟨kv, by rw [upd_ne ha]; exact e1, KVD.frame r2 f e2⟩
    | sat q => obtain ⟨ds, vs, q, e1, e2⟩ := g; exact ⟨ds, vs, q, by rw [upd_ne ha]; exact e1, DenL.frame r2 f ds vs e2⟩
    | fn F =>
      obtain ⟨e1, e2⟩ := g
      refine ⟨(upd_ne ha).trans e1, (upd_ne fun z => ?_).trans e2⟩
      rw [z] at e2
      cases c with
      | lst ds => obtain ⟨vs, y, _⟩ := hc; rw [y] at e2; cases e2
      | dic kvs => obtain ⟨kv, y, _⟩ := hc; rw [y] at e2; cases e2
      | sat q => obtain ⟨ds, vs, _, y, _⟩ := hc; rw [y] at e2; cases e2
      | fn F => exact nf F rfl
  · cases c with
    | lst ds => obtain ⟨vs, e1, e2⟩ := hc; rw [e1] at hu; cases hu; exact ⟨(fun _ z => nomatch z), fun _ z => nomatch z⟩
    | dic kvs => obtain ⟨kv, e1, e2⟩ := hc; rw [e1] at hu; cases hu; exact ⟨(fun _ z => nomatch z), fun _ z => nomatch z⟩
    | sat q => obtain ⟨ds, vs, q, e1, e2⟩ := hc; rw [e1] at hu; cases hu; exact ⟨(fun _ z => nomatch z), fun _ z => nomatch z⟩
    | fn F => exact (nf F rfl).elim
theorem frame_lock {S S' : SD} {H H' : Hp} {p : Addr} {o : HO} (f : Frame S H S' H') (h : H p = none) : Frame S H S' (upd H' p o) := ⟨fun b u e1 e2 n => by
  obtain ⟨q1, q2⟩ := f.keep b u e1 e2 n
  exact ⟨by rw [upd_ne (ne_of_none e2 h)]; exact q1, q2⟩, fun b z => f.there b (upd_there z)⟩
section
variable {X : Cx} {e a b : Expr} {t : DTA} {pos : Pos}
/-- a list just made that nothing will change -/
def dFrz (t : DTA) : DTE := fun ε S Q => t ε S fun ds S1 => Q (.ilst ds) S1
theorem de_frz (h : DF X e t) : DE X e (dFrz t) := ⟨fun pins s σ H Q I ⟨ε, S, Q0, rE, rS, q, k⟩ => by
  refine thn (h.run pins s σ H (fun v H' => ∃ p vs ds S', v = .ref p ∧ H p = none ∧ S' p = none ∧ H' p = some (.lst vs) ∧ DenL X.K H' ds vs ∧ RelS X.K H' S' ∧ Frame S H S' H' ∧ Q0 (.ilst ds) S') I
    ⟨ε, S, _, rE, rS, q, fun ds S' p vs H' q1 h0 hS hp den rS1 f1 => ⟨p, vs, ds, S', rfl, h0, hS, hp, den, rS1, f1, q1⟩⟩) fun v s1 ⟨x, H1, I1, r, p, vs, ds, S1, ex, h0, hS, hp, den, rS1, f1, q1⟩ => ?_
  subst ex
  obtain ⟨od, I2⟩ := I1.lock hp trivial
  obtain ⟨r2, dl⟩ := rel_lock (o := .frz od (.lst vs)) rS1 hS (cell_lst hp den) (fun _ z => nomatch z)
  exact ⟨.ref p, _, I2, r, k (.ilst ds) S1 (.ref p) _ q1 (show ∃ a vs, V.ref p = .ref a ∧ StL X.K _ a vs ∧ DenL X.K _ ds vs from ⟨p, vs, rfl, .inl ⟨od, upd_same⟩, dl ds vs den⟩) r2 (frame_lock f1 h0)⟩⟩
/-- an empty dict that nothing will change -/
theorem de_edic : DE X (.Dict [] [] pos) (dC .edic) := ⟨fun pins s σ H Q I ⟨ε, S, Q0, rE, rS, q, k⟩ => by
  refine thn (pe_dnewK.run pins s σ H (fun v H' => ∃ p, v = .ref p ∧ H p = none ∧ H' = upd H p (.dK [])) I fun p hp => ⟨p, rfl, hp, rfl⟩) fun v s1 ⟨x, H1, I1, r, p, ex, h0, eH⟩ => ?_
  subst ex eH
  have rS1 : RelS X.K (upd H p (.dK [])) S := rS.frame_new h0
  have f1 : Frame S H S (upd H p (.dK [])) := frame_new h0
  obtain ⟨od, I2⟩ := I1.lock (d := p) (u := .dK []) upd_same trivial
  obtain ⟨r2, dl⟩ := rel_lock (p := p) (o := .frz od (.dK [])) (c := .dic []) rS1 (rS.free h0) ⟨[], upd_same, .nil⟩ (fun _ z => nomatch z)
  exact ⟨.ref p, _, I2, r, k .edic S (.ref p) _ q (show ∃ a o, V.ref p = .ref a ∧ _ = _ from ⟨p, od, rfl, upd_same⟩) r2 (frame_lock f1 h0)⟩⟩
/-- x == (), x a tuple of whatever -/
def rEqU : R2D := fun x y S Q => ∃ ds, x = .tup ds ∧ y = .tup [] ∧ Q (.bl ds.isEmpty) S
theorem dop_eqU (hu : X.A.units < cLine) : DOp X (compareOp .Eq) rEqU := by
  intro pins s σ H x y v u Q I rx ry ⟨d, e, S, Q0, d1, d2, rS, ⟨ds, e1, e2, q⟩, k⟩
  subst e1 e2
  obtain ⟨a, vs, rfl, h1, l1⟩ := d1.untup
  obtain ⟨b, us, rfl, h2, l2⟩ := d2.untup
  cases l2.nil_eq
  cases (show v = Value.ref a from rx)
  cases (show u = Value.ref b from ry)
  obtain ⟨ws, r1, p1, _⟩ := I.tuple h1.sq
  obtain ⟨w2, r2, p2, _⟩ := I.tuple h2.sq
  cases r2
  refine SeqAt.rcIn_tuples (e := fun _ => true) p1 p2 hu (fun j _ h2 => absurd h2 (by simp)) ?_
  have hl : ws.length = ds.length := by rw [← r1.length, l1.length]
  have e : ((List.range (min ws.toArray.size ([] : List Value).toArray.size)).all (fun _ => true) && ws.toArray.size == ([] : List Value).toArray.size) = ds.isEmpty := by
    cases ds with
    | nil =>
      have : ws = [] := List.length_eq_zero_iff.mp (by simpa using hl)
      subst this
      rfl
    | cons d ds =>
      cases ws with
      | nil => simp at hl
      | cons => simp
  rw [e]
  exact ⟨.bl _, H, I, rfl, k _ S _ H q rfl rS Frame.refl⟩
end
end DL

namespace DL
open PySem PySem.Spec PyProof.Rows L2
variable [Amb]
def ItZp (K : PySem.W.Frag) (a b : Addr) : It :=
  ⟨fun n H => ∃ (us ws : List V) (u w : V), SqT K H a us ∧ SqT K H b ws ∧ us[n]? = some u ∧ ws[n]? = some w,
   fun n H v H' => ∃ T o u w, PlainO o ∧ v = .ref T ∧ H T = none ∧ H' = upd H T (.frz o (.tup [u, w])) ∧ (∀ us, SqT K H a us → us[n]? = some u) ∧ ∀ ws, SqT K H b ws → ws[n]? = some w,
   fun n H => ∃ us ws : List V, SqT K H a us ∧ SqT K H b ws ∧ (us.length ≤ n ∨ ws.length ≤ n)⟩
theorem turn_zp {P : Program} {w : World} {K : PySem.W.Frag} {elts : List Expr} {kk : Nat} {tpos : Pos} {a b z t1 t2 i1 i2 : Addr} (Ap : ZipApart z t1 t2 i1 i2 a b) :
    Turn P w K (.Tuple elts kk tpos) (ItZp K a b) [z, t1, t2, i1, i2] z (fun n h => IsZip h z t1 t2 .none ∧ IsPair h t1 (.ref i1) (.ref i2) ∧ (∃ u w, IsPair h t2 u w) ∧ h.IsTupleIter i1 a n ∧ h.IsTupleIter i2 b n) where
  mem := List.mem_cons_self
  obj := fun n h st c hc => by
    obtain ⟨sz, s1, ⟨u, w, s2⟩, ⟨o1, e1, _, d1⟩, ⟨o2, e2, _, d2⟩⟩ := st
    have q : c = z ∨ c = t1 ∨ c = t2 ∨ c = i1 ∨ c = i2 := by simpa using hc
    rcases q with rfl | rfl | rfl | rfl | rfl
    · exact ⟨_, sz, fun v y => nomatch y⟩
    · exact ⟨_, s1, fun v y => nomatch y⟩
    · exact ⟨_, s2, fun v y => nomatch y⟩
    · exact ⟨o1, e1, fun v y => by rw [d1] at y; cases y⟩
    · exact ⟨o2, e2, fun v y => by rw [d2] at y; cases y⟩
  keep := fun n h h' st k => by
    obtain ⟨sz, s1, ⟨u, w, s2⟩, j1, j2⟩ := st
    exact ⟨k z (by simp) _ sz, k t1 (by simp) _ s1, ⟨u, w, k t2 (by simp) _ s2⟩, j1.at fun o y => k i1 (by simp) o y, j2.at fun o y => k i2 (by simp) o y⟩
  item := by
    intro X eP ew eK hc n pins s σ H E I hf st hg
    subst eP ew eK
    obtain ⟨sz, s1, ⟨p0, q0, s2⟩, j1, j2⟩ := st
    obtain ⟨us, ws, u, w, qu, qw, gu, gw⟩ := hg
    obtain ⟨xs, rx, px, _⟩ := I.tuple qu
    obtain ⟨ys, ry, py, _⟩ := I.tuple qw
    obtain ⟨x, gx, rux⟩ := rx.get gu
    obtain ⟨y, gy, ruy⟩ := ry.get gw
    have lz : z < s.heap.objs.size := Heap.lt_size sz
    have hT : H s.heap.objs.size = none := I.hok.fresh (Nat.le_refl _)
    have hlt : ∀ c ∈ [z, t1, t2, i1, i2], c ≠ s.heap.objs.size := fun c hcm => by
      have q : c = z ∨ c = t1 ∨ c = t2 ∨ c = i1 ∨ c = i2 := by simpa using hcm
      rcases q with rfl | rfl | rfl | rfl | rfl
      · exact Nat.ne_of_lt lz
      · exact Nat.ne_of_lt (Heap.lt_size s1)
      · exact Nat.ne_of_lt (Heap.lt_size s2)
      · obtain ⟨_, e1, _⟩ := j1; exact Nat.ne_of_lt (Heap.lt_size e1)
      · obtain ⟨_, e2, _⟩ := j2; exact Nat.ne_of_lt (Heap.lt_size e2)
    refine RZ.pyNext_zipT_item Ap sz s1 s2 j1 j2 px py (x := x) (y := y) (by simpa using gx) (by simpa using gy) fun h1 m1 m2 k1 k2 mT msz mk => ⟨_, rfl, wpAny_letOwnedTupleGo_zip (s := { s with heap := h1 }) m1 fun h2 m3 sb => ?_⟩
    have mT2 : h2.get? s.heap.objs.size = some { cls := .type "tuple", data := .seq #[x, y] } := (sb.2 _ (Nat.ne_of_gt lz)).trans mT
    have new : ObjOk X.prog X.w (upd H s.heap.objs.size (.frz { cls := .type "tuple", data := .seq #[x, y] } (.tup [u, w]))) h2 s.heap.objs.size (.frz { cls := .type "tuple", data := .seq #[x, y] } (.tup [u, w])) :=
      ⟨mT2, by show 2 ≤ sizeLine; decide, [x, y], .cons rux (.cons ruy .nil), ⟨_, mT2, rfl, _, rfl⟩⟩
    have I1 : Inv X pins σ (upd H s.heap.objs.size (.frz { cls := .type "tuple", data := .seq #[x, y] } (.tup [u, w]))) { s with heap := h2 } :=
      I.turnedNew (t' := s.toks) (ch := [z, t1, t2, i1, i2]) (fun c o hb g => (sb.2 c (fun y => hb (by simp [y]))).trans (mk c o (fun y => hb (by simp [y])) (fun y => hb (by simp [y])) (fun y => hb (by simp [y])) (fun y => hb (by simp [y])) g)) hf (Nat.le_refl _) new
    refine ⟨.ref s.heap.objs.size, _, I1, rfl, ⟨s.heap.objs.size, _, u, w, ⟨rfl, rfl, _, _, rfl⟩, rfl, hT, rfl, fun l hl => by rw [I.tuple_inj hl qu]; exact gu, fun l hl => by rw [I.tuple_inj hl qw]; exact gw⟩, ⟨m3, ?_, ⟨x, y, ?_⟩, ?_, ?_⟩, fun c hcm => ?_⟩
    · exact (sb.2 _ Ap.TIz).trans (mk _ _ Ap.TIz Ap.TITO Ap.TIi1 Ap.TIi2 s1)
    · exact (sb.2 _ Ap.TOz).trans m2
    · exact k1.at fun o g => (sb.2 _ Ap.i1z).trans g
    · exact k2.at fun o g => (sb.2 _ Ap.i2z).trans g
    · rw [upd_ne (hlt c hcm)]
      exact (hf c hcm).1
  done := by
    intro X eP ew eK hc n pins s σ H E I hf st hg
    subst eP ew eK
    obtain ⟨sz, s1, ⟨p0, q0, s2⟩, j1, j2⟩ := st
    obtain ⟨us, ws, qu, qw, hend⟩ := hg
    obtain ⟨xs, rx, px, _⟩ := I.tuple qu
    obtain ⟨ys, ry, py, _⟩ := I.tuple qw
    have n1 := rx.length
    have n2 := ry.length
    have he : xs.toArray[n]? = none ∨ ys.toArray[n]? = none := by
      rcases hend with y | y
      · exact .inl (by simp; omega)
      · exact .inr (by simp; omega)
    exact RZ.pyNext_zipT_end (I.ok.hd hc) Ap sz s1 s2 j1 j2 px py he fun h1 mk => ⟨rfl, I.turnedL (t' := s.toks) (ch := [z, t1, t2, i1, i2]) (fun c o hb g =>
      mk c o (fun y => hb (by simp [y])) (fun y => hb (by simp [y])) (fun y => hb (by simp [y])) (fun y => hb (by simp [y])) g) hf⟩
  self := fun A n s Q E st k => wpAny_pyIter_zip st.1 k
def iZp (K : PySem.W.Frag) (ta : TA) : TI := fun σ H R => ta σ H fun vs H1 => ∃ a b us ws, vs = [.ref a, .ref b] ∧ SqT K H1 a us ∧ SqT K H1 b ws ∧ R (ItZp K a b) H1
theorem pi_zp {X : Cx} {e e2 : Expr} {ta : TA} {p pos tpos : Pos} {elts : List Expr} {kk : Nat} (hg : Gl X "zip") (hm : X.mg "zip" = none) (ha : PA X [e, e2] ta)
    (hs : starEach [e, e2] X.env = (false, eval e X.env) :: starEach [e2] X.env := by rfl) (hpl : (backTo pos (starEach [e2] X.env)).any (·.1) = false := by rfl) :
    PI X (.Tuple elts kk tpos) (.Call (.Name "zip" p) [e, e2] [] pos) (iZp X.K ta) := by
  refine ⟨fun pins s σ H R I h => Call_ (ld_blt I hg hm PyProof.Rows.boot_zip (PyProof.Rows.callWith_type1 (thn (ha.run pos pins s σ H _ I h) ?_) hs hpl))⟩
  rintro vs s1 ⟨us, H1, I1, r1, a, b, xs, ys, rfl, qx, qy, q1⟩
  cases r1 with
  | cons r rr =>
    cases rr with
    | cons r' rr =>
      cases rr
      cases r
      cases r'
      have fresh : ∀ c, c ∈ [s1.heap.objs.size + 4, s1.heap.objs.size + 2, s1.heap.objs.size + 3, s1.heap.objs.size, s1.heap.objs.size + 1] → FpOk X pins H1 c := fun c hcm => by
        have hle : s1.heap.objs.size ≤ c := by
          have q : c = s1.heap.objs.size + 4 ∨ c = s1.heap.objs.size + 2 ∨ c = s1.heap.objs.size + 3 ∨ c = s1.heap.objs.size ∨ c = s1.heap.objs.size + 1 := by simpa using hcm
          omega
        exact I1.fpOk hle (I1.hok.fresh hle)
      obtain ⟨as, ra, pa, _⟩ := I1.tuple qx
      obtain ⟨bs, rb, pb, _⟩ := I1.tuple qy
      obtain ⟨o1, g1, _⟩ := id pa
      obtain ⟨o2, g2, _⟩ := id pb
      refine RZ.call_zipT (show s1.heap.IsTuple a as.toArray from pa) (show s1.heap.IsTuple b bs.toArray from pb) fun h1 mz m1 m2 k1 k2 msz mk => wpAny_pyIter_zip mz ?_
      have I2 : Inv X pins σ H1 { s1 with heap := h1 } := I1.kept (t' := s1.toks) mk
      exact ⟨s1.heap.objs.size + 4, [s1.heap.objs.size + 4, s1.heap.objs.size + 2, s1.heap.objs.size + 3, s1.heap.objs.size, s1.heap.objs.size + 1], _, _, H1, rfl, I2, turn_zp (PySem.W.ktu_apart s1.heap.objs.size a b (Heap.lt_size g1) (Heap.lt_size g2)), ⟨mz, m1, ⟨_, _, m2⟩, k1, k2⟩, fresh, q1⟩
/-- the items in pairs -/
def pairsOf : List D → List D → List D
  | d :: ds, e :: es => D.tup [d, e] :: pairsOf ds es
  | _, _ => []
theorem pairsOf_get : ∀ (ds es : List D) (i : Nat), (pairsOf ds es)[i]? = (ds[i]?).bind fun d => (es[i]?).map fun e => D.tup [d, e]
  | [], es, i => by simp [pairsOf]
  | d :: ds, [], i => by
    unfold pairsOf
    cases (d :: ds)[i]? <;> simp
  | d :: ds, e :: es, 0 => by simp [pairsOf]
  | d :: ds, e :: es, i + 1 => by
    show (pairsOf ds es)[i]? = _
    rw [pairsOf_get ds es i, List.getElem?_cons_succ, List.getElem?_cons_succ]
theorem pairsOf_length : ∀ (ds es : List D), (pairsOf ds es).length = min ds.length es.length
  | [], es => by simp [pairsOf]
  | d :: ds, [] => by simp [pairsOf]
  | d :: ds, e :: es => by
    show (pairsOf ds es).length + 1 = _
    rw [pairsOf_length ds es, List.length_cons, List.length_cons]
    omega
section
variable {X : Cx} {a b : Expr} {ta : DTA} {pos p : Pos}
def dZip (ta : DTA) : DTI := fun ε S R => ta ε S fun xs S1 => ∃ ds es, xs = [.tup ds, .tup es] ∧ R (pairsOf ds es) Yes S1
theorem di_zip {tpos : Pos} {elts : List Expr} {kk : Nat} (hg : Gl X "zip") (hm : X.mg "zip" = none) (ha : DA X [a, b] ta)
    (hs : starEach [a, b] X.env = (false, eval a X.env) :: starEach [b] X.env := by rfl) (hpl : (backTo pos (starEach [b] X.env)).any (·.1) = false := by rfl) :
    DI X (.Tuple elts kk tpos) (.Call (.Name "zip" p) [a, b] [] pos) (dZip ta) :=
  PI_imp (pi_zp hg hm ha hs hpl) fun σ H R ⟨ε, S, R0, rE, rS, q, k⟩ => ⟨ε, S, _, rE, rS, q, fun xs S1 vs H1 q1 den rS1 f1 => by
    obtain ⟨ds, es, rfl, q1⟩ := q1
    obtain ⟨v, r, rfl, d1, d0⟩ := den.uncons
    obtain ⟨v2, r2, rfl, d2, d3⟩ := DenL.uncons d0
    cases d3.nil_eq
    obtain ⟨x, us, rfl, hst, hd⟩ := d1.untup
    obtain ⟨y, ws, rfl, gst, gd⟩ := Den.untup d2
    refine ⟨x, y, us, ws, rfl, hst.sq, gst.sq, k _ Yes S1 H1 _ q1 rS1 f1 fun i S2 H2 rS2 f2 _ => ?_⟩
    have hst2 := (plT_frame rS1 f2 hst).sq
    have gst2 := (plT_frame rS1 f2 gst).sq
    have hd2 := DenL.frame rS1 f2 ds us hd
    have gd2 := DenL.frame rS1 f2 es ws gd
    have l1 := hd2.length
    have l2 := gd2.length
    refine ⟨fun hi => ⟨us, ws, hst2, gst2, by
      rw [pairsOf_length] at hi
      omega⟩, fun d hi => ?_⟩
    rw [pairsOf_get] at hi
    obtain ⟨d1, e1, hi⟩ := Option.bind_eq_some_iff.mp hi
    obtain ⟨d2, e2, rfl⟩ := Option.map_eq_some_iff.mp hi
    obtain ⟨u, hu, du⟩ := hd2.get e1
    obtain ⟨w, hw, dw⟩ := gd2.get e2
    refine ⟨⟨us, ws, u, w, hst2, gst2, hu, hw⟩, fun z H3 hyld => ?_⟩
    obtain ⟨T, o, u', w', po, rfl, hT, rfl, g1, g2⟩ := hyld
    have y1 := g1 us hst2
    have y2 := g2 ws gst2
    rw [hu] at y1
    rw [hw] at y2
    cases y1
    cases y2
    exact den_pair rS2 po hT du dw⟩
end
end DL

namespace FL
open PySem PySem.Spec PyProof.Rows L2 DL

/-- what a slot holds: a value, or a list or dict of its own -/
inductive PV where
  | val (d : D)
  | lst (ds : List D)
  | dic (ks : List Key) (ps : List PV)
  | lsts (ps : List PV)
  | ptup (ps : List PV)
  | cb (k : Nat)
  deriving Inhabited
/-- the functions that a def got -/
class Cbs where
  cb : Nat → Addr → FK → Prop
instance (priority := low) : Cbs := ⟨fun _ _ _ => False⟩
variable [Cbs]
mutual
def Own (S : SD) : PV → D → List Addr → Prop
  | .val d, x, fp => x = d ∧ fp = []
  | .lst ds, x, fp => ∃ a, x = .ref a ∧ fp = [a] ∧ S a = some (.lst ds)
  | .dic ks ps, x, fp => ∃ a ds fq, x = .ref a ∧ fp = a :: fq ∧ S a = some (.dic (ks.zip ds)) ∧ ks.length = ps.length ∧ OwnL S ps ds fq
  | .lsts ps, x, fp => ∃ a ds fq, x = .ref a ∧ fp = a :: fq ∧ S a = some (.lst ds) ∧ OwnL S ps ds fq
  | .ptup ps, x, fp => ∃ ds, x = .tup ds ∧ OwnL S ps ds fp
  | .cb k, x, fp => ∃ a F, x = .ref a ∧ fp = [a] ∧ S a = some (.fn F) ∧ Cbs.cb k a F
def OwnL (S : SD) : List PV → List D → List Addr → Prop
  | [], ds, fp => ds = [] ∧ fp = []
  | p :: ps, ds, fp => ∃ d r f1 f2, ds = d :: r ∧ fp = f1 ++ f2 ∧ Own S p d f1 ∧ OwnL S ps r f2
end
abbrev PEnv := List (Option PV)
def OwnO (S : SD) : Option PV → Option D → List Addr → Prop
  | none, _, fp => fp = []
  | some p, x, fp => ∃ d, x = some d ∧ Own S p d fp
def OwnE (S : SD) : PEnv → ED → List Addr → Prop
  | [], ε, fp => ε = [] ∧ fp = []
  | o :: r, ε, fp => ∃ x rd f1 f2, ε = x :: rd ∧ fp = f1 ++ f2 ∧ OwnO S o x f1 ∧ OwnE S r rd f2

section
variable {S S' : SD}
theorem own_val {d : D} : Own S (.val d) d [] := by
  unfold Own
  exact ⟨rfl, rfl⟩
theorem own_lst {a : Addr} {ds : List D} (h : S a = some (.lst ds)) : Own S (.lst ds) (.ref a) [a] := by
  unfold Own
  exact ⟨a, rfl, rfl, h⟩
theorem Own.val {d x : D} {fp : List Addr} (h : Own S (.val d) x fp) : x = d ∧ fp = [] := by
  unfold Own at h
  exact h
theorem Own.lst {ds : List D} {x : D} {fp : List Addr} (h : Own S (.lst ds) x fp) : ∃ a, x = .ref a ∧ fp = [a] ∧ S a = some (.lst ds) := by
  unfold Own at h
  exact h
theorem Own.dic {ks : List Key} {ps : List PV} {x : D} {fp : List Addr} (h : Own S (.dic ks ps) x fp) : ∃ a ds fq, x = .ref a ∧ fp = a :: fq ∧ S a = some (.dic (ks.zip ds)) ∧ ks.length = ps.length ∧ OwnL S ps ds fq := by
  unfold Own at h
  exact h
theorem Own.lsts {ps : List PV} {x : D} {fp : List Addr} (h : Own S (.lsts ps) x fp) : ∃ a ds fq, x = .ref a ∧ fp = a :: fq ∧ S a = some (.lst ds) ∧ OwnL S ps ds fq := by
  unfold Own at h
  exact h
theorem Own.ptup {ps : List PV} {x : D} {fp : List Addr} (h : Own S (.ptup ps) x fp) : ∃ ds, x = .tup ds ∧ OwnL S ps ds fp := by
  unfold Own at h
  exact h
theorem Own.cb {k : Nat} {x : D} {fp : List Addr} (h : Own S (.cb k) x fp) : ∃ a F, x = .ref a ∧ fp = [a] ∧ S a = some (.fn F) ∧ Cbs.cb k a F := by
  unfold Own at h
  exact h
theorem own_cb {k : Nat} {a : Addr} {F : FK} (h : S a = some (.fn F)) (c : Cbs.cb k a F) : Own S (.cb k) (.ref a) [a] := by
  unfold Own
  exact ⟨a, F, rfl, rfl, h, c⟩
theorem own_ptup {ps : List PV} {ds : List D} {fp : List Addr} (h : OwnL S ps ds fp) : Own S (.ptup ps) (.tup ds) fp := by
  unfold Own
  exact ⟨ds, rfl, h⟩
theorem own_dic {ks : List Key} {ps : List PV} {a : Addr} {ds : List D} {fq : List Addr} (h : S a = some (.dic (ks.zip ds))) (hl : ks.length = ps.length) (o : OwnL S ps ds fq) : Own S (.dic ks ps) (.ref a) (a :: fq) := by
  unfold Own
  exact ⟨a, ds, fq, rfl, rfl, h, hl, o⟩
theorem own_lsts {ps : List PV} {a : Addr} {ds : List D} {fq : List Addr} (h : S a = some (.lst ds)) (o : OwnL S ps ds fq) : Own S (.lsts ps) (.ref a) (a :: fq) := by
  unfold Own
  exact ⟨a, ds, fq, rfl, rfl, h, o⟩
theorem ownL_nil : OwnL S [] [] [] := by
  unfold OwnL
  exact ⟨rfl, rfl⟩
theorem ownL_cons {p : PV} {ps : List PV} {d : D} {ds : List D} {f1 f2 : List Addr} (h : Own S p d f1) (g : OwnL S ps ds f2) : OwnL S (p :: ps) (d :: ds) (f1 ++ f2) := by
  unfold OwnL
  exact ⟨d, ds, f1, f2, rfl, rfl, h, g⟩
theorem OwnL.nil {ds : List D} {fp : List Addr} (h : OwnL S [] ds fp) : ds = [] ∧ fp = [] := by
  unfold OwnL at h
  exact h
theorem OwnL.cons {p : PV} {ps : List PV} {ds : List D} {fp : List Addr} (h : OwnL S (p :: ps) ds fp) : ∃ d r f1 f2, ds = d :: r ∧ fp = f1 ++ f2 ∧ Own S p d f1 ∧ OwnL S ps r f2 := by
  unfold OwnL at h
  exact h
mutual
theorem Own.dom : ∀ (p : PV) {x : D} {fp : List Addr}, Own S p x fp → ∀ a ∈ fp, ∃ c, S a = some c
  | .val d, x, fp, h, a, ha => by
    rw [h.val.2] at ha
    cases ha
  | .lst ds, x, fp, h, a, ha => by
    obtain ⟨b, _, rfl, e⟩ := h.lst
    rw [List.mem_singleton] at ha
    subst ha
    exact ⟨_, e⟩
  | .dic ks ps, x, fp, h, a, ha => by
    obtain ⟨b, ds, fq, _, rfl, e, _, o⟩ := h.dic
    rcases List.mem_cons.mp ha with rfl | ha
    · exact ⟨_, e⟩
    · exact OwnL.dom ps o a ha
  | .lsts ps, x, fp, h, a, ha => by
    obtain ⟨b, ds, fq, _, rfl, e, o⟩ := h.lsts
    rcases List.mem_cons.mp ha with rfl | ha
    · exact ⟨_, e⟩
    · exact OwnL.dom ps o a ha
  | .ptup ps, x, fp, h, a, ha => by
    obtain ⟨ds, _, o⟩ := h.ptup
    exact OwnL.dom ps o a ha
  | .cb k, x, fp, h, a, ha => by
    obtain ⟨b, F, _, rfl, e, _⟩ := h.cb
    rw [List.mem_singleton] at ha
    subst ha
    exact ⟨_, e⟩
theorem OwnL.dom : ∀ (ps : List PV) {ds : List D} {fp : List Addr}, OwnL S ps ds fp → ∀ a ∈ fp, ∃ c, S a = some c
  | [], ds, fp, h, a, ha => by
    rw [h.nil.2] at ha
    cases ha
  | p :: ps, ds, fp, h, a, ha => by
    obtain ⟨d, r, f1, f2, _, rfl, h1, h2⟩ := h.cons
    rcases List.mem_append.mp ha with ha | ha
    · exact Own.dom p h1 a ha
    · exact OwnL.dom ps h2 a ha
end
mutual
theorem Own.frame : ∀ (p : PV) {x : D} {fp : List Addr}, Own S p x fp → (∀ a ∈ fp, S' a = S a) → Own S' p x fp
  | .val d, x, fp, h, k => by
    obtain ⟨rfl, rfl⟩ := h.val
    exact own_val
  | .lst ds, x, fp, h, k => by
    obtain ⟨b, rfl, rfl, e⟩ := h.lst
    exact own_lst (by rw [k b (by simp)]; exact e)
  | .dic ks ps, x, fp, h, k => by
    obtain ⟨b, ds, fq, rfl, rfl, e, hl, o⟩ := h.dic
    exact own_dic (by rw [k b (by simp)]; exact e) hl (OwnL.frame ps o fun a ha => k a (List.mem_cons_of_mem _ ha))
  | .lsts ps, x, fp, h, k => by
    obtain ⟨b, ds, fq, rfl, rfl, e, o⟩ := h.lsts
    exact own_lsts (by rw [k b (by simp)]; exact e) (OwnL.frame ps o fun a ha => k a (List.mem_cons_of_mem _ ha))
  | .ptup ps, x, fp, h, k => by
    obtain ⟨ds, rfl, o⟩ := h.ptup
    exact own_ptup (OwnL.frame ps o k)
  | .cb n, x, fp, h, k => by
    obtain ⟨b, F, rfl, rfl, e, c⟩ := h.cb
    exact own_cb (by rw [k b (by simp)]; exact e) c
theorem OwnL.frame : ∀ (ps : List PV) {ds : List D} {fp : List Addr}, OwnL S ps ds fp → (∀ a ∈ fp, S' a = S a) → OwnL S' ps ds fp
  | [], ds, fp, h, k => by
    obtain ⟨rfl, rfl⟩ := h.nil
    exact ownL_nil
  | p :: ps, ds, fp, h, k => by
    obtain ⟨d, r, f1, f2, rfl, rfl, h1, h2⟩ := h.cons
    exact ownL_cons (Own.frame p h1 fun a ha => k a (List.mem_append_left _ ha)) (OwnL.frame ps h2 fun a ha => k a (List.mem_append_right _ ha))
end
theorem OwnO.dom {o : Option PV} {x : Option D} {fp : List Addr} (h : OwnO S o x fp) : ∀ a ∈ fp, ∃ c, S a = some c := by
  cases o with
  | none => intro a ha; rw [show fp = [] from h] at ha; cases ha
  | some p => obtain ⟨d, _, h⟩ := h; exact h.dom p
theorem OwnO.frame {o : Option PV} {x : Option D} {fp : List Addr} (h : OwnO S o x fp) (k : ∀ a ∈ fp, S' a = S a) : OwnO S' o x fp := by
  cases o with
  | none => exact h
  | some p => obtain ⟨d, e, h⟩ := h; exact ⟨d, e, h.frame p k⟩
theorem OwnE.dom : ∀ {εp : PEnv} {ε : ED} {fp : List Addr}, OwnE S εp ε fp → ∀ a ∈ fp, ∃ c, S a = some c
  | [], ε, fp, h, a, ha => by rw [h.2] at ha; cases ha
  | o :: r, ε, fp, h, a, ha => by
    obtain ⟨x, rd, f1, f2, rfl, rfl, h1, h2⟩ := h
    rcases List.mem_append.mp ha with ha | ha
    · exact h1.dom a ha
    · exact OwnE.dom h2 a ha
theorem OwnE.frame : ∀ {εp : PEnv} {ε : ED} {fp : List Addr}, OwnE S εp ε fp → (∀ a ∈ fp, S' a = S a) → OwnE S' εp ε fp
  | [], ε, fp, h, k => h
  | o :: r, ε, fp, h, k => by
    obtain ⟨x, rd, f1, f2, rfl, rfl, h1, h2⟩ := h
    exact ⟨x, rd, f1, f2, rfl, rfl, h1.frame fun a ha => k a (List.mem_append_left _ ha), OwnE.frame h2 fun a ha => k a (List.mem_append_right _ ha)⟩
theorem OwnE.length : ∀ {εp : PEnv} {ε : ED} {fp : List Addr}, OwnE S εp ε fp → ε.length = εp.length
  | [], ε, fp, h => by rw [h.1]; rfl
  | o :: r, ε, fp, h => by
    obtain ⟨x, rd, f1, f2, rfl, rfl, h1, h2⟩ := h
    rw [List.length_cons, List.length_cons, OwnE.length h2]
theorem perm_mid {f1 f2 g1 g2 : List Addr} (h : f2.Perm (g1 ++ g2)) : (f1 ++ f2).Perm (g1 ++ (f1 ++ g2)) :=
  (List.Perm.append_left f1 h).trans (by
    rw [← List.append_assoc, ← List.append_assoc]
    exact List.Perm.append_right g2 List.perm_append_comm)
/-- a slot's part, and the rest -/
theorem OwnE.take : ∀ {εp : PEnv} {ε : ED} {fp : List Addr} {i : Nat} {p : PV}, OwnE S εp ε fp → εp[i]? = some (some p) →
    ∃ d fq fr, ε[i]? = some (some d) ∧ Own S p d fq ∧ OwnE S (εp.set i none) ε fr ∧ fp.Perm (fq ++ fr)
  | [], ε, fp, i, p, h, e => by simp at e
  | o :: r, ε, fp, 0, p, h, e => by
    obtain ⟨x, rd, f1, f2, rfl, rfl, h1, h2⟩ := h
    have e' : o = some p := by simpa using e
    subst e'
    obtain ⟨d, rfl, h1⟩ := h1
    exact ⟨d, f1, f2, rfl, h1, ⟨some d, rd, [], f2, rfl, rfl, rfl, h2⟩, List.Perm.refl _⟩
  | o :: r, ε, fp, i + 1, p, h, e => by
    obtain ⟨x, rd, f1, f2, rfl, rfl, h1, h2⟩ := h
    obtain ⟨d, fq, fr, e1, h3, h4, pm⟩ := OwnE.take (i := i) h2 (by simpa using e)
    exact ⟨d, fq, f1 ++ fr, by simpa using e1, h3, ⟨x, rd, f1, fr, rfl, rfl, h1, h4⟩, perm_mid pm⟩
theorem OwnE.give : ∀ {εp : PEnv} {ε : ED} {fr : List Addr} {i : Nat} {p : PV} {d : D} {fq : List Addr}, OwnE S εp ε fr → εp[i]? = some none → ε[i]? = some (some d) → Own S p d fq →
    ∃ fp, OwnE S (εp.set i (some p)) ε fp ∧ fp.Perm (fq ++ fr)
  | [], ε, fr, i, p, d, fq, h, e, e1, o => by simp at e
  | o :: r, ε, fr, 0, p, d, fq, h, e, e1, ho => by
    obtain ⟨x, rd, f1, f2, rfl, rfl, h1, h2⟩ := h
    have e' : o = none := by simpa using e
    subst e'
    cases (show f1 = [] from h1)
    have e2 : x = some d := by simpa using e1
    exact ⟨fq ++ f2, ⟨x, rd, fq, f2, rfl, rfl, ⟨d, e2, ho⟩, h2⟩, List.Perm.refl _⟩
  | o :: r, ε, fr, i + 1, p, d, fq, h, e, e1, ho => by
    obtain ⟨x, rd, f1, f2, rfl, rfl, h1, h2⟩ := h
    obtain ⟨fp, h3, pm⟩ := OwnE.give (i := i) h2 (by simpa using e) (by simpa using e1) ho
    exact ⟨f1 ++ fp, ⟨x, rd, f1, fp, rfl, rfl, h1, h3⟩, perm_mid pm⟩
theorem OwnE.drop : ∀ {εp : PEnv} {ε : ED} {fp : List Addr} (i : Nat), OwnE S εp ε fp → ∃ fr, OwnE S (εp.set i none) ε fr ∧ fr.Sublist fp
  | [], ε, fp, i, h => ⟨fp, h, List.Sublist.refl _⟩
  | o :: r, ε, fp, 0, h => by
    obtain ⟨x, rd, f1, f2, rfl, rfl, h1, h2⟩ := h
    exact ⟨f2, ⟨x, rd, [], f2, rfl, rfl, rfl, h2⟩, List.sublist_append_right _ _⟩
  | o :: r, ε, fp, i + 1, h => by
    obtain ⟨x, rd, f1, f2, rfl, rfl, h1, h2⟩ := h
    obtain ⟨fr, h3, sb⟩ := OwnE.drop i h2
    exact ⟨f1 ++ fr, ⟨x, rd, f1, fr, rfl, rfl, h1, h3⟩, List.Sublist.append (List.Sublist.refl _) sb⟩
/-- of a slot that tells nothing the value may be any -/
theorem OwnE.real : ∀ {εp : PEnv} {ε : ED} {fp : List Addr} {i : Nat} (x : Option D), OwnE S εp ε fp → εp[i]? = some none → OwnE S εp (ε.set i x) fp
  | [], ε, fp, i, x, h, e => by simp at e
  | o :: r, ε, fp, 0, y, h, e => by
    obtain ⟨x, rd, f1, f2, rfl, rfl, h1, h2⟩ := h
    have e' : o = none := by simpa using e
    subst e'
    exact ⟨y, rd, f1, f2, rfl, rfl, h1, h2⟩
  | o :: r, ε, fp, i + 1, y, h, e => by
    obtain ⟨x, rd, f1, f2, rfl, rfl, h1, h2⟩ := h
    exact ⟨x, rd.set i y, f1, f2, rfl, rfl, h1, OwnE.real y h2 (by simpa using e)⟩

structure St (S : SD) (εp : PEnv) (ε : ED) (fp : List Addr) : Prop where
  own : OwnE S εp ε fp
  nd : fp.Nodup
/-- what may have come since -/
structure Nx (S : SD) (fp : List Addr) (S' : SD) (fp' : List Addr) : Prop where
  grow : ∀ a ∈ fp', a ∈ fp ∨ S a = none
  ext : Ext fp S S'
theorem Nx.refl {S : SD} {fp : List Addr} : Nx S fp S fp := ⟨fun _ h => .inl h, Ext.refl⟩
theorem Nx.sub {S : SD} {fp fp' : List Addr} (h : ∀ a ∈ fp', a ∈ fp) : Nx S fp S fp' := ⟨fun a q => .inl (h a q), Ext.refl⟩
theorem Nx.trans {S S1 S2 : SD} {fp fp1 fp2 : List Addr} (a : Nx S fp S1 fp1) (b : Nx S1 fp1 S2 fp2) : Nx S fp S2 fp2 := by
  refine ⟨fun x hx => ?_, fun q c hq hc => ?_⟩
  · rcases b.grow x hx with h | h
    · exact a.grow x h
    · by_cases hf : x ∈ fp
      · exact .inl hf
      · cases e : S x with
        | none => exact .inr rfl
        | some c =>
          rw [a.ext x c hf e] at h
          cases h
  · refine b.ext q c (fun z => ?_) (a.ext q c hq hc)
    rcases a.grow q z with y | y
    · exact hq y
    · rw [hc] at y; cases y
theorem perm_nodup {a b : List Addr} (p : a.Perm b) (h : a.Nodup) : b.Nodup := p.nodup_iff.mp h
theorem nodup_app {f g : List Addr} (h : f.Nodup) (k : g.Nodup) (d : ∀ a ∈ f, a ∈ g → False) : (f ++ g).Nodup := by
  rw [List.nodup_append]
  exact ⟨h, k, fun a ha b hb e => d a ha (e ▸ hb)⟩
theorem app_nodup {f g : List Addr} (h : (f ++ g).Nodup) : f.Nodup ∧ g.Nodup ∧ ∀ a ∈ f, a ∈ g → False := by
  rw [List.nodup_append] at h
  exact ⟨h.1, h.2.1, fun a ha hb => h.2.2 a ha a hb rfl⟩
/-- of two parts side by side one was worked on: the other is as it was -/
theorem Nx.rest {fq fr fq' : List Addr} (n : (fq ++ fr).Nodup) (x : Nx S fq S' fq') (dom : ∀ a ∈ fr, ∃ c, S a = some c) (nd' : fq'.Nodup) :
    (∀ a ∈ fr, S' a = S a) ∧ (fq' ++ fr).Nodup ∧ Nx S (fq ++ fr) S' (fq' ++ fr) := by
  obtain ⟨n1, n2, n3⟩ := app_nodup n
  refine ⟨fun a ha => ?_, nodup_app nd' n2 fun a ha hb => ?_, ⟨fun a ha => ?_, fun q c hq hc => ?_⟩⟩
  · obtain ⟨c, hc⟩ := dom a ha
    rw [hc]
    exact x.ext a c (fun z => n3 a z ha) hc
  · rcases x.grow a ha with h | h
    · exact n3 a h hb
    · obtain ⟨c, hc⟩ := dom a hb
      rw [hc] at h
      cases h
  · rcases List.mem_append.mp ha with h | h
    · rcases x.grow a h with y | y
      · exact .inl (List.mem_append_left _ y)
      · exact .inr y
    · exact .inl (List.mem_append_right _ h)
  · exact x.ext q c (fun z => hq (List.mem_append_left _ z)) hc
theorem Nx.perm {fp gp fp' gp' : List Addr} (x : Nx S fp S' fp') (a : ∀ q, q ∈ fp ↔ q ∈ gp) (b : ∀ q, q ∈ gp' → q ∈ fp') : Nx S gp S' gp' :=
  ⟨fun q hq => (x.grow q (b q hq)).imp (a q).mp id, fun q c hq hc => x.ext q c (fun z => hq ((a q).mp z)) hc⟩
/-- a slot's part is worked on in its place -/
theorem St.slot {εp : PEnv} {ε : ED} {fp : List Addr} {i : Nat} {p : PV} (h : St S εp ε fp) (e : εp[i]? = some (some p)) :
    ∃ d fq, ε[i]? = some (some d) ∧ Own S p d fq ∧ fq.Nodup ∧ ∀ S' p' fq', Own S' p' d fq' → fq'.Nodup → Nx S fq S' fq' → ∃ fp', St S' (εp.set i (some p')) ε fp' ∧ Nx S fp S' fp' := by
  obtain ⟨d, fq, fr, e1, h1, h2, pm⟩ := h.own.take e
  have n := perm_nodup pm h.nd
  refine ⟨d, fq, e1, h1, (app_nodup n).1, fun S' p' fq' o' nd' x => ?_⟩
  obtain ⟨k1, k2, k3⟩ := Nx.rest n x h2.dom nd'
  have hi : i < εp.length := (List.getElem?_eq_some_iff.mp e).1
  obtain ⟨fp', h3, pm'⟩ := (h2.frame k1).give (i := i) (by rw [List.getElem?_set_self hi]) e1 o'
  rw [List.set_set] at h3
  exact ⟨fp', ⟨h3, perm_nodup pm'.symm k2⟩, k3.perm (fun q => pm.symm.mem_iff) fun q hq => pm'.mem_iff.mp hq⟩
/-- a slot is stored to -/
theorem St.assign {εp : PEnv} {ε : ED} {fp fq : List Addr} {i : Nat} {p : PV} {d : D} (h : OwnE S εp ε fp) (hi : i < εp.length) (o : Own S p d fq) (n : (fp ++ fq).Nodup) :
    ∃ fp', St S (εp.set i (some p)) (ε.set i (some d)) fp' ∧ ∀ a ∈ fp', a ∈ fp ∨ a ∈ fq := by
  obtain ⟨fr, h1, sb⟩ := h.drop i
  have h2 := h1.real (i := i) (some d) (by rw [List.getElem?_set_self hi])
  obtain ⟨fp', h3, pm⟩ := h2.give (i := i) (d := d) (by rw [List.getElem?_set_self hi]) (by rw [List.getElem?_set_self (by rw [h.length]; exact hi)]) o
  rw [List.set_set] at h3
  obtain ⟨n1, n2, n3⟩ := app_nodup n
  refine ⟨fp', ⟨h3, perm_nodup pm.symm (nodup_app n2 (sb.nodup n1) fun a ha hb => n3 a (sb.subset hb) ha)⟩, fun a ha => ?_⟩
  rcases List.mem_append.mp (pm.mem_iff.mp ha) with q | q
  · exact .inr q
  · exact .inl (sb.subset q)
end
end FL

namespace FL
open PySem PySem.Spec PyProof.Rows L2 DL
variable [Amb] [Cbs]

abbrev Exn := D
inductive Out (α : Type) where
  | ok (a : α)
  | ex (e : Exn)
abbrev M (α : Type) := PEnv → Option (Out α × PEnv)
def mPure {α : Type} (a : α) : M α := fun ε => some (.ok a, ε)
def mBind {α β : Type} (p : M α) (f : α → M β) : M β := fun ε => match p ε with
  | none => none
  | some (.ok a, ε') => f a ε'
  | some (.ex e, ε') => some (.ex e, ε')
def mLift {α : Type} (o : Option α) : M α := fun ε => match o with
  | none => none
  | some a => some (.ok a, ε)
def mMap {α β : Type} (f : α → β) (p : M α) : M β := mBind p fun a => mPure (f a)
abbrev XT := Exn → PEnv → ED → SD → List Addr → Prop
def wM {α : Type} (XD : XT) (p : M α) (ε : ED) (S : SD) (Q : α → SD → Prop) : Prop :=
  ∃ εp fp o εp', St S εp ε fp ∧ p εp = some (o, εp') ∧ ∀ S' fp', St S' εp' ε fp' → Nx S fp S' fp' → match o with
    | .ok a => Q a S'
    | .ex e => XD e εp' ε S' fp'
/-- a list or dict of its own, just made (or a value) -/
def wO (XD : XT) (p : M PV) (ε : ED) (S : SD) (Q : DK) : Prop :=
  ∃ εp fp o εp', St S εp ε fp ∧ p εp = some (o, εp') ∧ match o with
    | .ok v => ∀ S' fp' fq d, OwnE S' εp' ε fp' → Own S' v d fq → (fp' ++ fq).Nodup → Nx S fp S' (fp' ++ fq) → Q d S'
    | .ex e => ∀ S' fp', St S' εp' ε fp' → Nx S fp S' fp' → XD e εp' ε S' fp'
inductive PArg where
  | v (d : D)
  | s (i : Nat)
  | n (p : PV)
def ArgR (S : SD) (ε : ED) : List PArg → List D → List Addr → Prop
  | [], ds, fq => ds = [] ∧ fq = []
  | .v d :: r, ds, fq => ∃ rd, ds = d :: rd ∧ ArgR S ε r rd fq
  | .s i :: r, ds, fq => ∃ d rd, ds = d :: rd ∧ ε[i]? = some (some d) ∧ ArgR S ε r rd fq
  | .n p :: r, ds, fq => ∃ d rd f1 f2, ds = d :: rd ∧ fq = f1 ++ f2 ∧ Own S p d f1 ∧ ArgR S ε r rd f2
def wL (XD : XT) (p : M (List PArg)) (ε : ED) (S : SD) (Q : List D → SD → Prop) : Prop :=
  ∃ εp fp o εp', St S εp ε fp ∧ p εp = some (o, εp') ∧ match o with
    | .ok as => ∀ S' fp' fq ds, OwnE S' εp' ε fp' → ArgR S' ε as ds fq → (fp' ++ fq).Nodup → Nx S fp S' (fp' ++ fq) → Q ds S'
    | .ex e => ∀ S' fp', St S' εp' ε fp' → Nx S fp S' fp' → XD e εp' ε S' fp'

section
variable {XD : XT} {ε : ED} {S : SD} {α β : Type}
theorem wM_bind {p : M α} {f : α → M β} {Q : β → SD → Prop} (h : wM XD (mBind p f) ε S Q) : wM XD p ε S fun a S1 => wM XD (f a) ε S1 Q := by
  obtain ⟨εp, fp, o, εp', st, e, k⟩ := h
  unfold mBind at e
  split at e
  · cases e
  · rename_i a ε1 e1
    exact ⟨εp, fp, .ok a, ε1, st, e1, fun S1 fp1 st1 n1 => ⟨ε1, fp1, o, εp', st1, e, fun S2 fp2 st2 n2 => k S2 fp2 st2 (n1.trans n2)⟩⟩
  · rename_i x ε1 e1
    cases e
    exact ⟨εp, fp, .ex x, _, st, e1, k⟩
theorem wM_pure {a : α} {Q : α → SD → Prop} (h : wM XD (mPure a) ε S Q) : Q a S := by
  obtain ⟨εp, fp, o, εp', st, e, k⟩ := h
  cases e
  exact k S fp st Nx.refl
theorem wM_lift {o : Option α} {Q : α → SD → Prop} (h : wM XD (mLift o) ε S Q) : ∃ a, o = some a ∧ Q a S := by
  obtain ⟨εp, fp, x, εp', st, e, k⟩ := h
  unfold mLift at e
  split at e
  · cases e
  · cases e
    exact ⟨_, rfl, k S fp st Nx.refl⟩
theorem wM_imp {p : M α} {Q Q' : α → SD → Prop} (h : wM XD p ε S Q) (i : ∀ a S', Q a S' → Q' a S') : wM XD p ε S Q' := by
  obtain ⟨εp, fp, o, εp', st, e, k⟩ := h
  refine ⟨εp, fp, o, εp', st, e, fun S' fp' st' n => ?_⟩
  have := k S' fp' st' n
  cases o with
  | ok a => exact i a S' this
  | ex x => exact this
theorem wO_bind {p : M α} {f : α → M PV} {Q : DK} (h : wO XD (mBind p f) ε S Q) : wM XD p ε S fun a S1 => wO XD (f a) ε S1 Q := by
  obtain ⟨εp, fp, o, εp', st, e, k⟩ := h
  unfold mBind at e
  split at e
  · cases e
  · rename_i a ε1 e1
    refine ⟨εp, fp, .ok a, ε1, st, e1, fun S1 fp1 st1 n1 => ⟨ε1, fp1, o, εp', st1, e, ?_⟩⟩
    cases o with
    | ok v => exact fun S2 fp2 fq d own o2 nd n2 => k S2 fp2 fq d own o2 nd (n1.trans n2)
    | ex x => exact fun S2 fp2 st2 n2 => k S2 fp2 st2 (n1.trans n2)
  · rename_i x ε1 e1
    cases e
    exact ⟨εp, fp, .ex x, _, st, e1, k⟩
theorem wL_bind {p : M α} {f : α → M (List PArg)} {Q : List D → SD → Prop} (h : wL XD (mBind p f) ε S Q) : wM XD p ε S fun a S1 => wL XD (f a) ε S1 Q := by
  obtain ⟨εp, fp, o, εp', st, e, k⟩ := h
  unfold mBind at e
  split at e
  · cases e
  · rename_i a ε1 e1
    refine ⟨εp, fp, .ok a, ε1, st, e1, fun S1 fp1 st1 n1 => ⟨ε1, fp1, o, εp', st1, e, ?_⟩⟩
    cases o with
    | ok v => exact fun S2 fp2 fq d own o2 nd n2 => k S2 fp2 fq d own o2 nd (n1.trans n2)
    | ex x => exact fun S2 fp2 st2 n2 => k S2 fp2 st2 (n1.trans n2)
  · rename_i x ε1 e1
    cases e
    exact ⟨εp, fp, .ex x, _, st, e1, k⟩

def mVar (i : Nat) : M D := fun ε => match ε[i]? with
  | some (some (.val d)) => some (.ok d, ε)
  | _ => none
def mGetL (i : Nat) : M (List D) := fun ε => match ε[i]? with
  | some (some (.lst ds)) => some (.ok ds, ε)
  | _ => none
def mModL (i : Nat) (f : List D → Option (α × List D)) : M α := fun ε => match ε[i]? with
  | some (some (.lst ds)) => match f ds with
    | some (a, ds') => some (.ok a, ε.set i (some (.lst ds')))
    | none => none
  | _ => none
theorem wM_var {i : Nat} {Q : D → SD → Prop} (h : wM XD (mVar i) ε S Q) : ∃ d, ε[i]? = some (some d) ∧ Q d S := by
  obtain ⟨εp, fp, o, εp', st, e, k⟩ := h
  unfold mVar at e
  split at e
  · rename_i d hd
    cases e
    obtain ⟨d', fq, e1, ow, _⟩ := st.slot hd
    cases ow.val.1
    exact ⟨_, e1, k S fp st Nx.refl⟩
  · cases e
theorem wM_getL {i : Nat} {Q : List D → SD → Prop} (h : wM XD (mGetL i) ε S Q) : ∃ a ds, ε[i]? = some (some (.ref a)) ∧ S a = some (.lst ds) ∧ Q ds S := by
  obtain ⟨εp, fp, o, εp', st, e, k⟩ := h
  unfold mGetL at e
  split at e
  · rename_i ds hd
    cases e
    obtain ⟨d', fq, e1, ow, _⟩ := st.slot hd
    obtain ⟨a, rfl, rfl, ha⟩ := ow.lst
    exact ⟨a, ds, e1, ha, k S fp st Nx.refl⟩
  · cases e
theorem nx_put {a : Addr} {c : Cell} : Nx S [a] (put S a c) [a] := ⟨fun _ h => .inl h, fun q x hq hx => by
  rw [put_ne (by simpa using hq)]
  exact hx⟩
theorem wM_modL {i : Nat} {f : List D → Option (α × List D)} {Q : α → SD → Prop} (h : wM XD (mModL i f) ε S Q) :
    ∃ a ds b ds', ε[i]? = some (some (.ref a)) ∧ S a = some (.lst ds) ∧ f ds = some (b, ds') ∧ Q b (put S a (.lst ds')) := by
  obtain ⟨εp, fp, o, εp', st, e, k⟩ := h
  unfold mModL at e
  split at e
  · rename_i ds hd
    split at e
    · rename_i b ds' hf
      cases e
      obtain ⟨d', fq, e1, ow, _, w⟩ := st.slot hd
      obtain ⟨a, rfl, rfl, ha⟩ := ow.lst
      obtain ⟨fp', st', n⟩ := w (put S a (.lst ds')) (.lst ds') [a] (own_lst put_same) (by simp) nx_put
      exact ⟨a, ds, b, ds', e1, ha, hf, k _ fp' st' n⟩
    · cases e
  · cases e
end

section
variable {X : Cx} {XD : XT}
theorem DE_imp {e : Expr} {t t' : DTE} (h : DE X e t) (i : ∀ ε S Q, t' ε S Q → t ε S Q) : DE X e t' :=
  PE_imp h fun σ H Q ⟨ε, S, Q0, rE, rS, q, k⟩ => ⟨ε, S, Q0, rE, rS, i _ _ _ q, k⟩
theorem DT_imp {e : Expr} {t t' : DTT} (h : DT X e t) (i : ∀ ε S Q, t' ε S Q → t ε S Q) : DT X e t' :=
  PT_imp h fun σ H Q ⟨ε, S, Q0, rE, rS, q, k⟩ => ⟨ε, S, Q0, rE, rS, i _ _ _ q, k⟩
theorem DA_imp {e : List Expr} {t t' : DTA} (h : DA X e t) (i : ∀ ε S Q, t' ε S Q → t ε S Q) : DA X e t' :=
  PA_imp h fun σ H Q ⟨ε, S, Q0, rE, rS, q, k⟩ => ⟨ε, S, Q0, rE, rS, i _ _ _ q, k⟩
theorem DF_imp {e : Expr} {t t' : DTA} (h : DF X e t) (i : ∀ ε S Q, t' ε S Q → t ε S Q) : DF X e t' :=
  PE_imp h fun σ H Q ⟨ε, S, Q0, rE, rS, q, k⟩ => ⟨ε, S, Q0, rE, rS, i _ _ _ q, k⟩
theorem DS_imp {e : Stmt} {t t' : DTS} (h : DS X e t) (i : ∀ D ε S, t' D ε S → t D ε S) : DS X e t' :=
  PS_imp h fun D σ H ⟨ε, S, D0, rE, rS, q, k⟩ => ⟨ε, S, D0, rE, rS, i _ _ _ q, k⟩
theorem DSs_imp {e : List Stmt} {t t' : DTS} (h : DSs X e t) (i : ∀ D ε S, t' D ε S → t D ε S) : DSs X e t' :=
  PSs_imp h fun D σ H ⟨ε, S, D0, rE, rS, q, k⟩ => ⟨ε, S, D0, rE, rS, i _ _ _ q, k⟩
end
abbrev FE (X : Cx) (XD : XT) (e : Expr) (p : M D) : Prop := DE X e (wM XD p)
abbrev FT (X : Cx) (XD : XT) (e : Expr) (p : M Bool) : Prop := DT X e (wM XD p)
abbrev FW (X : Cx) (XD : XT) (e : Expr) (p : M Bool) : Prop := DW X e (wM XD p)
abbrev FA (X : Cx) (XD : XT) (es : List Expr) (p : M (List D)) : Prop := DA X es (wM XD p)
abbrev FF (X : Cx) (XD : XT) (e : Expr) (p : M (List D)) : Prop := DF X e (wM XD p)
abbrev FO (X : Cx) (XD : XT) (e : Expr) (p : M PV) : Prop := DE X e (wO XD p)
abbrev FLs (X : Cx) (XD : XT) (es : List Expr) (p : M (List PArg)) : Prop := DA X es (wL XD p)
/-- two-place and one-place operations by values -/
def rF (f : D → D → Option D) : R2D := fun x y S Q => ∃ d, f x y = some d ∧ Q d S
abbrev FOp (X : Cx) (g : Value → Value → Sem Value) (f : D → D → Option D) : Prop := DOp X g (rF f)
def rFC (f : List D → Option D) : RAD := fun ds S Q => ∃ d, f ds = some d ∧ Q d S
abbrev FCall (X : Cx) (g : Value) (f : List D → Option D) : Prop := DCall X g (rFC f)
theorem FOp_of {X : Cx} {g : Value → Value → Sem Value} {r : R2D} {f : D → D → Option D} (h : DOp X g r) (i : ∀ x y S Q d, f x y = some d → Q d S → r x y S Q) : FOp X g f :=
  DOp_imp h fun x y S Q ⟨d, e, q⟩ => i x y S Q d e q
theorem FCall_of {X : Cx} {g : Value} {r : RAD} {f : List D → Option D} (h : DCall X g r) (i : ∀ ds S Q d, f ds = some d → Q d S → r ds S Q) : FCall X g f :=
  CallR_imp h fun xs H Q ⟨ds, S, Q0, den, rS, ⟨d, e, q⟩, k⟩ => ⟨ds, S, Q0, den, rS, i ds S Q0 d e q, k⟩

section
variable {X : Cx} {XD : XT} {a b c e l : Expr} {es : List Expr} {pa pb pc : M D} {pt pu : M Bool} {pas : M (List D)} {pf pg : M (List D)} {po : M PV} {pos p : Pos}
theorem fe_var (i : Nat) {x : Str} {pos : Pos} (hN : X.N[i]? = some x := by rfl) (hv : Vis X.env.scope x := by first | exact Or.inl rfl | exact Or.inr (Or.inl rfl) | exact Or.inr (Or.inr rfl)) (hd : (x == ("__debug__" : Str)) = false := by decide)
    (hcd : (x == ("__classdict__" : Str)) = false := by decide) : FE X XD (.Name x pos) (mVar i) := DE_imp (de_var i hN hv hd hcd) fun _ _ _ h => wM_var h
theorem fe_c {d : D} (h : DE X e (dC d)) : FE X XD e (mPure d) := DE_imp h fun _ _ _ h => wM_pure h
def mOp2 (f : D → D → Option D) (pa pb : M D) : M D := mBind pa fun x => mBind pb fun y => mLift (f x y)
theorem wM_op2 {f : D → D → Option D} {ε : ED} {S : SD} {Q : DK} (h : wM XD (mOp2 f pa pb) ε S Q) : dOp (rF f) (wM XD pa) (wM XD pb) ε S Q :=
  wM_imp (wM_bind h) fun _ _ h => wM_imp (wM_bind h) fun _ _ h => wM_lift h
theorem fe_bin {op : Operator} {f : D → D → Option D} (ho : FOp X (binaryOp op) f) (ha : FE X XD a pa) (hb : FE X XD b pb) : FE X XD (.BinOp a op b pos) (mOp2 f pa pb) :=
  DE_imp (de_op ho ha hb) fun _ _ _ => wM_op2
theorem fe_cmp {op : CmpOp} {f : D → D → Option D} (ho : FOp X (compareOp op) f) (ha : FE X XD a pa) (hb : FE X XD b pb) (hm : behindInMarks op b = false := by first | exact nomark _ | with_unfolding_all rfl) : FE X XD (.Compare a [op] [b] pos) (mOp2 f pa pb) :=
  DE_imp (de_cmp ho ha hb hm) fun _ _ _ => wM_op2
def toB : D → Option Bool
  | .bl b => some b
  | _ => none
def mB (p : M D) : M Bool := mBind p fun x => mLift (toB x)
theorem toB_eq {d : D} {b : Bool} (h : toB d = some b) : d = .bl b := by
  cases d <;> simp [toB] at h
  rw [h]
theorem wM_B {p : M D} {ε : ED} {S : SD} {Q : Bool → SD → Prop} (h : wM XD (mB p) ε S Q) : dB (wM XD p) ε S Q :=
  wM_imp (wM_bind h) fun d S1 h => by
    obtain ⟨b, e, q⟩ := wM_lift h
    exact ⟨b, toB_eq e, q⟩
theorem ft_val (h : FE X XD e pa) (he : ∀ whole, isTrue e X.env whole = (do let v ← whole; standAt e.pos; holding [v] (truthy v)) := by intro _; rfl) : FT X XD e (mB pa) :=
  DT_imp (dt_val h he) fun _ _ _ => wM_B
theorem dB_imp {t t' : DTE} (i : ∀ ε S Q, t ε S Q → t' ε S Q) {ε : ED} {S : SD} {Q : Bool → SD → Prop} (h : dB t ε S Q) : dB t' ε S Q := i _ _ _ h
theorem ft_cmp {op : CmpOp} {f : D → D → Option D} (ho : FOp X (compareOp op) f) (ha : FE X XD a pa) (hb : FE X XD b pb) (hm : behindInMarks op b = false := by first | exact nomark _ | with_unfolding_all rfl) : FT X XD (.Compare a [op] [b] pos) (mB (mOp2 f pa pb)) :=
  DT_imp (dt_cmp ho ha hb hm) fun _ _ _ h => dB_imp (fun _ _ _ => wM_op2) (wM_B h)
def mChain (f g : D → D → Option D) (pa pb pc : M D) : M D := mBind pa fun x => mBind pb fun y => mBind (mLift (f x y)) fun z => mBind (mLift (toB z)) fun k => if k = true then mBind pc fun w => mLift (g y w) else mPure (.bl false)
theorem wM_chain {f g : D → D → Option D} {ε : ED} {S : SD} {Q : DK} (h : wM XD (mChain f g pa pb pc) ε S Q) : dChain (rF f) (rF g) (wM XD pa) (wM XD pb) (wM XD pc) ε S Q :=
  wM_imp (wM_bind h) fun x S1 h => wM_imp (wM_bind h) fun y S2 h => by
    obtain ⟨z, e1, h⟩ := wM_lift (wM_bind h)
    obtain ⟨k, e2, h⟩ := wM_lift (wM_bind h)
    refine ⟨z, e1, k, toB_eq e2, ?_⟩
    cases k with
    | true =>
      rw [if_pos rfl] at h ⊢
      exact wM_imp (wM_bind h) fun w S3 h => wM_lift h
    | false => exact wM_pure h
theorem fe_chain {op op' : CmpOp} {f g : D → D → Option D} (ho : FOp X (compareOp op) f) (ho' : FOp X (compareOp op') g) (ha : FE X XD a pa) (hb : FE X XD b pb) (hc : FE X XD c pc) (hm : lastMarks [op, op'] [b, c] = false := by with_unfolding_all rfl) :
    FE X XD (.Compare a [op, op'] [b, c] pos) (mChain f g pa pb pc) := DE_imp (de_chain ho ho' ha hb hc hm) fun _ _ _ => wM_chain
theorem ft_chain {op op' : CmpOp} {f g : D → D → Option D} (ho : FOp X (compareOp op) f) (ho' : FOp X (compareOp op') g) (ha : FE X XD a pa) (hb : FE X XD b pb) (hc : FE X XD c pc) (hm : lastMarks [op, op'] [b, c] = false := by with_unfolding_all rfl) :
    FT X XD (.Compare a [op, op'] [b, c] pos) (mB (mChain f g pa pb pc)) := DT_imp (dt_chain ho ho' ha hb hc hm) fun _ _ _ h => dB_imp (fun _ _ _ => wM_chain) (wM_B h)
def isNon : D → Bool
  | .non => true
  | _ => false
theorem isNon_iff {d : D} : d = .non ↔ isNon d = true := by cases d <;> simp [isNon]
def mIsN (pa : M D) : M D := mBind pa fun x => mPure (.bl (isNon x))
def mNotN (pa : M D) : M D := mBind pa fun x => mPure (.bl (!isNon x))
theorem wM_isN {ε : ED} {S : SD} {Q : DK} (h : wM XD (mIsN pa) ε S Q) : dIsN (wM XD pa) ε S Q := wM_imp (wM_bind h) fun x S1 h => ⟨isNon x, isNon_iff, wM_pure h⟩
theorem wM_notN {ε : ED} {S : SD} {Q : DK} (h : wM XD (mNotN pa) ε S Q) : dNotN (wM XD pa) ε S Q := wM_imp (wM_bind h) fun x S1 h => ⟨!isNon x, by cases x <;> simp [isNon], wM_pure h⟩
theorem fe_isN {j pos'} (ha : FE X XD a pa) : FE X XD (.Compare a [.Is] [.Constant .none j pos'] pos) (mIsN pa) := DE_imp (de_isN ha) fun _ _ _ => wM_isN
theorem fe_notN {j pos'} (ha : FE X XD a pa) : FE X XD (.Compare a [.IsNot] [.Constant .none j pos'] pos) (mNotN pa) := DE_imp (de_notN ha) fun _ _ _ => wM_notN
theorem ft_isN {j pos'} (ha : FE X XD a pa) : FT X XD (.Compare a [.Is] [.Constant .none j pos'] pos) (mB (mIsN pa)) := DT_imp (dt_isN ha) fun _ _ _ h => dB_imp (fun _ _ _ => wM_isN) (wM_B h)
theorem ft_notN {j pos'} (ha : FE X XD a pa) : FT X XD (.Compare a [.IsNot] [.Constant .none j pos'] pos) (mB (mNotN pa)) := DT_imp (dt_notN ha) fun _ _ _ h => dB_imp (fun _ _ _ => wM_notN) (wM_B h)
def mAnd (t u : M Bool) : M Bool := mBind t fun k => if k = true then u else mPure false
def mOr (t u : M Bool) : M Bool := mBind t fun k => if k = true then mPure true else u
def mNot (t : M Bool) : M Bool := mBind t fun k => mPure (!k)
def mIf {α : Type} (t : M Bool) (p q : M α) : M α := mBind t fun k => if k = true then p else q
theorem DW_imp {e : Expr} {t t' : DTT} (h : DW X e t) (i : ∀ ε S Q, t' ε S Q → t ε S Q) : DW X e t' :=
  PW_imp h fun σ H Q ⟨ε, S, Q0, rE, rS, q, k⟩ => ⟨ε, S, Q0, rE, rS, i _ _ _ q, k⟩
variable {rest : List Expr}
theorem fw_and1 (h : FT X XD a pt) : FW X XD (.BoolOp .And [a] pos) pt := dw_and1 h
theorem fw_or1 (h : FT X XD a pt) : FW X XD (.BoolOp .Or [a] pos) pt := dw_or1 h
theorem fw_and (ha : FT X XD a pt) (hb : FW X XD (.BoolOp .And (b :: rest) pos) pu) : FW X XD (.BoolOp .And (a :: b :: rest) pos) (mAnd pt pu) :=
  DW_imp (dw_and ha hb) fun _ _ _ h => wM_imp (wM_bind h) fun k S1 h => by
    cases k with
    | true => exact h
    | false => exact wM_pure h
theorem fw_or (ha : FT X XD a pt) (hb : FW X XD (.BoolOp .Or (b :: rest) pos) pu) : FW X XD (.BoolOp .Or (a :: b :: rest) pos) (mOr pt pu) :=
  DW_imp (dw_or ha hb) fun _ _ _ h => wM_imp (wM_bind h) fun k S1 h => by
    cases k with
    | true => exact wM_pure h
    | false => exact h
theorem ft_w (h : FW X XD e pt) : FT X XD e pt := dt_w h
theorem ft_not (ha : FT X XD a pt) : FT X XD (.UnaryOp .Not a pos) (mNot pt) := DT_imp (dt_not ha) fun _ _ _ h => wM_imp (wM_bind h) fun k S1 h => wM_pure h
theorem fe_if (hc : FT X XD c pt) (ha : FE X XD a pa) (hb : FE X XD b pb) : FE X XD (.IfExp c a b pos) (mIf pt pa pb) :=
  DE_imp (de_if hc ha hb) fun _ _ _ h => wM_imp (wM_bind h) fun k S1 h => by
    cases k with
    | true => exact h
    | false => exact h
theorem ff_if (hc : FT X XD c pt) (ha : FF X XD a pf) (hb : FF X XD b pg) : FF X XD (.IfExp c a b pos) (mIf pt pf pg) :=
  DF_imp (df_if hc ha hb) fun _ _ _ h => wM_imp (wM_bind h) fun k S1 h => by
    cases k with
    | true => exact h
    | false => exact h
def mAndV (pa pb : M D) : M D := mBind (mB pa) fun k => if k = true then pb else mPure (.bl false)
def mOrV (pa pb : M D) : M D := mBind (mB pa) fun k => if k = true then mPure (.bl true) else pb
def mNotV (pa : M D) : M D := mBind (mB pa) fun k => mPure (.bl (!k))
theorem fe_one {op} (h : FE X XD a pa) : FE X XD (.BoolOp op [a] pos) pa := de_one h
theorem fe_and (ha : FE X XD a pa) (hb : FE X XD (.BoolOp .And (b :: rest) pos) pb) : FE X XD (.BoolOp .And (a :: b :: rest) pos) (mAndV pa pb) :=
  DE_imp (de_and ha hb) fun _ _ _ h => wM_imp (wM_B (wM_bind h)) fun x S1 ⟨k, e, h⟩ => ⟨k, e, by
    cases k with
    | true => exact h
    | false => exact wM_pure h⟩
theorem fe_or (ha : FE X XD a pa) (hb : FE X XD (.BoolOp .Or (b :: rest) pos) pb) : FE X XD (.BoolOp .Or (a :: b :: rest) pos) (mOrV pa pb) :=
  DE_imp (de_or ha hb) fun _ _ _ h => wM_imp (wM_B (wM_bind h)) fun x S1 ⟨k, e, h⟩ => ⟨k, e, by
    cases k with
    | true => exact wM_pure h
    | false => exact h⟩
theorem fe_not (ha : FE X XD a pa) : FE X XD (.UnaryOp .Not a pos) (mNotV pa) :=
  DE_imp (de_not ha) fun _ _ _ h => wM_imp (wM_B (wM_bind h)) fun x S1 ⟨k, e, h⟩ => ⟨k, e, wM_pure h⟩
def mNil : M (List D) := mPure []
def mCons (pa : M D) (pas : M (List D)) : M (List D) := mBind pa fun x => mBind pas fun xs => mPure (x :: xs)
theorem fa_nil : FA X XD [] mNil := DA_imp da_nil fun _ _ _ h => wM_pure h
theorem fa_cons (ha : FE X XD e pa) (hr : FA X XD es pas) (hs : starEach (e :: es) X.env = (false, eval e X.env) :: starEach es X.env := by rfl) : FA X XD (e :: es) (mCons pa pas) :=
  DA_imp (da_cons ha hr hs) fun _ _ _ h => wM_imp (wM_bind h) fun _ _ h => wM_imp (wM_bind h) fun _ _ h => wM_pure h
def short (n : Nat) (ds : List D) : Option (List D) := if ds.length ≤ n then some ds else none
theorem short_eq {n : Nat} {ds xs : List D} (h : short n ds = some xs) : xs = ds ∧ ds.length ≤ n := by
  unfold short at h
  split at h
  · cases h; exact ⟨rfl, by assumption⟩
  · cases h
def mTup (pas : M (List D)) : M D := mBind pas fun ds => mBind (mLift (short 1000 ds)) fun ds => mPure (.tup ds)
def mLst (pas : M (List D)) : M (List D) := mBind pas fun ds => mLift (short 1000 ds)
theorem fe_tup {x1} (h : FA X XD es pas) : FE X XD (.Tuple es x1 pos) (mTup pas) :=
  DE_imp (de_tup h) fun _ _ _ h => wM_imp (wM_bind h) fun ds S1 h => by
    obtain ⟨xs, e, h'⟩ := wM_lift (wM_bind h)
    obtain ⟨rfl, hl⟩ := short_eq e
    exact ⟨hl, wM_pure h'⟩
theorem ff_lst (h : FA X XD es pas) : FF X XD (.List es pos) (mLst pas) :=
  DF_imp (df_lst h) fun _ _ _ h => wM_imp (wM_bind h) fun ds S1 h => by
    obtain ⟨xs, e, h'⟩ := wM_lift h
    obtain ⟨rfl, hl⟩ := short_eq e
    exact ⟨hl, h'⟩
end
end FL

namespace FL
open PySem PySem.Spec PyProof.Rows L2 DL
variable [Amb] [Cbs]

def fAdd : D → D → Option D
  | .int i, .int j => some (.int (i + j))
  | .str a, .str b => if a.length + b.length ≤ 1000000 then some (.str (a ++ b)) else none
  | .tup a, .tup b => if a.length + b.length ≤ 1000000 then some (.tup (a ++ b)) else none
  | _, _ => none
def fSub : D → D → Option D
  | .int i, .int j => some (.int (i - j))
  | _, _ => none
def fMul : D → D → Option D
  | .int i, .int j => if i.natAbs.log2 + j.natAbs.log2 < 1000000 then some (.int (i * j)) else none
  | .str a, .int i => if -1000 ≤ i ∧ i ≤ 1000 ∧ a.length ≤ 1000 then some (.str (strMul a i)) else none
  | .tup ds, .int i => if ds ≠ [] ∧ 2 ≤ i ∧ i ≤ 1000 ∧ ds.length ≤ 1000 then some (.tup (List.replicate i.toNat ds).flatten) else none
  | _, _ => none
def fDiv : D → D → Option D
  | .int i, .int j => if 0 < j ∧ j.natAbs.log2 < 9000 then some (.int (i / j)) else none
  | _, _ => none
def fMod : D → D → Option D
  | .int i, .int j => if 0 < j then some (.int (i % j)) else none
  | _, _ => none
def fPow : D → D → Option D
  | .int i, .int j => if 0 ≤ j ∧ j ≤ 1000000 ∧ i.natAbs < 2 ^ 64 then some (.int (i ^ j.toNat)) else none
  | _, _ => none
def fCmp (f : Int → Int → Bool) : D → D → Option D
  | .int i, .int j => some (.bl (f i j))
  | _, _ => none
def fLt : D → D → Option D := fCmp fun i j => decide (i < j)
def fLe : D → D → Option D := fCmp fun i j => decide (i ≤ j)
def fGt : D → D → Option D := fCmp fun i j => decide (j < i)
def fGe : D → D → Option D := fCmp fun i j => decide (j ≤ i)
def fEqP (neg : Bool) (x y : D) : Option D := if x.plain = true ∧ y.plain = true ∧ min x.py.depth y.py.depth ≤ 60 then some (.bl (if neg then !PyData.eqv x.py y.py else PyData.eqv x.py y.py)) else none
def fEq (neg : Bool) : D → D → Option D
  | .str a, .str b => some (.bl (if neg then !decide (a = b) else decide (a = b)))
  | .int a, .int b => some (.bl (if neg then !decide (a = b) else decide (a = b)))
  | x, y => fEqP neg x y
def fIn (neg : Bool) : D → D → Option D
  | x, .tup ds => if flatD x = true ∧ ds.all flatD = true then some (.bl (if neg then !inD x ds else inD x ds)) else none
  | x, .ilst ds => if flatD x = true ∧ ds.all flatD = true then some (.bl (if neg then !inD x ds else inD x ds)) else none
  | _, _ => none
def fIsB (neg : Bool) : D → D → Option D
  | .bl a, .bl b => some (.bl (if neg then !decide (a = b) else decide (a = b)))
  | _, _ => none
def fIx : D → D → Option D
  | .tup ds, .int i => atI ds i
  | .ilst ds, .int i => atI ds i
  | .str z, .int i => if z.length ≤ 1000000 then (atI z.cps.toList i).map fun c => .str ⟨#[c]⟩ else none
  | _, _ => none
section
variable {X : Cx}
theorem fo_add : FOp X (binaryOp .Add) fAdd := FOp_of dm_add fun x y S Q d h q => by
  unfold fAdd at h
  unfold mAdd
  split at h
  · cases h; exact q
  · split at h
    · cases h; exact ⟨by assumption, q⟩
    · cases h
  · split at h
    · cases h; exact ⟨by assumption, q⟩
    · cases h
  · cases h
theorem fo_sub : FOp X (binaryOp .Sub) fSub := FOp_of dm_sub fun x y S Q d h q => by
  unfold fSub at h
  unfold mSub
  split at h
  · cases h; exact q
  · cases h
theorem fo_mul : FOp X (binaryOp .Mult) fMul := FOp_of dm_mul fun x y S Q d h q => by
  unfold fMul at h
  unfold mMul
  split at h
  · split at h
    · rename_i hc
      cases h; exact ⟨hc, q⟩
    · cases h
  · split at h
    · rename_i hc
      cases h; exact ⟨_, _, rfl, rfl, hc.1, hc.2.1, hc.2.2, q⟩
    · cases h
  · split at h
    · rename_i hc
      cases h; exact ⟨hc.1, hc.2.1, hc.2.2.1, hc.2.2.2, q⟩
    · cases h
  · cases h
theorem fo_div : FOp X (binaryOp .FloorDiv) fDiv := FOp_of dm_div fun x y S Q d h q => by
  unfold fDiv at h
  unfold mDiv
  split at h
  · split at h
    · rename_i hc
      cases h; exact ⟨hc, q⟩
    · cases h
  · cases h
theorem fo_mod : FOp X (binaryOp .Mod) fMod := FOp_of dm_mod fun x y S Q d h q => by
  unfold fMod at h
  unfold mMod
  split at h
  · split at h
    · rename_i hc
      cases h; exact ⟨hc, q⟩
    · cases h
  · cases h
theorem fo_pow : FOp X (binaryOp .Pow) fPow := FOp_of dm_pow fun x y S Q d h q => by
  unfold fPow at h
  unfold mPow
  split at h
  · split at h
    · rename_i hc
      cases h; exact ⟨hc, q⟩
    · cases h
  · cases h
theorem fo_cmp {f : Int → Int → Bool} {g : Value → Value → Sem Value} (h0 : DOp X g (mCmp f)) : FOp X g (fCmp f) := FOp_of h0 fun x y S Q d h q => by
  unfold fCmp at h
  unfold mCmp
  split at h
  · cases h; exact q
  · cases h
theorem fo_lt : FOp X (compareOp .Lt) fLt := fo_cmp dm_lt
theorem fo_le : FOp X (compareOp .LtE) fLe := fo_cmp dm_le
theorem fo_gt : FOp X (compareOp .Gt) fGt := fo_cmp dm_gt
theorem fo_ge : FOp X (compareOp .GtE) fGe := fo_cmp dm_ge
theorem fEqP_m {neg : Bool} {x y : D} {S : SD} {Q : DK} {d : D} (h : fEqP neg x y = some d) (q : Q d S) : mEqP neg x y S Q := by
  unfold fEqP at h
  split at h
  · rename_i hc
    cases h
    exact ⟨hc.1, hc.2.1, hc.2.2, q⟩
  · cases h
theorem fEq_m {neg : Bool} {x y : D} {S : SD} {Q : DK} {d : D} (h : fEq neg x y = some d) (q : Q d S) : mEq neg x y S Q := by
  cases x <;> cases y <;> simp only [fEq, mEq] at h ⊢ <;> first | exact fEqP_m h q | (cases h; exact q)
theorem fo_eq (hu : X.A.units + 64 < cLine) : FOp X (compareOp .Eq) (fEq false) := FOp_of (dm_eq hu) fun x y S Q d h q => fEq_m h q
theorem fo_ne (hu : X.A.units + 64 < cLine) : FOp X (compareOp .NotEq) (fEq true) := FOp_of (dm_ne hu) fun x y S Q d h q => fEq_m h q
theorem fIn_m {neg : Bool} {x y : D} {S : SD} {Q : DK} {d : D} (h : fIn neg x y = some d) (q : Q d S) : mIn neg x y S Q := by
  unfold fIn at h
  unfold mIn
  split at h
  · split at h
    · rename_i hc
      cases h; exact ⟨hc.1, hc.2, q⟩
    · cases h
  · split at h
    · rename_i hc
      cases h; exact ⟨hc.1, hc.2, q⟩
    · cases h
  · cases h
theorem fo_in (hu : X.A.units + 1 < cLine) : FOp X (compareOp .In) (fIn false) := FOp_of (dm_in hu) fun x y S Q d h q => fIn_m h q
theorem fo_notIn (hu : X.A.units + 1 < cLine) : FOp X (compareOp .NotIn) (fIn true) := FOp_of (dm_notIn hu) fun x y S Q d h q => fIn_m h q
theorem fo_isB : FOp X (compareOp .Is) (fIsB false) := FOp_of dop_isB fun x y S Q d h q => by
  unfold fIsB at h
  split at h
  · cases h; exact ⟨_, _, rfl, rfl, q⟩
  · cases h
theorem fo_notB : FOp X (compareOp .IsNot) (fIsB true) := FOp_of dop_notB fun x y S Q d h q => by
  unfold fIsB at h
  split at h
  · cases h; exact ⟨_, _, rfl, rfl, q⟩
  · cases h
theorem fIx_r {x y d : D} {S : SD} {Q : DK} (h : fIx x y = some d) (q : Q d S) : rIxE x y S Q := by
  unfold fIx at h
  unfold rIxE
  split at h
  · exact ⟨d, h, q⟩
  · exact ⟨d, h, q⟩
  · split at h
    · rename_i hc
      obtain ⟨c, e, rfl⟩ := Option.map_eq_some_iff.mp h
      exact ⟨hc, c, e, q⟩
    · cases h
  · cases h
end

section
variable {X : Cx} {XD : XT} {a b c e l : Expr} {es : List Expr} {pa pb pc : M D} {pt pu : M Bool} {pas : M (List D)} {pf pg : M (List D)} {pos p p2 : Pos} {lo hi : Option Expr}
theorem fe_own {e : Expr} {i : Nat} (h : DE X e (dVar i)) : DE X e (dVar i) := h
def mInL (neg : Bool) (pa : M D) (i : Nat) : M D := mBind pa fun x => mBind (mGetL i) fun ds => mLift (fIn neg x (.tup ds))
theorem fIn_tup {neg : Bool} {x d : D} {ds : List D} (h : fIn neg x (.tup ds) = some d) : flatD x = true ∧ ds.all flatD = true ∧ d = .bl (if neg then !inD x ds else inD x ds) := by
  simp only [fIn] at h
  split at h
  · rename_i hc
    exact ⟨hc.1, hc.2, (Option.some.inj h).symm⟩
  · cases h
theorem wM_inL {neg : Bool} {i : Nat} {ε : ED} {S : SD} {Q : DK} (h : wM XD (mInL neg pa i) ε S Q) : dOp (mIn neg) (wM XD pa) (dVar i) ε S Q :=
  wM_imp (wM_bind h) fun x S1 h => by
    obtain ⟨q, ds, e1, e2, h'⟩ := wM_getL (wM_bind h)
    obtain ⟨d, e3, h3⟩ := wM_lift h'
    obtain ⟨c1, c2, rfl⟩ := fIn_tup e3
    exact ⟨.ref q, e1, .inl ⟨ds, e2, c1, c2, h3⟩⟩
theorem fe_inL (hu : X.A.units + 1 < cLine) {i : Nat} (ha : FE X XD a pa) (hb : DE X b (dVar i)) (hm : behindInMarks .In b = false := by first | exact nomark _ | with_unfolding_all rfl) : FE X XD (.Compare a [.In] [b] pos) (mInL false pa i) :=
  DE_imp (de_cmp (dm_in hu) ha hb hm) fun _ _ _ => wM_inL
theorem fe_notInL (hu : X.A.units + 1 < cLine) {i : Nat} (ha : FE X XD a pa) (hb : DE X b (dVar i)) (hm : behindInMarks .NotIn b = false := by first | exact nomark _ | with_unfolding_all rfl) : FE X XD (.Compare a [.NotIn] [b] pos) (mInL true pa i) :=
  DE_imp (de_cmp (dm_notIn hu) ha hb hm) fun _ _ _ => wM_inL
theorem ft_inL (hu : X.A.units + 1 < cLine) {i : Nat} (ha : FE X XD a pa) (hb : DE X b (dVar i)) (hm : behindInMarks .In b = false := by first | exact nomark _ | with_unfolding_all rfl) : FT X XD (.Compare a [.In] [b] pos) (mB (mInL false pa i)) :=
  DT_imp (dt_cmp (dm_in hu) ha hb hm) fun _ _ _ h => dB_imp (fun _ _ _ => wM_inL) (wM_B h)
theorem ft_notInL (hu : X.A.units + 1 < cLine) {i : Nat} (ha : FE X XD a pa) (hb : DE X b (dVar i)) (hm : behindInMarks .NotIn b = false := by first | exact nomark _ | with_unfolding_all rfl) : FT X XD (.Compare a [.NotIn] [b] pos) (mB (mInL true pa i)) :=
  DT_imp (dt_cmp (dm_notIn hu) ha hb hm) fun _ _ _ h => dB_imp (fun _ _ _ => wM_inL) (wM_B h)
def mNilL (neg : Bool) (i : Nat) : M D := mBind (mGetL i) fun ds => mPure (.bl (if neg then !ds.isEmpty else ds.isEmpty))
theorem wM_nilL {neg : Bool} {i : Nat} {ε : ED} {S : SD} {Q : DK} (h : wM XD (mNilL neg i) ε S Q) : dNilL neg (dVar i) ε S Q := by
  obtain ⟨q, ds, e1, e2, h'⟩ := wM_getL (wM_bind h)
  exact ⟨.ref q, e1, q, ds, rfl, e2, wM_pure h'⟩
theorem fe_nilE (hu : X.A.units + 1 < cLine) {i : Nat} {p1 : Pos} (ha : DE X a (dVar i)) (hm : behindInMarks .Eq (.List [] p1) = false := by first | exact nomark _ | with_unfolding_all rfl) : FE X XD (.Compare a [.Eq] [.List [] p1] pos) (mNilL false i) := DE_imp (de_nilE hu ha hm) fun _ _ _ => wM_nilL
theorem fe_nilN (hu : X.A.units + 1 < cLine) {i : Nat} {p1 : Pos} (ha : DE X a (dVar i)) (hm : behindInMarks .NotEq (.List [] p1) = false := by first | exact nomark _ | with_unfolding_all rfl) : FE X XD (.Compare a [.NotEq] [.List [] p1] pos) (mNilL true i) := DE_imp (de_nilN hu ha hm) fun _ _ _ => wM_nilL
theorem ft_nilE (hu : X.A.units + 1 < cLine) {i : Nat} {p1 : Pos} (ha : DE X a (dVar i)) (hm : behindInMarks .Eq (.List [] p1) = false := by first | exact nomark _ | with_unfolding_all rfl) : FT X XD (.Compare a [.Eq] [.List [] p1] pos) (mB (mNilL false i)) := DT_imp (dt_nilE hu ha hm) fun _ _ _ h => dB_imp (fun _ _ _ => wM_nilL) (wM_B h)
theorem ft_nilN (hu : X.A.units + 1 < cLine) {i : Nat} {p1 : Pos} (ha : DE X a (dVar i)) (hm : behindInMarks .NotEq (.List [] p1) = false := by first | exact nomark _ | with_unfolding_all rfl) : FT X XD (.Compare a [.NotEq] [.List [] p1] pos) (mB (mNilL true i)) := DT_imp (dt_nilN hu ha hm) fun _ _ _ h => dB_imp (fun _ _ _ => wM_nilL) (wM_B h)
def mIx (pa pb : M D) : M D := mOp2 fIx pa pb
theorem fe_ix (hu : X.A.units + 1 < cLine) (ha : FE X XD a pa) (hb : FE X XD b pb) (hs : PlainIx b := by intro _ _; rfl) : FE X XD (.Subscript a b pos) (mIx pa pb) :=
  DE_imp (de_ixE hu ha hb hs) fun _ _ _ h => wM_imp (wM_bind h) fun _ _ h => wM_imp (wM_bind h) fun _ _ h => by
    obtain ⟨d, e, q⟩ := wM_lift h
    exact fIx_r e q
def mIxL (i : Nat) (pb : M D) : M D := mBind (mGetL i) fun _ => mBind pb fun y => mBind (mGetL i) fun ds => mLift (fIx (.tup ds) y)
theorem slot_eq {ε : ED} {i : Nat} {x y : D} (h : ε[i]? = some (some x)) (g : ε[i]? = some (some y)) : x = y := by
  rw [h] at g
  cases g
  rfl
theorem fIx_tup {ds : List D} {y d : D} (h : fIx (.tup ds) y = some d) : ∃ j, y = .int j ∧ atI ds j = some d := by
  unfold fIx at h
  split at h
  · rename_i h1; cases h1; exact ⟨_, rfl, h⟩
  · rename_i h1; cases h1
  · rename_i h1; cases h1
  · cases h
theorem fe_ixL (hu : X.A.units + 1 < cLine) {i : Nat} (ha : DE X a (dVar i)) (hb : FE X XD b pb) (hs : PlainIx b := by intro _ _; rfl) : FE X XD (.Subscript a b pos) (mIxL i pb) :=
  DE_imp (de_ixE hu ha hb hs) fun ε S Q h => by
    obtain ⟨q, _, e1, _, h⟩ := wM_getL (wM_bind h)
    refine ⟨.ref q, e1, wM_imp (wM_bind h) fun y S1 h => ?_⟩
    obtain ⟨q', ds, e2, hq, h⟩ := wM_getL (wM_bind h)
    cases slot_eq e1 e2
    obtain ⟨d, e3, h'⟩ := wM_lift h
    obtain ⟨j, rfl, e4⟩ := fIx_tup e3
    exact ⟨ds, hq, d, e4, h'⟩
/-- [..][i] -/
def mIxF (pf : M (List D)) (pb : M D) : M D := mBind pf fun ds => mBind pb fun y => mLift (fIx (.tup ds) y)
theorem fe_ixF (ha : FF X XD a pf) (hb : FE X XD b pb) (hs : PlainIx b := by intro _ _; rfl) : FE X XD (.Subscript a b pos) (mIxF pf pb) :=
  DE_imp (de_ixF ha hb hs) fun ε S Q h => wM_imp (wM_bind h) fun ds S1 h => wM_imp (wM_bind h) fun y S2 h => by
    obtain ⟨d, e3, h'⟩ := wM_lift h
    obtain ⟨j, rfl, e4⟩ := fIx_tup e3
    exact ⟨j, rfl, d, e4, h'⟩
abbrev FPO (X : Cx) (XD : XT) (e : Option Expr) (p : M (Option Int)) : Prop := DPO X e (wM XD p)
theorem DPO_imp {e : Option Expr} {t t' : DTO} (h : DPO X e t) (i : ∀ ε S Q, t' ε S Q → t ε S Q) : DPO X e t' :=
  ⟨fun pins s σ H Q I ⟨ε, S, Q0, rE, rS, q, k⟩ => h.run pins s σ H Q I ⟨ε, S, Q0, rE, rS, i _ _ _ q, k⟩⟩
def mNoPart : M (Option Int) := mPure none
def toI : D → Option Int
  | .int i => some i
  | _ => none
theorem toI_eq {d : D} {i : Int} (h : toI d = some i) : d = .int i := by
  cases d <;> simp [toI] at h
  rw [h]
def mPart (pa : M D) : M (Option Int) := mBind pa fun x => mBind (mLift (toI x)) fun i => mPure (some i)
theorem fpo_none : FPO X XD none mNoPart := DPO_imp dpo_none fun _ _ _ h => wM_pure h
theorem fpo_some (h : FE X XD e pa) : FPO X XD (some e) (mPart pa) := DPO_imp (dpo_some h) fun _ _ _ h => wM_imp (wM_bind h) fun x S1 h => by
  obtain ⟨i, e1, h⟩ := wM_lift (wM_bind h)
  exact ⟨i, toI_eq e1, wM_pure h⟩
def toT : D → Option (List D)
  | .tup ds => some ds
  | _ => none
theorem toT_eq {d : D} {i : List D} (h : toT d = some i) : d = .tup i := by
  cases d <;> simp [toT] at h
  rw [h]
variable {pl ph : M (Option Int)}
def mSlT (pa : M D) (pl ph : M (Option Int)) : M D := mBind pa fun x => mBind pl fun l => mBind ph fun u => mBind (mLift (toT x)) fun ds => mPure (.tup (cutG ds l u))
theorem fe_slT (he : FE X XD e pa) (hl : FPO X XD lo pl) (hh : FPO X XD hi ph) : FE X XD (.Subscript e (.Slice lo hi none p2) pos) (mSlT pa pl ph) :=
  DE_imp (de_slT he hl hh) fun _ _ _ h => wM_imp (wM_bind h) fun x _ h => wM_imp (wM_bind h) fun _ _ h => wM_imp (wM_bind h) fun _ _ h => by
    obtain ⟨ds, e1, h⟩ := wM_lift (wM_bind h)
    exact ⟨ds, toT_eq e1, wM_pure h⟩
def mSlL (i : Nat) (pl ph : M (Option Int)) : M (List D) := mBind (mGetL i) fun _ => mBind pl fun l => mBind ph fun u => mBind (mGetL i) fun ds => mPure (cutG ds l u)
theorem ff_slL {i : Nat} (he : DE X e (dVar i)) (hl : FPO X XD lo pl) (hh : FPO X XD hi ph) : FF X XD (.Subscript e (.Slice lo hi none p2) pos) (mSlL i pl ph) :=
  DF_imp (df_slL he hl hh) fun ε S Q h => by
    obtain ⟨q, _, e1, _, h⟩ := wM_getL (wM_bind h)
    refine ⟨.ref q, e1, wM_imp (wM_bind h) fun l S1 h => wM_imp (wM_bind h) fun u S2 h => ?_⟩
    obtain ⟨q', ds, e2, hq, h⟩ := wM_getL (wM_bind h)
    cases slot_eq e1 e2
    exact ⟨q, ds, rfl, hq, wM_pure h⟩
def mRevL (i : Nat) : M (List D) := mBind (mGetL i) fun ds => mPure ds.reverse
theorem ff_revL {i k : Nat} {q1 q2 q3 : Pos} (he : DE X e (dVar i)) : FF X XD (.Subscript e (.Slice none none (some (.UnaryOp .USub (.Constant (.int 1) k q1) q2)) q3) pos) (mRevL i) :=
  DF_imp (df_revL he) fun ε S Q h => by
    obtain ⟨q, ds, e1, e2, h⟩ := wM_getL (wM_bind h)
    exact ⟨.ref q, e1, q, ds, rfl, e2, wM_pure h⟩
def mRevT (pa : M D) : M D := mBind pa fun x => mBind (mLift (toT x)) fun ds => mPure (.tup ds.reverse)
theorem fe_revT {k : Nat} {q1 q2 q3 : Pos} (he : FE X XD e pa) : FE X XD (.Subscript e (.Slice none none (some (.UnaryOp .USub (.Constant (.int 1) k q1) q2)) q3) pos) (mRevT pa) :=
  DE_imp (de_revT he) fun ε S Q h => wM_imp (wM_bind h) fun x S1 h => by
    obtain ⟨ds, e1, h⟩ := wM_lift (wM_bind h)
    exact ⟨ds, toT_eq e1, wM_pure h⟩
def cat (xs ys : List D) : Option (List D) := if xs.length + ys.length ≤ 1000000 then some (xs ++ ys) else none
theorem cat_eq {xs ys zs : List D} (h : cat xs ys = some zs) : xs.length + ys.length ≤ 1000000 ∧ zs = xs ++ ys := by
  unfold cat at h
  split at h
  · cases h; exact ⟨by assumption, rfl⟩
  · cases h
def mCatFF (pf pg : M (List D)) : M (List D) := mBind pf fun xs => mBind pg fun ys => mLift (cat xs ys)
theorem ff_catFF (ha : FF X XD a pf) (hb : FF X XD b pg) : FF X XD (.BinOp a .Add b pos) (mCatFF pf pg) :=
  DF_imp (df_catFF ha hb) fun ε S Q h => wM_imp (wM_bind h) fun xs S1 h => wM_imp (wM_bind h) fun ys S2 h => by
    obtain ⟨zs, e, h⟩ := wM_lift h
    obtain ⟨c, rfl⟩ := cat_eq e
    exact ⟨c, h⟩
def mCatVF (i : Nat) (pg : M (List D)) : M (List D) := mBind (mGetL i) fun _ => mBind pg fun ys => mBind (mGetL i) fun xs => mLift (cat xs ys)
theorem ff_catVF {i : Nat} (ha : DE X a (dVar i)) (hb : FF X XD b pg) : FF X XD (.BinOp a .Add b pos) (mCatVF i pg) :=
  DF_imp (df_catVF ha hb) fun ε S Q h => by
    obtain ⟨q, _, e1, _, h⟩ := wM_getL (wM_bind h)
    refine ⟨.ref q, e1, wM_imp (wM_bind h) fun ys S2 h => ?_⟩
    obtain ⟨q', xs, e2, hq, h⟩ := wM_getL (wM_bind h)
    cases slot_eq e1 e2
    obtain ⟨zs, e, h⟩ := wM_lift h
    obtain ⟨c, rfl⟩ := cat_eq e
    exact ⟨q, xs, rfl, hq, c, h⟩
def mCatFV (pf : M (List D)) (i : Nat) : M (List D) := mBind pf fun xs => mBind (mGetL i) fun ys => mLift (cat xs ys)
theorem ff_catFV {i : Nat} (ha : FF X XD a pf) (hb : DE X b (dVar i)) : FF X XD (.BinOp a .Add b pos) (mCatFV pf i) :=
  DF_imp (df_catFV ha hb) fun ε S Q h => wM_imp (wM_bind h) fun xs S1 h => by
    obtain ⟨q, ys, e1, hq, h⟩ := wM_getL (wM_bind h)
    obtain ⟨zs, e, h⟩ := wM_lift h
    obtain ⟨c, rfl⟩ := cat_eq e
    exact ⟨.ref q, e1, q, ys, rfl, hq, c, h⟩
def mCatVV (i j : Nat) : M (List D) := mBind (mGetL i) fun xs => mBind (mGetL j) fun ys => mLift (cat xs ys)
theorem ff_catVV {i j : Nat} (ha : DE X a (dVar i)) (hb : DE X b (dVar j)) : FF X XD (.BinOp a .Add b pos) (mCatVV i j) :=
  DF_imp (df_catVV ha hb) fun ε S Q h => by
    obtain ⟨q, xs, e1, hq, h⟩ := wM_getL (wM_bind h)
    obtain ⟨q', ys, e2, hq', h⟩ := wM_getL (wM_bind h)
    obtain ⟨zs, e, h⟩ := wM_lift h
    obtain ⟨c, rfl⟩ := cat_eq e
    exact ⟨.ref q, e1, .ref q', e2, q, q', xs, ys, rfl, rfl, hq, hq', c, h⟩
def rep (xs : List D) (y : D) : Option (List D) := match y with
  | .int i => if -1000 ≤ i ∧ i ≤ 1000 ∧ xs.length ≤ 1000 then some (List.replicate i.toNat xs).flatten else none
  | _ => none
theorem rep_eq {xs zs : List D} {y : D} (h : rep xs y = some zs) : ∃ i : Int, y = .int i ∧ -1000 ≤ i ∧ i ≤ 1000 ∧ xs.length ≤ 1000 ∧ zs = (List.replicate i.toNat xs).flatten := by
  unfold rep at h
  split at h
  · split at h
    · rename_i hc
      cases h
      exact ⟨_, rfl, hc.1, hc.2.1, hc.2.2, rfl⟩
    · cases h
  · cases h
def mRepF (pf : M (List D)) (pb : M D) : M (List D) := mBind pf fun xs => mBind pb fun y => mLift (rep xs y)
theorem ff_repF (ha : FF X XD a pf) (hb : FE X XD b pb) : FF X XD (.BinOp a .Mult b pos) (mRepF pf pb) :=
  DF_imp (df_repF ha hb) fun ε S Q h => wM_imp (wM_bind h) fun xs S1 h => wM_imp (wM_bind h) fun y S2 h => by
    obtain ⟨zs, e, h⟩ := wM_lift h
    obtain ⟨i, e1, e2, e3, e4, rfl⟩ := rep_eq e
    exact ⟨i, e1, e2, e3, e4, h⟩
def mRepV (i : Nat) (pb : M D) : M (List D) := mBind (mGetL i) fun _ => mBind pb fun y => mBind (mGetL i) fun xs => mLift (rep xs y)
theorem ff_repV {i : Nat} (ha : DE X a (dVar i)) (hb : FE X XD b pb) : FF X XD (.BinOp a .Mult b pos) (mRepV i pb) :=
  DF_imp (df_repV ha hb) fun ε S Q h => by
    obtain ⟨q, _, e1, _, h⟩ := wM_getL (wM_bind h)
    refine ⟨.ref q, e1, wM_imp (wM_bind h) fun y S2 h => ?_⟩
    obtain ⟨q', xs, e2, hq, h⟩ := wM_getL (wM_bind h)
    cases slot_eq e1 e2
    obtain ⟨zs, e, h⟩ := wM_lift h
    obtain ⟨i, e1, e2, e3, e4, rfl⟩ := rep_eq e
    exact ⟨i, q, xs, rfl, e1, hq, e2, e3, e4, h⟩
def mTupF (pf : M (List D)) : M D := mBind pf fun ds => mPure (.tup ds)
theorem fe_tupF (hg : Gl X "tuple") (hm : X.mg "tuple" = none) (ha : FF X XD a pf) (he : starEach [a] X.env = (false, eval a X.env) :: starEach [] X.env := by rfl) (hpl : (backTo pos (starEach [] X.env)).any (·.1) = false := by rfl) : FE X XD (.Call (.Name "tuple" p) [a] [] pos) (mTupF pf) :=
  DE_imp (de_tupF hg hm ha he hpl) fun ε S Q h => wM_imp (wM_bind h) fun ds S1 h => wM_pure h
def items : D → Option (List D)
  | .tup ds => some ds
  | .ilst ds => some ds
  | _ => none
theorem items_eq {d : D} {ds : List D} (h : items d = some ds) : d = .tup ds ∨ d = .ilst ds := by
  cases d <;> simp [items] at h
  · exact .inl (by rw [h])
  · exact .inr (by rw [h])
def mTupV (pa : M D) : M D := mBind pa fun x => mBind (mLift (items x)) fun ds => mPure (.tup ds)
theorem fe_tupV (hg : Gl X "tuple") (hm : X.mg "tuple" = none) (ha : FE X XD a pa) (he : starEach [a] X.env = (false, eval a X.env) :: starEach [] X.env := by rfl) (hpl : (backTo pos (starEach [] X.env)).any (·.1) = false := by rfl) : FE X XD (.Call (.Name "tuple" p) [a] [] pos) (mTupV pa) :=
  DE_imp (de_tupV hg hm ha he hpl) fun ε S Q h => wM_imp (wM_bind h) fun x S1 h => by
    obtain ⟨ds, e1, h⟩ := wM_lift (wM_bind h)
    rcases items_eq e1 with rfl | rfl
    · exact .inl ⟨ds, rfl, wM_pure h⟩
    · exact .inr (.inl ⟨ds, rfl, wM_pure h⟩)
def mTupL (i : Nat) : M D := mBind (mGetL i) fun ds => mPure (.tup ds)
theorem fe_tupL (hg : Gl X "tuple") (hm : X.mg "tuple" = none) {i : Nat} (ha : DE X a (dVar i)) (he : starEach [a] X.env = (false, eval a X.env) :: starEach [] X.env := by rfl) (hpl : (backTo pos (starEach [] X.env)).any (·.1) = false := by rfl) : FE X XD (.Call (.Name "tuple" p) [a] [] pos) (mTupL i) :=
  DE_imp (de_tupV hg hm ha he hpl) fun ε S Q h => by
    obtain ⟨q, ds, e1, e2, h⟩ := wM_getL (wM_bind h)
    exact ⟨.ref q, e1, .inr (.inr ⟨q, ds, rfl, e2, wM_pure h⟩)⟩
def mListV (pa : M D) : M (List D) := mBind pa fun x => mLift (items x)
theorem ff_listV (hg : Gl X "list") (hm : X.mg "list" = none) (ha : FE X XD a pa) (he : starEach [a] X.env = (false, eval a X.env) :: starEach [] X.env := by rfl) (hpl : (backTo pos (starEach [] X.env)).any (·.1) = false := by rfl) : FF X XD (.Call (.Name "list" p) [a] [] pos) (mListV pa) :=
  DF_imp (df_listV hg hm ha he hpl) fun ε S Q h => wM_imp (wM_bind h) fun x S1 h => by
    obtain ⟨ds, e1, h'⟩ := wM_lift h
    rcases items_eq e1 with rfl | rfl
    · exact ⟨ds, .inl rfl, h'⟩
    · exact ⟨ds, .inr (.inl rfl), h'⟩
theorem ff_listL (hg : Gl X "list") (hm : X.mg "list" = none) {i : Nat} (ha : DE X a (dVar i)) (he : starEach [a] X.env = (false, eval a X.env) :: starEach [] X.env := by rfl) (hpl : (backTo pos (starEach [] X.env)).any (·.1) = false := by rfl) : FF X XD (.Call (.Name "list" p) [a] [] pos) (mGetL i) :=
  DF_imp (df_listV hg hm ha he hpl) fun ε S Q h => by
    obtain ⟨q, ds, e1, e2, h⟩ := wM_getL h
    exact ⟨.ref q, e1, ds, .inr (.inr ⟨q, rfl, e2⟩), h⟩
def bools : List D → Option (List Bool)
  | [] => some []
  | .bl b :: r => (bools r).map (b :: ·)
  | _ :: _ => none
def intsL : List D → Option (List Int)
  | [] => some []
  | .int b :: r => (intsL r).map (b :: ·)
  | _ :: _ => none
theorem bools_eq : ∀ {ds : List D} {bs : List Bool}, bools ds = some bs → ds = bs.map D.bl
  | [], bs, h => by
    cases h
    rfl
  | d :: ds, bs, h => by
    cases d <;> first | (cases h; done) | skip
    obtain ⟨r, h1, rfl⟩ := Option.map_eq_some_iff.mp h
    rw [bools_eq h1]
    rfl
theorem intsL_eq : ∀ {ds : List D} {bs : List Int}, intsL ds = some bs → ds = bs.map D.int
  | [], bs, h => by
    cases h
    rfl
  | d :: ds, bs, h => by
    cases d <;> first | (cases h; done) | skip
    obtain ⟨r, h1, rfl⟩ := Option.map_eq_some_iff.mp h
    rw [intsL_eq h1]
    rfl
theorem bools_map : ∀ bs : List Bool, bools (bs.map D.bl) = some bs
  | [] => rfl
  | b :: bs => by
    show (bools (bs.map D.bl)).map (b :: ·) = _
    rw [bools_map bs]
    rfl
theorem intsL_map : ∀ bs : List Int, intsL (bs.map D.int) = some bs
  | [] => rfl
  | b :: bs => by
    show (intsL (bs.map D.int)).map (b :: ·) = _
    rw [intsL_map bs]
    rfl
def mAllF (pf : M (List D)) : M D := mBind pf fun ds => mBind (mLift (bools ds)) fun bs => mPure (.bl (bs.all id))
def mAnyF (pf : M (List D)) : M D := mBind pf fun ds => mBind (mLift (bools ds)) fun bs => mPure (.bl (bs.any id))
def mSumF (pf : M (List D)) : M D := mBind pf fun ds => mBind (mLift (intsL ds)) fun ns => mPure (.int ns.sum)
theorem fe_allF (hc : X.calm = true) (hg : Gl X "all") (hm : X.mg "all" = none) (ha : FF X XD a pf) (he : starEach [a] X.env = (false, eval a X.env) :: starEach [] X.env := by rfl) (hpl : (backTo pos (starEach [] X.env)).any (·.1) = false := by rfl) : FE X XD (.Call (.Name "all" p) [a] [] pos) (mAllF pf) :=
  DE_imp (de_allF hc hg hm ha he hpl) fun ε S Q h => wM_imp (wM_bind h) fun ds S1 h => by
    obtain ⟨bs, e1, h⟩ := wM_lift (wM_bind h)
    exact ⟨bs, bools_eq e1, wM_pure h⟩
theorem fe_anyF (hc : X.calm = true) (hg : Gl X "any") (hm : X.mg "any" = none) (ha : FF X XD a pf) (he : starEach [a] X.env = (false, eval a X.env) :: starEach [] X.env := by rfl) (hpl : (backTo pos (starEach [] X.env)).any (·.1) = false := by rfl) : FE X XD (.Call (.Name "any" p) [a] [] pos) (mAnyF pf) :=
  DE_imp (de_anyF hc hg hm ha he hpl) fun ε S Q h => wM_imp (wM_bind h) fun ds S1 h => by
    obtain ⟨bs, e1, h⟩ := wM_lift (wM_bind h)
    exact ⟨bs, bools_eq e1, wM_pure h⟩
theorem fe_sumF (hc : X.calm = true) (hg : Gl X "sum") (hm : X.mg "sum" = none) (ha : FF X XD a pf) (he : starEach [a] X.env = (false, eval a X.env) :: starEach [] X.env := by rfl) (hpl : (backTo pos (starEach [] X.env)).any (·.1) = false := by rfl) : FE X XD (.Call (.Name "sum" p) [a] [] pos) (mSumF pf) :=
  DE_imp (de_sumF hc hg hm ha he hpl) fun ε S Q h => wM_imp (wM_bind h) fun ds S1 h => by
    obtain ⟨ns, e1, h⟩ := wM_lift (wM_bind h)
    exact ⟨ns, intsL_eq e1, wM_pure h⟩
def mCB (f : List D → Option D) (pas : M (List D)) : M D := mBind pas fun ds => mLift (f ds)
theorem wM_cb {f : List D → Option D} {ε : ED} {S : SD} {Q : DK} (h : wM XD (mCB f pas) ε S Q) : dCB (rFC f) (wM XD pas) ε S Q := wM_imp (wM_bind h) fun _ _ h => wM_lift h
theorem fe_callB {x : Str} {id : String} {f : List D → Option D} (hc : FCall X (.builtin id) f) (hg : Gl X x) (hm : X.mg x = none) (hv : bootBuiltins x = some (.builtin id)) (ha : FA X XD (e :: es) pas) (hn : x ≠ "__name__" := by decide) (hdb : (x == ("__debug__" : Str)) = false := by decide)
    (he : starEach (e :: es) X.env = (false, eval e X.env) :: starEach es X.env := by rfl) (hpl : (backTo pos (starEach es X.env)).any (·.1) = false := by rfl) : FE X XD (.Call (.Name x p) (e :: es) [] pos) (mCB f pas) :=
  DE_imp (de_callB hc hg hm hv ha hn hdb he hpl) fun _ _ _ => wM_cb
theorem fe_callTy {x : Str} {T : String} {f : List D → Option D} (hc : FCall X (.type T) f) (hg : Gl X x) (hm : X.mg x = none) (hv : bootBuiltins x = some (.type T)) (ha : FA X XD (e :: es) pas) (hn : x ≠ "__name__" := by decide) (hdb : (x == ("__debug__" : Str)) = false := by decide)
    (he : starEach (e :: es) X.env = (false, eval e X.env) :: starEach es X.env := by rfl) (hpl : (backTo pos (starEach es X.env)).any (·.1) = false := by rfl) : FE X XD (.Call (.Name x p) (e :: es) [] pos) (mCB f pas) :=
  DE_imp (de_callTy hc hg hm hv ha hn hdb he hpl) fun _ _ _ => wM_cb
def fLen : List D → Option D
  | [.tup ds] => some (.int ds.length)
  | [.ilst ds] => some (.int ds.length)
  | [.str z] => if z.length ≤ 1000000 then some (.int z.length) else none
  | _ => none
theorem fc_len : FCall X (.builtin "len") fLen := FCall_of dc_len fun ds S Q d h q => by
  unfold fLen at h
  split at h
  · cases h; exact ⟨_, rfl, .inl ⟨_, .inl rfl, q⟩⟩
  · cases h; exact ⟨_, rfl, .inl ⟨_, .inr (.inl rfl), q⟩⟩
  · split at h
    · cases h; exact ⟨_, rfl, .inr (.inl ⟨_, rfl, by assumption, q⟩)⟩
    · cases h
  · cases h
def mLenL (i : Nat) : M D := mBind (mGetL i) fun ds => mPure (.int ds.length)
theorem fe_lenL (hg : Gl X "len") (hm : X.mg "len" = none) {i : Nat} (ha : DE X a (dVar i)) (he : starEach [a] X.env = (false, eval a X.env) :: starEach [] X.env := by rfl) (hpl : (backTo pos (starEach [] X.env)).any (·.1) = false := by rfl) : FE X XD (.Call (.Name "len" p) [a] [] pos) (mLenL i) :=
  DE_imp (de_callB dc_len hg hm PySem.boot_len (da_cons ha da_nil he) (he := he) (hpl := hpl)) fun ε S Q h => by
    obtain ⟨q, ds, e1, e2, h⟩ := wM_getL (wM_bind h)
    exact ⟨.ref q, e1, .ref q, rfl, .inl ⟨ds, .inr (.inr ⟨q, rfl, e2⟩), wM_pure h⟩⟩
def fInt : List D → Option D
  | [.int i] => some (.int i)
  | [.bl b] => some (.int (if b then 1 else 0))
  | _ => none
theorem fc_int : FCall X (.type "int") fInt := FCall_of dc_int fun ds S Q d h q => by
  unfold fInt at h
  split at h
  · cases h; exact .inl ⟨_, rfl, q⟩
  · cases h; exact .inr ⟨_, rfl, q⟩
  · cases h
def fMin : List D → Option D
  | [.int i, .int j] => some (.int (if j < i then j else i))
  | _ => none
def fMax : List D → Option D
  | [.int i, .int j] => some (.int (if j > i then j else i))
  | _ => none
theorem fc_min (hc : X.calm = true) : FCall X (.builtin "min") fMin := FCall_of (dc_min2 hc) fun ds S Q d h q => by
  unfold fMin at h
  split at h
  · cases h; exact ⟨_, _, rfl, q⟩
  · cases h
theorem fc_max (hc : X.calm = true) : FCall X (.builtin "max") fMax := FCall_of (dc_max2 hc) fun ds S Q d h q => by
  unfold fMax at h
  split at h
  · cases h; exact ⟨_, _, rfl, q⟩
  · cases h
def tyP : D → Option String
  | .non => some "NoneType"
  | .bl _ => some "bool"
  | .int _ => some "int"
  | .str _ => some "str"
  | .tup _ => some "tuple"
  | .ilst _ => some "list"
  | .edic => some "dict"
  | _ => none
def fIsi : List D → Option D
  | [x, .ty T] => if T = "tuple" ∨ T = "str" ∨ T = "int" ∨ T = "bool" then (tyP x).map fun t => .bl (subTy t T) else none
  | _ => none
theorem fc_isi : FCall X (.builtin "isinstance") fIsi := FCall_of dc_isi fun ds S Q d h q => by
  unfold fIsi at h
  split at h
  · rename_i x T
    split at h
    · rename_i hc
      obtain ⟨t, e, rfl⟩ := Option.map_eq_some_iff.mp h
      refine ⟨x, T, t, rfl, ?_, hc, q⟩
      cases x <;> first | exact e | (cases e; done)
    · cases h
  · cases h
def fRepr : List D → Option D
  | [.tup ds] => if plainL ds = true ∧ (PyData.tuple (pys ds)).showable = true ∧ (PyData.tuple (pys ds)).hasDict = false ∧ (PyData.tuple (pys ds)).depth ≤ 62 ∧ (PyData.tuple (pys ds)).shown.length ≤ sizeLine then some (.str (PyData.tuple (pys ds)).shown) else none
  | _ => none
theorem fc_repr (hu : X.A.units + 64 < cLine) (hg : X.A.guards = some []) : FCall X (.builtin "repr") fRepr := FCall_of (dc_repr hu hg) fun ds S Q d h q => by
  unfold fRepr at h
  split at h
  · rename_i ds
    split at h
    · rename_i hc
      cases h
      exact ⟨_, _, rfl, .inl ⟨hc.1, rfl⟩, ⟨_, .inl rfl⟩, hc.2, q⟩
    · cases h
  · cases h
def appL (x : D) (ds : List D) : Option (D × List D) := if ds.length ≤ 1000000 then some (.non, ds ++ [x]) else none
def mAppL (i : Nat) (pa : M D) : M D := mBind (mGetL i) fun _ => mBind pa fun x => mModL i (appL x)
theorem fe_append {apos cpos : Pos} {o : Expr} {i : Nat} (ho : DE X o (dVar i)) (ha : FE X XD e pa)
    (hbase : attributeBase o "append" X.env (eval o X.env) = eval o X.env := by rfl)
    (hfew : ((backTo cpos (starEach [e] X.env)).all (fun x => !x.1) && (backToKw cpos (keywordEach [] X.env)).all (fun x => x.1.isSome)
      && decide (([e] : List Expr).length + ([] : List Keyword).length + (if ([] : List Keyword).isEmpty then 0 else 1) < 30)) = true := by rfl)
    (hline : (apos.endLine == cpos.line) = true := by rfl) (hs : starEach [e] X.env = (false, eval e X.env) :: starEach [] X.env := by rfl) (hplain : (backTo cpos (starEach [] X.env)).any (·.1) = false := by rfl) :
    FE X XD (.Call (.Attribute o "append" apos) [e] [] cpos) (mAppL i pa) :=
  DE_imp (de_lm PySem.F.slot_list_append PySem.F.type_list_append dm_append ho (da_cons ha da_nil hs) hbase hfew hline hs hplain) fun ε S Q h => by
    obtain ⟨q, ds0, e1, e2, h⟩ := wM_getL (wM_bind h)
    refine ⟨.ref q, e1, ⟨q, ds0, rfl, e2⟩, wM_imp (wM_bind h) fun x S1 h => ?_⟩
    obtain ⟨q', ds, b, ds', e3, e4, e5, h⟩ := wM_modL h
    cases slot_eq e1 e3
    unfold appL at e5
    split at e5
    · cases e5
      exact ⟨q, ds, x, rfl, rfl, e4, by assumption, h⟩
    · cases e5
def popL (ds : List D) : Option (D × List D) := match ds.getLast? with
  | some d => some (d, ds.dropLast)
  | none => none
theorem popL_eq {ds ds' : List D} {d : D} (h : popL ds = some (d, ds')) : ds = ds' ++ [d] := by
  unfold popL at h
  split at h
  · rename_i x hx
    cases h
    obtain ⟨ys, rfl⟩ := List.getLast?_eq_some_iff.mp hx
    simp
  · cases h
theorem popL_snoc {ds : List D} {d : D} : popL (ds ++ [d]) = some (d, ds) := by simp [popL]
def mPopL (i : Nat) : M D := mModL i popL
theorem fe_pop {apos cpos : Pos} {o : Expr} {i : Nat} (ho : DE X o (dVar i)) (hbase : attributeBase o "pop" X.env (eval o X.env) = eval o X.env := by rfl) (hline : (apos.endLine == cpos.line) = true := by rfl) :
    FE X XD (.Call (.Attribute o "pop" apos) [] [] cpos) (mPopL i) :=
  DE_imp (de_lm0 PySem.F.slot_list_pop PySem.F.type_list_pop dm_pop ho hbase hline) fun ε S Q h => by
    obtain ⟨q, ds, b, ds', e3, e4, e5, h⟩ := wM_modL h
    cases popL_eq e5
    exact ⟨.ref q, e3, ⟨q, _, rfl, e4⟩, q, ds', b, rfl, rfl, e4, h⟩
def popAtL (y : D) (ds : List D) : Option (D × List D) := match y with
  | .int i => if 0 ≤ i ∧ ds.length ≤ 1000000 then (ds[i.toNat]?).map fun d => (d, ds.eraseIdx i.toNat) else none
  | _ => none
def mPopAtL (i : Nat) (pa : M D) : M D := mBind (mGetL i) fun _ => mBind pa fun y => mModL i (popAtL y)
theorem fe_popAt {apos cpos : Pos} {o : Expr} {i : Nat} (ho : DE X o (dVar i)) (ha : FE X XD e pa)
    (hbase : attributeBase o "pop" X.env (eval o X.env) = eval o X.env := by rfl)
    (hfew : ((backTo cpos (starEach [e] X.env)).all (fun x => !x.1) && (backToKw cpos (keywordEach [] X.env)).all (fun x => x.1.isSome)
      && decide (([e] : List Expr).length + ([] : List Keyword).length + (if ([] : List Keyword).isEmpty then 0 else 1) < 30)) = true := by rfl)
    (hline : (apos.endLine == cpos.line) = true := by rfl) (hs : starEach [e] X.env = (false, eval e X.env) :: starEach [] X.env := by rfl) (hplain : (backTo cpos (starEach [] X.env)).any (·.1) = false := by rfl) :
    FE X XD (.Call (.Attribute o "pop" apos) [e] [] cpos) (mPopAtL i pa) :=
  DE_imp (de_lm PySem.F.slot_list_pop PySem.F.type_list_pop dm_popAt ho (da_cons ha da_nil hs) hbase hfew hline hs hplain) fun ε S Q h => by
    obtain ⟨q, ds0, e1, e2, h⟩ := wM_getL (wM_bind h)
    refine ⟨.ref q, e1, ⟨q, ds0, rfl, e2⟩, wM_imp (wM_bind h) fun x S1 h => ?_⟩
    obtain ⟨q', ds, b, ds', e3, e4, e5, h⟩ := wM_modL h
    cases slot_eq e1 e3
    unfold popAtL at e5
    split at e5
    · split at e5
      · rename_i hc
        obtain ⟨d, hd, e6⟩ := Option.map_eq_some_iff.mp e5
        cases e6
        exact ⟨q, ds, _, b, rfl, rfl, e4, hc.1, hc.2, hd, h⟩
      · cases e5
    · cases e5
def extL (ys ds : List D) : Option (D × List D) := if ds.length + ys.length ≤ 1000000 then some (.non, ds ++ ys) else none
def mExtF (i : Nat) (pf : M (List D)) : M D := mBind (mGetL i) fun _ => mBind pf fun ys => mModL i (extL ys)
theorem fe_extF {apos cpos : Pos} {o : Expr} {i : Nat} (ho : DE X o (dVar i)) (ha : FF X XD e pf) (hbase : attributeBase o "extend" X.env (eval o X.env) = eval o X.env := by rfl)
    (hfew : ((backTo cpos (starEach [e] X.env)).all (fun x => !x.1) && (backToKw cpos (keywordEach [] X.env)).all (fun x => x.1.isSome)
      && decide (([e] : List Expr).length + ([] : List Keyword).length + (if ([] : List Keyword).isEmpty then 0 else 1) < 30)) = true := by rfl)
    (hline : (apos.endLine == cpos.line) = true := by rfl) (hs : starEach [e] X.env = (false, eval e X.env) :: starEach [] X.env := by rfl) (hplain : (backTo cpos (starEach [] X.env)).any (·.1) = false := by rfl) :
    FE X XD (.Call (.Attribute o "extend" apos) [e] [] cpos) (mExtF i pf) :=
  DE_imp (de_extF ho ha hbase hfew hline hs hplain) fun ε S Q h => by
    obtain ⟨q, ds0, e1, e2, h⟩ := wM_getL (wM_bind h)
    refine ⟨.ref q, e1, ⟨q, ds0, rfl, e2⟩, wM_imp (wM_bind h) fun ys S1 h => ?_⟩
    obtain ⟨q', ds, b, ds', e3, e4, e5, h⟩ := wM_modL h
    cases slot_eq e1 e3
    unfold extL at e5
    split at e5
    · cases e5
      exact ⟨q, ds, rfl, e4, by assumption, h⟩
    · cases e5
def mExtL (i j : Nat) : M D := mBind (mGetL i) fun _ => mBind (mGetL j) fun ys => mModL i (extL ys)
theorem fe_extL {apos cpos : Pos} {o : Expr} {i j : Nat} (ho : DE X o (dVar i)) (ha : DE X e (dVar j)) (hbase : attributeBase o "extend" X.env (eval o X.env) = eval o X.env := by rfl)
    (hfew : ((backTo cpos (starEach [e] X.env)).all (fun x => !x.1) && (backToKw cpos (keywordEach [] X.env)).all (fun x => x.1.isSome)
      && decide (([e] : List Expr).length + ([] : List Keyword).length + (if ([] : List Keyword).isEmpty then 0 else 1) < 30)) = true := by rfl)
    (hline : (apos.endLine == cpos.line) = true := by rfl) (hs : starEach [e] X.env = (false, eval e X.env) :: starEach [] X.env := by rfl) (hplain : (backTo cpos (starEach [] X.env)).any (·.1) = false := by rfl) :
    FE X XD (.Call (.Attribute o "extend" apos) [e] [] cpos) (mExtL i j) :=
  DE_imp (de_lm PySem.F.slot_list_extend PySem.F.type_list_extend dm_extV ho (da_cons ha da_nil hs) hbase hfew hline hs hplain) fun ε S Q h => by
    obtain ⟨q, ds0, e1, e2, h⟩ := wM_getL (wM_bind h)
    obtain ⟨q2, ys, e6, e7, h⟩ := wM_getL (wM_bind h)
    obtain ⟨q', ds, b, ds', e3, e4, e5, h⟩ := wM_modL h
    cases slot_eq e1 e3
    refine ⟨.ref q, e1, ⟨q, ds0, rfl, e2⟩, .ref q2, e6, ?_⟩
    unfold extL at e5
    split at e5
    · cases e5
      exact ⟨q, q2, ds, ys, rfl, rfl, e4, e7, by assumption, h⟩
    · cases e5
def fCount (x y : D) : Option D := match x with
  | .tup ds => if plainL ds = true ∧ y.plain = true ∧ y.py.depth ≤ 60 then some (.int ((pys ds).countP fun z => PyData.eqv z y.py : Nat)) else none
  | _ => none
def mCountT (pa pb : M D) : M D := mBind pa fun x => mBind (mLift (toT x)) fun _ => mBind pb fun y => mLift (fCount x y)
theorem fe_count (hv : X.A.units + 64 < cLine) {apos cpos : Pos} (ho : FE X XD a pa) (ha : FE X XD e pb) (hbase : attributeBase a "count" X.env (eval a X.env) = eval a X.env := by rfl)
    (hfew : ((backTo cpos (starEach [e] X.env)).all (fun x => !x.1) && (backToKw cpos (keywordEach [] X.env)).all (fun x => x.1.isSome)
      && decide (([e] : List Expr).length + ([] : List Keyword).length + (if ([] : List Keyword).isEmpty then 0 else 1) < 30)) = true := by rfl)
    (hline : (apos.endLine == cpos.line) = true := by rfl) (hs : starEach [e] X.env = (false, eval e X.env) :: starEach [] X.env := by rfl) (hplain : (backTo cpos (starEach [] X.env)).any (·.1) = false := by rfl) :
    FE X XD (.Call (.Attribute a "count" apos) [e] [] cpos) (mCountT pa pb) :=
  DE_imp (de_tm PySem.F.slot_tuple_count PySem.F.type_tuple_count (dm_count hv) ho (da_cons ha da_nil hs) hbase hfew hline hs hplain) fun ε S Q h => wM_imp (wM_bind h) fun x S1 h => by
    obtain ⟨ds, e1, h⟩ := wM_lift (wM_bind h)
    cases toT_eq e1
    refine ⟨⟨ds, rfl⟩, wM_imp (wM_bind h) fun y S2 h => ?_⟩
    obtain ⟨d, e2, h⟩ := wM_lift h
    simp only [fCount] at e2
    split at e2
    · rename_i hc
      cases e2
      exact ⟨ds, y, rfl, rfl, hc.1, hc.2.1, hc.2.2, h⟩
    · cases e2
def fNeg : D → Option D
  | .int i => some (.int (-i))
  | _ => none
def mNeg (pa : M D) : M D := mBind pa fun x => mLift (fNeg x)
theorem fe_neg (ha : FE X XD a pa) : FE X XD (.UnaryOp .USub a pos) (mNeg pa) := DE_imp (de_neg ha) fun ε S Q h => wM_imp (wM_bind h) fun x S1 h => by
  obtain ⟨d, e, h⟩ := wM_lift h
  unfold fNeg at e
  split at e
  · cases e; exact ⟨_, rfl, h⟩
  · cases e
end
end FL

namespace FL
open PySem PySem.Spec PyProof.Rows L2 DL
variable [Amb] [Cbs]

section
variable {XD : XT} {ε : ED} {S : SD} {α β : Type}
theorem wO_pure {v : PV} {Q : DK} (h : wO XD (mPure v) ε S Q) : ∃ εp fp, St S εp ε fp ∧ ∀ S' fp' fq d, OwnE S' εp ε fp' → Own S' v d fq → (fp' ++ fq).Nodup → Nx S fp S' (fp' ++ fq) → Q d S' := by
  obtain ⟨εp, fp, o, εp', st, e, k⟩ := h
  cases e
  exact ⟨εp, fp, st, k⟩
theorem nx_new {fp : List Addr} {q : Addr} {c : Cell} (h : S q = none) : Nx S fp (put S q c) (fp ++ [q]) := ⟨fun a ha => by
  rcases List.mem_append.mp ha with ha | ha
  · exact .inl ha
  · rw [List.mem_singleton] at ha
    exact .inr (ha ▸ h), fun a x hq hx => by
  rw [put_ne (by rintro rfl; rw [h] at hx; cases hx)]
  exact hx⟩
theorem fresh_frame {fp : List Addr} {q : Addr} {c : Cell} (h : S q = none) (dom : ∀ a ∈ fp, ∃ c, S a = some c) : (∀ a ∈ fp, put S q c a = S a) ∧ q ∉ fp := by
  have hq : q ∉ fp := fun z => by
    obtain ⟨x, hx⟩ := dom q z
    rw [h] at hx
    cases hx
  exact ⟨fun a ha => put_ne (by rintro rfl; exact hq ha), hq⟩
theorem wO_val {p : M D} {Q : DK} (h : wO XD (mMap .val p) ε S Q) : wM XD p ε S Q := wM_imp (wO_bind h) fun d S1 h => by
  obtain ⟨εp, fp, st, k⟩ := wO_pure h
  exact k S1 fp [] d st.own own_val (by rw [List.append_nil]; exact st.nd) (by rw [List.append_nil]; exact Nx.refl)
theorem wO_lst {p : M (List D)} {Q : DK} (h : wO XD (mMap .lst p) ε S Q) : dNew (wM XD p) ε S Q := wM_imp (wO_bind h) fun ds S1 h => by
  obtain ⟨εp, fp, st, k⟩ := wO_pure h
  intro q hq
  obtain ⟨f1, f2⟩ := fresh_frame (c := .lst ds) hq st.own.dom
  exact k _ fp [q] (.ref q) (st.own.frame f1) (own_lst put_same) (nodup_app st.nd (by simp) fun a ha hb => by
    rw [List.mem_singleton] at hb
    exact f2 (hb ▸ ha)) (nx_new hq)
theorem wO_dnew {Q : DK} (h : wO XD (mPure (.dic [] [])) ε S Q) : dNewD ε S Q := by
  obtain ⟨εp, fp, st, k⟩ := wO_pure h
  intro q hq
  obtain ⟨f1, f2⟩ := fresh_frame (c := .dic []) hq st.own.dom
  exact k _ fp [q] (.ref q) (st.own.frame f1) (own_dic (ds := []) (by exact put_same) rfl ownL_nil) (nodup_app st.nd (by simp) fun a ha hb => by
    rw [List.mem_singleton] at hb
    exact f2 (hb ▸ ha)) (nx_new hq)

def mArgV (pa : M D) (pr : M (List PArg)) : M (List PArg) := mBind pa fun d => mMap (PArg.v d :: ·) pr
def mArgS (i : Nat) (pr : M (List PArg)) : M (List PArg) := fun ε => match ε[i]? with
  | some (some _) => mMap (PArg.s i :: ·) pr ε
  | _ => none
def mArgN (pa : M PV) (pr : M (List PArg)) : M (List PArg) := fun ε => match pa ε with
  | none => none
  | some (.ok v, ε') => mMap (PArg.n v :: ·) pr ε'
  | some (.ex e, ε') => some (.ex e, ε')
theorem wL_nil {Q : List D → SD → Prop} (h : wL XD (mPure []) ε S Q) : Q [] S := by
  obtain ⟨εp, fp, o, εp', st, e, k⟩ := h
  cases e
  exact k S fp [] [] st.own ⟨rfl, rfl⟩ (by rw [List.append_nil]; exact st.nd) (by rw [List.append_nil]; exact Nx.refl)
theorem map_inv {p : M α} {f : α → β} {εp εp' : PEnv} {o : Out β} (h : mMap f p εp = some (o, εp')) : (∃ a, o = .ok (f a) ∧ p εp = some (.ok a, εp')) ∨ ∃ e, o = .ex e ∧ p εp = some (.ex e, εp') := by
  unfold mMap mBind at h
  split at h
  · cases h
  · rename_i a ε1 e
    unfold mPure at h
    cases h
    exact .inl ⟨_, rfl, e⟩
  · cases h
    exact .inr ⟨_, rfl, by assumption⟩
theorem wL_map {p : M (List PArg)} {a : PArg} {x : D} {Q : List D → SD → Prop} (hr : ∀ S' as ds fq, ArgR S' ε as ds fq → ArgR S' ε (a :: as) (x :: ds) fq) (h : wL XD (mMap (a :: ·) p) ε S Q) : wL XD p ε S fun ds S1 => Q (x :: ds) S1 := by
  obtain ⟨εp, fp, o, εp', st, e, k⟩ := h
  rcases map_inv e with ⟨as, rfl, e1⟩ | ⟨y, rfl, e1⟩
  · exact ⟨εp, fp, .ok as, εp', st, e1, fun S' fp' fq ds own ar nd n => k S' fp' fq (x :: ds) own (hr S' as ds fq ar) nd n⟩
  · exact ⟨εp, fp, .ex y, εp', st, e1, k⟩
theorem wL_argV {pa : M D} {pr : M (List PArg)} {Q : List D → SD → Prop} (h : wL XD (mArgV pa pr) ε S Q) : dCons (wM XD pa) (wL XD pr) ε S Q :=
  wM_imp (wL_bind h) fun d S1 h => wL_map (a := .v d) (fun S' as ds fq ar => ⟨ds, rfl, ar⟩) h
theorem wL_argS {i : Nat} {pr : M (List PArg)} {Q : List D → SD → Prop} (h : wL XD (mArgS i pr) ε S Q) : dCons (dVar i) (wL XD pr) ε S Q := by
  obtain ⟨εp, fp, o, εp', st, e, k⟩ := h
  unfold mArgS at e
  split at e
  · rename_i p hp
    obtain ⟨d, fq, e1, _⟩ := st.slot hp
    exact ⟨d, e1, wL_map (a := .s i) (fun S' as ds fq ar => ⟨d, ds, rfl, e1, ar⟩) ⟨εp, fp, o, εp', st, e, k⟩⟩
  · cases e
theorem wL_argN {pa : M PV} {pr : M (List PArg)} {Q : List D → SD → Prop} (h : wL XD (mArgN pa pr) ε S Q) : dCons (wO XD pa) (wL XD pr) ε S Q := by
  obtain ⟨εp, fp, o, εp', st, e, k⟩ := h
  unfold mArgN at e
  split at e
  · cases e
  · rename_i v ε1 e1
    refine ⟨εp, fp, .ok v, ε1, st, e1, fun S1 fp1 fq1 d own1 o1 nd1 n1 => ?_⟩
    have dom1 := o1.dom
    rcases map_inv e with ⟨as, rfl, e2⟩ | ⟨y, rfl, e2⟩
    · refine ⟨ε1, fp1, .ok as, εp', ⟨own1, (app_nodup nd1).1⟩, e2, fun S2 fp2 fq2 ds own2 ar nd2 n2 => ?_⟩
      obtain ⟨k1, k2, k3⟩ := Nx.rest nd1 n2 dom1 nd2
      have pm : (fp2 ++ fq2 ++ fq1).Perm (fp2 ++ (fq1 ++ fq2)) := by
        rw [List.append_assoc]
        exact List.Perm.append_left fp2 List.perm_append_comm
      exact k S2 fp2 (fq1 ++ fq2) (d :: ds) own2 ⟨d, ds, fq1, fq2, rfl, rfl, o1.frame v k1, ar⟩ (perm_nodup pm k2) ((n1.trans k3).perm (fun _ => Iff.rfl) fun q hq => pm.symm.mem_iff.mp hq)
    · refine ⟨ε1, fp1, .ex y, εp', ⟨own1, (app_nodup nd1).1⟩, e2, fun S2 fp2 st2 n2 => ?_⟩
      obtain ⟨k1, k2, k3⟩ := Nx.rest nd1 n2 dom1 st2.nd
      exact k S2 fp2 st2 ((n1.trans k3).perm (fun _ => Iff.rfl) fun q hq => List.mem_append_left _ hq)
  · rename_i x ε1 e1
    cases e
    exact ⟨εp, fp, .ex x, _, st, e1, k⟩

def takeA : List PArg → PEnv → Option (List PV × PEnv)
  | [], ε => some ([], ε)
  | .v d :: r, ε => match takeA r ε with
    | some (ps, ε') => some (.val d :: ps, ε')
    | none => none
  | .s i :: r, ε => match ε[i]? with
    | some (some p) => match takeA r (ε.set i none) with
      | some (ps, ε') => some (p :: ps, ε')
      | none => none
    | _ => none
  | .n p :: r, ε => match takeA r ε with
    | some (ps, ε') => some (p :: ps, ε')
    | none => none
def giveA : List PArg → List PV → PEnv → Option PEnv
  | [], [], ε => some ε
  | .v _ :: r, _ :: ps, ε => giveA r ps ε
  | .s i :: r, p :: ps, ε => if i < ε.length then giveA r ps (ε.set i (some p)) else none
  | .n _ :: r, _ :: ps, ε => giveA r ps ε
  | _, _, _ => none
abbrev FM := List PV → Option (Out PV × List PV)
def mCall (m : FM) (pl : M (List PArg)) : M PV := fun ε => match pl ε with
  | none => none
  | some (.ex e, ε1) => some (.ex e, ε1)
  | some (.ok as, ε1) => match takeA as ε1 with
    | none => none
    | some (ps, ε2) => match m ps with
      | none => none
      | some (o, ps') => match giveA as ps' ε2 with
        | none => none
        | some ε3 => some (o, ε3)
theorem take_ok : ∀ {as : List PArg} {ε1 ε2 : PEnv} {ps : List PV} {ds : List D} {fp fq : List Addr}, OwnE S ε1 ε fp → ArgR S ε as ds fq → takeA as ε1 = some (ps, ε2) →
    ∃ f fr, OwnL S ps ds f ∧ OwnE S ε2 ε fr ∧ (fp ++ fq).Perm (f ++ fr)
  | [], ε1, ε2, ps, ds, fp, fq, own, ar, e => by
    obtain ⟨rfl, rfl⟩ := ar
    cases e
    exact ⟨[], fp, ownL_nil, own, by simp⟩
  | .v d :: r, ε1, ε2, ps, ds, fp, fq, own, ar, e => by
    obtain ⟨rd, rfl, ar⟩ := ar
    unfold takeA at e
    split at e
    · rename_i ps' ε' e1
      cases e
      obtain ⟨f, fr, h1, h2, h3⟩ := take_ok own ar e1
      exact ⟨[] ++ f, fr, ownL_cons own_val h1, h2, h3⟩
    · cases e
  | .s i :: r, ε1, ε2, ps, ds, fp, fq, own, ar, e => by
    obtain ⟨d, rd, rfl, hd, ar⟩ := ar
    unfold takeA at e
    split at e
    · rename_i p hp
      split at e
      · rename_i ps' ε' e1
        cases e
        obtain ⟨d', f1, fr1, e2, o1, own1, pm1⟩ := own.take hp
        rw [hd] at e2
        cases e2
        obtain ⟨f, fr, h1, h2, h3⟩ := take_ok own1 ar e1
        refine ⟨f1 ++ f, fr, ownL_cons o1 h1, h2, ?_⟩
        refine (List.Perm.append_right fq pm1).trans ?_
        rw [List.append_assoc, List.append_assoc]
        exact List.Perm.append_left f1 h3
      · cases e
    · cases e
  | .n p :: r, ε1, ε2, ps, ds, fp, fq, own, ar, e => by
    obtain ⟨d, rd, f1, f2, rfl, rfl, o1, ar⟩ := ar
    unfold takeA at e
    split at e
    · rename_i ps' ε' e1
      cases e
      obtain ⟨f, fr, h1, h2, h3⟩ := take_ok own ar e1
      refine ⟨f1 ++ f, fr, ownL_cons o1 h1, h2, ?_⟩
      refine (perm_mid (g1 := f1) (g2 := f2) (List.Perm.refl _)).trans ?_
      rw [List.append_assoc]
      exact List.Perm.append_left f1 h3
    · cases e
theorem give_ok {S' : SD} : ∀ {as : List PArg} {ε2 ε3 : PEnv} {ps : List PV} {ds : List D} {f fr fq : List Addr}, OwnE S' ε2 ε fr → OwnL S' ps ds f → ArgR S ε as ds fq → (f ++ fr).Nodup → giveA as ps ε2 = some ε3 →
    ∃ fp, OwnE S' ε3 ε fp ∧ fp.Nodup ∧ ∀ a ∈ fp, a ∈ f ++ fr
  | [], ε2, ε3, ps, ds, f, fr, fq, own, ol, ar, nd, e => by
    cases ps with
    | nil => cases e; exact ⟨fr, own, (app_nodup nd).2.1, fun a ha => List.mem_append_right _ ha⟩
    | cons p ps => cases e
  | .v d :: r, ε2, ε3, ps, ds, f, fr, fq, own, ol, ar, nd, e => by
    cases ps with
    | nil => cases e
    | cons p ps =>
      obtain ⟨rd, rfl, ar⟩ := ar
      obtain ⟨d', r', f1, f2, e1, rfl, h1, h2⟩ := ol.cons
      cases e1
      rw [List.append_assoc] at nd
      obtain ⟨fp, a1, a2, a3⟩ := give_ok own h2 ar (app_nodup nd).2.1 e
      exact ⟨fp, a1, a2, fun a ha => by rw [List.append_assoc]; exact List.mem_append_right _ (a3 a ha)⟩
  | .n q :: r, ε2, ε3, ps, ds, f, fr, fq, own, ol, ar, nd, e => by
    cases ps with
    | nil => cases e
    | cons p ps =>
      obtain ⟨d0, rd, g1, g2, rfl, rfl, _, ar⟩ := ar
      obtain ⟨d', r', f1, f2, e1, rfl, h1, h2⟩ := ol.cons
      cases e1
      rw [List.append_assoc] at nd
      obtain ⟨fp, a1, a2, a3⟩ := give_ok own h2 ar (app_nodup nd).2.1 e
      exact ⟨fp, a1, a2, fun a ha => by rw [List.append_assoc]; exact List.mem_append_right _ (a3 a ha)⟩
  | .s i :: r, ε2, ε3, ps, ds, f, fr, fq, own, ol, ar, nd, e => by
    cases ps with
    | nil => cases e
    | cons p ps =>
      obtain ⟨d, rd, rfl, hd, ar⟩ := ar
      obtain ⟨d', r', f1, f2, e1, rfl, h1, h2⟩ := ol.cons
      cases e1
      unfold giveA at e
      split at e
      · rename_i hi
        obtain ⟨fr1, own1, sb⟩ := own.drop i
        obtain ⟨fr2, own2, pm⟩ := own1.give (i := i) (by rw [List.getElem?_set_self hi]) hd h1
        rw [List.set_set] at own2
        have nd2 : (f2 ++ fr2).Nodup := by
          have x : (f2 ++ (f1 ++ fr1)).Nodup := by
            have y : (f1 ++ f2 ++ fr1).Nodup := by
              refine List.Nodup.sublist ?_ nd
              exact List.Sublist.append (List.Sublist.refl _) sb
            refine perm_nodup ?_ y
            rw [← List.append_assoc]
            exact List.Perm.append_right fr1 List.perm_append_comm
          exact perm_nodup (List.Perm.append_left f2 pm.symm) x
        obtain ⟨fp, a1, a2, a3⟩ := give_ok own2 h2 ar nd2 e
        refine ⟨fp, a1, a2, fun a ha => ?_⟩
        rcases List.mem_append.mp (a3 a ha) with q | q
        · exact List.mem_append_left _ (List.mem_append_right _ q)
        · rcases List.mem_append.mp (pm.mem_iff.mp q) with q | q
          · exact List.mem_append_left _ (List.mem_append_left _ q)
          · exact List.mem_append_right _ (sb.subset q)
      · cases e
/-- a def's promise by a function -/
def spF (m : FM) : DSp := fun ds S Q => ∃ ps fp v ps', OwnL S ps ds fp ∧ fp.Nodup ∧ m ps = some (.ok v, ps') ∧
  ∀ S' fp' fq d, OwnL S' ps' ds fp' → Own S' v d fq → (fp' ++ fq).Nodup → Nx S fp S' (fp' ++ fq) → Q d S'
def spP (m : List D → Option D) : DSp := fun ds S Q => ∃ d, m ds = some d ∧ Q d S
/-- nothing is raised -/
def NoX : XT := fun _ _ _ _ _ => False
theorem wO_call {m : FM} {pl : M (List PArg)} {Q : DK} (h : wO NoX (mCall m pl) ε S Q) (hm : ∀ ps o ps', m ps = some (o, ps') → ∃ v, o = .ok v) : dCall (spF m) (wL NoX pl) ε S Q := by
  obtain ⟨εp, fp, o, εp', st, e, k⟩ := h
  unfold mCall at e
  split at e
  · cases e
  · rename_i x ε1 e1
    cases e
    exact ⟨εp, fp, .ex x, _, st, e1, k⟩
  · rename_i as ε1 e1
    split at e
    · cases e
    · rename_i ps ε2 e2
      split at e
      · cases e
      · rename_i o' ps' e3
        split at e
        · cases e
        · rename_i ε3 e4
          cases e
          obtain ⟨v, rfl⟩ := hm _ _ _ e3
          refine ⟨εp, fp, .ok as, ε1, st, e1, fun S1 fp1 fq1 ds own1 ar nd1 n1 => ?_⟩
          obtain ⟨f, fr, ol, own2, pm⟩ := take_ok own1 ar e2
          have nd2 := perm_nodup pm nd1
          refine ⟨ps, f, v, ps', ol, (app_nodup nd2).1, e3, fun S2 f' fq d ol' ov nd3 n3 => ?_⟩
          obtain ⟨k1, k2, k3⟩ := Nx.rest nd2 n3 own2.dom nd3
          have k2' : (fq ++ (f' ++ fr)).Nodup := by
            refine perm_nodup ?_ k2
            rw [← List.append_assoc]
            exact List.Perm.append_right fr List.perm_append_comm
          obtain ⟨nq, n12, dis⟩ := app_nodup k2'
          obtain ⟨fp3, own3, nd4, sub⟩ := give_ok (own2.frame k1) ol' ar n12 e4
          refine k S2 fp3 fq d own3 ov (nodup_app nd4 nq fun a ha hb => dis a hb (sub a ha)) ?_
          refine n1.trans (k3.perm (fun q => pm.symm.mem_iff) fun q hq => ?_)
          rcases List.mem_append.mp hq with hq | hq
          · rcases List.mem_append.mp (sub q hq) with z | z
            · exact List.mem_append_left _ (List.mem_append_left _ z)
            · exact List.mem_append_right _ z
          · exact List.mem_append_left _ (List.mem_append_right _ hq)
def toV : PV → Option D
  | .val d => some d
  | _ => none
def mV (p : M PV) : M D := fun ε => match p ε with
  | none => none
  | some (.ok (.val d), ε') => some (.ok d, ε')
  | some (.ok _, _) => none
  | some (.ex e, ε') => some (.ex e, ε')
theorem wM_V {p : M PV} {Q : DK} (h : wM XD (mV p) ε S Q) : wO XD p ε S Q := by
  obtain ⟨εp, fp, o, εp', st, e, k⟩ := h
  unfold mV at e
  split at e
  · cases e
  · rename_i d ε1 e1
    cases e
    refine ⟨εp, fp, .ok (.val d), _, st, e1, fun S' fp' fq d' own o nd n => ?_⟩
    obtain ⟨rfl, rfl⟩ := o.val
    rw [List.append_nil] at nd n
    exact k S' fp' ⟨own, nd⟩ n
  · cases e
  · rename_i x ε1 e1
    cases e
    exact ⟨εp, fp, .ex x, _, st, e1, k⟩
end
section
variable {X : Cx} {XD : XT} {e : Expr} {es : List Expr} {pa : M D} {pas : M (List D)} {pf : M (List D)} {po : M PV} {pl : M (List PArg)} {pos p : Pos}
theorem fo_val (h : FE X XD e pa) : FO X XD e (mMap .val pa) := DE_imp h fun _ _ _ => wO_val
theorem fo_new (h : FF X XD e pf) : FO X XD e (mMap .lst pf) := DE_imp (de_new h) fun _ _ _ => wO_lst
theorem fo_dnew : FO X XD (.Dict [] [] pos) (mPure (.dic [] [])) := DE_imp de_dnew fun _ _ _ => wO_dnew
theorem fe_V (h : FO X XD e po) : FE X XD e (mV po) := DE_imp h fun _ _ _ => wM_V
theorem fl_nil : FLs X XD [] (mPure []) := DA_imp da_nil fun _ _ _ => wL_nil
theorem fl_v (ha : FE X XD e pa) (hr : FLs X XD es pl) (hs : starEach (e :: es) X.env = (false, eval e X.env) :: starEach es X.env := by rfl) : FLs X XD (e :: es) (mArgV pa pl) := DA_imp (da_cons ha hr hs) fun _ _ _ => wL_argV
theorem fl_s {i : Nat} (ha : DE X e (dVar i)) (hr : FLs X XD es pl) (hs : starEach (e :: es) X.env = (false, eval e X.env) :: starEach es X.env := by rfl) : FLs X XD (e :: es) (mArgS i pl) := DA_imp (da_cons ha hr hs) fun _ _ _ => wL_argS
theorem fl_n (ha : FO X XD e po) (hr : FLs X XD es pl) (hs : starEach (e :: es) X.env = (false, eval e X.env) :: starEach es X.env := by rfl) : FLs X XD (e :: es) (mArgN po pl) := DA_imp (da_cons ha hr hs) fun _ _ _ => wL_argN
variable {k : Nat} {ps : List Str} {x : Str} {m : FM} {mp : List D → Option D}
/-- a def that keeps to a function; it raises nothing -/
structure FC (P : Program) (w : World) (K : PySem.W.Frag) (mg : Str → Option Value) (base : Heap) (k : Nat) (x : Str) (ps : List Str) (m : FM) : Prop where
  dc : DC P w K mg base k x ps (spF m)
  ok : ∀ ps o ps', m ps = some (o, ps') → ∃ v, o = .ok v
theorem fo_call (C : FC X.prog X.w X.K X.mg X.base k x ps m) (hr : RoomG k X.A) (hg : Gl X x) (ha : FLs X NoX (e :: es) pl)
    (hdb : (x == ("__debug__" : Str)) = false := by decide) (he : starEach (e :: es) X.env = (false, eval e X.env) :: starEach es X.env := by rfl) (hpl : (backTo pos (starEach es X.env)).any (·.1) = false := by rfl) :
    FO X NoX (.Call (.Name x p) (e :: es) [] pos) (mCall m pl) := by
  obtain ⟨f, fd, F, hm, hk, hb⟩ := C.dc.ex
  exact DE_imp (de_call F hr hg hm hk hb ha hdb he hpl) fun _ _ _ h => wO_call h C.ok
theorem fe_call (C : FC X.prog X.w X.K X.mg X.base k x ps m) (hr : RoomG k X.A) (hg : Gl X x) (ha : FLs X NoX (e :: es) pl)
    (hdb : (x == ("__debug__" : Str)) = false := by decide) (he : starEach (e :: es) X.env = (false, eval e X.env) :: starEach es X.env := by rfl) (hpl : (backTo pos (starEach es X.env)).any (·.1) = false := by rfl) :
    FE X NoX (.Call (.Name x p) (e :: es) [] pos) (mV (mCall m pl)) := fe_V (fo_call C hr hg ha hdb he hpl)
def mCallP (mp : List D → Option D) (pas : M (List D)) : M D := mBind pas fun ds => mLift (mp ds)
theorem fe_callP (C : DC X.prog X.w X.K X.mg X.base k x ps (spP mp)) (hr : RoomG k X.A) (hg : Gl X x) (ha : FA X XD (e :: es) pas)
    (hdb : (x == ("__debug__" : Str)) = false := by decide) (he : starEach (e :: es) X.env = (false, eval e X.env) :: starEach es X.env := by rfl) (hpl : (backTo pos (starEach es X.env)).any (·.1) = false := by rfl) :
    FE X XD (.Call (.Name x p) (e :: es) [] pos) (mCallP mp pas) := by
  obtain ⟨f, fd, F, hm, hk, hb⟩ := C.ex
  exact DE_imp (de_call F hr hg hm hk hb ha hdb he hpl) fun _ _ _ h => wM_imp (wM_bind h) fun _ _ h => wM_lift h
end
end FL

namespace FL
open PySem PySem.Spec PyProof.Rows L2 DL
variable [Amb] [Cbs]

inductive Res where
  | nx
  | bk
  | ct
  | rt (v : PV)
def Agree (ms : List Nat) (ε ε' : ED) : Prop := ∀ i, i ∉ ms → ε'[i]? = ε[i]?
theorem Agree.refl {ms : List Nat} {ε : ED} : Agree ms ε ε := fun _ _ => rfl
theorem Agree.trans {ms : List Nat} {ε ε1 ε2 : ED} (a : Agree ms ε ε1) (b : Agree ms ε1 ε2) : Agree ms ε ε2 := fun i h => (b i h).trans (a i h)
theorem Agree.mono {ms ms' : List Nat} {ε ε1 : ED} (a : Agree ms ε ε1) (h : ∀ i ∈ ms, i ∈ ms') : Agree ms' ε ε1 := fun i hi => a i fun z => hi (h i z)
theorem Agree.left {ms ms' : List Nat} {ε ε1 : ED} (a : Agree ms ε ε1) : Agree (ms ++ ms') ε ε1 := a.mono fun _ h => List.mem_append_left _ h
theorem Agree.right {ms ms' : List Nat} {ε ε1 : ED} (a : Agree ms' ε ε1) : Agree (ms ++ ms') ε ε1 := a.mono fun _ h => List.mem_append_right _ h
theorem agree_set {i : Nat} {ε : ED} {x : Option D} : Agree [i] ε (ε.set i x) := fun j hj => by rw [List.getElem?_set_ne (by simpa [eq_comm] using hj)]
/-- what must follow a block -/
def Fin (XD : XT) (D : DEnds) (S : SD) (fp : List Addr) (εp' : PEnv) (ε' : ED) (S' : SD) (fp' : List Addr) : Out Res → Prop
  | .ok .nx => fp'.Nodup → Nx S fp S' fp' → D.nx ε' S'
  | .ok .bk => fp'.Nodup → Nx S fp S' fp' → D.bk ε' S'
  | .ok .ct => fp'.Nodup → Nx S fp S' fp' → D.ct ε' S'
  | .ok (.rt v) => ∀ fq d, Own S' v d fq → (fp' ++ fq).Nodup → Nx S fp S' (fp' ++ fq) → D.rt d S'
  | .ex e => fp'.Nodup → Nx S fp S' fp' → XD e εp' ε' S' fp'
def wS (XD : XT) (ms : List Nat) (p : M Res) : DTS := fun D ε S => ∃ εp fp o εp', St S εp ε fp ∧ p εp = some (o, εp') ∧
  ∀ S' fp' ε', OwnE S' εp' ε' fp' → Agree ms ε ε' → Fin XD D S fp εp' ε' S' fp' o
abbrev FS (X : Cx) (XD : XT) (st : Stmt) (ms : List Nat) (p : M Res) : Prop := DS X st (wS XD ms p)
abbrev FSs (X : Cx) (XD : XT) (st : List Stmt) (ms : List Nat) (p : M Res) : Prop := DSs X st (wS XD ms p)
theorem Fin.from {XD : XT} {D : DEnds} {S S1 : SD} {fp fp1 : List Addr} {εp' : PEnv} {ε' : ED} {S' : SD} {fp' : List Addr} {o : Out Res} (n : Nx S fp S1 fp1) (h : Fin XD D S fp εp' ε' S' fp' o) : Fin XD D S1 fp1 εp' ε' S' fp' o := by
  cases o with
  | ex e => exact fun nd x => h nd (n.trans x)
  | ok r => cases r with
    | nx => exact fun nd x => h nd (n.trans x)
    | bk => exact fun nd x => h nd (n.trans x)
    | ct => exact fun nd x => h nd (n.trans x)
    | rt v => exact fun fq d ov nd x => h fq d ov nd (n.trans x)

section
variable {XD : XT} {α β : Type} {Dn : DEnds} {ε : ED} {S : SD}
theorem wS_bind {p : M α} {f : α → M Res} {ms : List Nat} (h : wS XD ms (mBind p f) Dn ε S) : wM XD p ε S fun a S1 => wS XD ms (f a) Dn ε S1 := by
  obtain ⟨εp, fp, o, εp', st, e, k⟩ := h
  unfold mBind at e
  split at e
  · cases e
  · rename_i a ε1 e1
    exact ⟨εp, fp, .ok a, ε1, st, e1, fun S1 fp1 st1 n1 => ⟨ε1, fp1, o, εp', st1, e, fun S2 fp2 ε2 own ag => (k S2 fp2 ε2 own ag).from n1⟩⟩
  · rename_i x ε1 e1
    cases e
    exact ⟨εp, fp, .ex x, _, st, e1, fun S1 fp1 st1 n1 => k S1 fp1 ε st1.own Agree.refl st1.nd n1⟩
theorem wS_pure {r : Res} {ms : List Nat} (h : wS XD ms (mPure r) Dn ε S) : ∃ εp fp, St S εp ε fp ∧ Fin XD Dn S fp εp ε S fp (.ok r) := by
  obtain ⟨εp, fp, o, εp', st, e, k⟩ := h
  cases e
  exact ⟨εp, fp, st, k S fp ε st.own Agree.refl⟩
/-- one statement behind the other -/
def mSeq (p q : M Res) : M Res := mBind p fun r => match r with
  | .nx => q
  | r => mPure r
theorem wS_seq {p q : M Res} {ms ms' : List Nat} (h : wS XD (ms ++ ms') (mSeq p q) Dn ε S) : dSeq (wS XD ms p) (wS XD ms' q) Dn ε S := by
  obtain ⟨εp, fp, o, εp', st, e, k⟩ := h
  unfold mSeq mBind at e
  split at e
  · cases e
  · rename_i r ε1 e1
    cases r with
    | nx =>
      refine ⟨εp, fp, .ok .nx, ε1, st, e1, fun S1 fp1 ε' own1 ag1 nd1 n1 => ?_⟩
      exact ⟨ε1, fp1, o, εp', ⟨own1, nd1⟩, e, fun S2 fp2 ε2 own2 ag2 => (k S2 fp2 ε2 own2 (ag1.left.trans ag2.right)).from n1⟩
    | bk => cases e; exact ⟨εp, fp, .ok .bk, _, st, e1, fun S1 fp1 ε' own1 ag1 => k S1 fp1 ε' own1 ag1.left⟩
    | ct => cases e; exact ⟨εp, fp, .ok .ct, _, st, e1, fun S1 fp1 ε' own1 ag1 => k S1 fp1 ε' own1 ag1.left⟩
    | rt v => cases e; exact ⟨εp, fp, .ok (.rt v), _, st, e1, fun S1 fp1 ε' own1 ag1 => k S1 fp1 ε' own1 ag1.left⟩
  · rename_i x ε1 e1
    cases e
    exact ⟨εp, fp, .ex x, _, st, e1, fun S1 fp1 ε' own1 ag1 => k S1 fp1 ε' own1 ag1.left⟩
theorem wS_mono {p : M Res} {ms ms' : List Nat} (hm : ∀ i ∈ ms, i ∈ ms') (h : wS XD ms' p Dn ε S) : wS XD ms p Dn ε S := by
  obtain ⟨εp, fp, o, εp', st, e, k⟩ := h
  exact ⟨εp, fp, o, εp', st, e, fun S1 fp1 ε' own1 ag1 => k S1 fp1 ε' own1 (ag1.mono hm)⟩
/-- a slot is stored to -/
def mPut (i : Nat) (v : PV) : M Res := fun ε => if i < ε.length then some (.ok .nx, ε.set i (some v)) else none
def mSet (i : Nat) (p : M D) : M Res := mBind p fun d => mPut i (.val d)
theorem wS_set {i : Nat} {p : M D} (h : wS XD [i] (mSet i p) Dn ε S) : dSet i (wM XD p) Dn ε S := wM_imp (wS_bind h) fun d S1 h => by
  obtain ⟨εp, fp, o, εp', st, e, k⟩ := h
  unfold mPut at e
  split at e
  · rename_i hi
    cases e
    obtain ⟨fp', st', sub⟩ := St.assign (d := d) st.own hi own_val (by rw [List.append_nil]; exact st.nd)
    exact k S1 fp' _ st'.own agree_set st'.nd (Nx.sub fun a ha => (sub a ha).elim id fun z => nomatch z)
  · cases e
def mSetO (i : Nat) (p : M PV) : M Res := fun ε => match p ε with
  | none => none
  | some (.ok v, ε') => mPut i v ε'
  | some (.ex e, ε') => some (.ex e, ε')
theorem wS_setO {i : Nat} {p : M PV} (h : wS XD [i] (mSetO i p) Dn ε S) : dSet i (wO XD p) Dn ε S := by
  obtain ⟨εp, fp, o, εp', st, e, k⟩ := h
  unfold mSetO at e
  split at e
  · cases e
  · rename_i v ε1 e1
    refine ⟨εp, fp, .ok v, ε1, st, e1, fun S1 fp1 fq d own1 ov nd n => ?_⟩
    unfold mPut at e
    split at e
    · rename_i hi
      cases e
      obtain ⟨fp', st', sub⟩ := St.assign (d := d) own1 hi ov nd
      exact k S1 fp' _ st'.own agree_set st'.nd (n.trans (Nx.sub fun a ha => List.mem_append.mpr (sub a ha)))
    · cases e
  · rename_i x ε1 e1
    cases e
    exact ⟨εp, fp, .ex x, _, st, e1, fun S1 fp1 st1 n1 => k S1 fp1 ε st1.own Agree.refl st1.nd n1⟩
def mRet (p : M D) : M Res := mMap (fun d => .rt (.val d)) p
theorem wS_ret {p : M D} {ms : List Nat} (h : wS XD ms (mRet p) Dn ε S) : dRet (wM XD p) Dn ε S := wM_imp (wS_bind h) fun d S1 h => by
  obtain ⟨εp, fp, st, k⟩ := wS_pure h
  exact k [] d own_val (by rw [List.append_nil]; exact st.nd) (by rw [List.append_nil]; exact Nx.refl)
def mRetO (p : M PV) : M Res := fun ε => match p ε with
  | none => none
  | some (.ok v, ε') => some (.ok (.rt v), ε')
  | some (.ex e, ε') => some (.ex e, ε')
theorem wS_retO {p : M PV} {ms : List Nat} (h : wS XD ms (mRetO p) Dn ε S) : dRet (wO XD p) Dn ε S := by
  obtain ⟨εp, fp, o, εp', st, e, k⟩ := h
  unfold mRetO at e
  split at e
  · cases e
  · rename_i v ε1 e1
    cases e
    exact ⟨εp, fp, .ok v, _, st, e1, fun S1 fp1 fq d own1 ov nd n => k S1 fp1 ε own1 Agree.refl fq d ov nd n⟩
  · rename_i x ε1 e1
    cases e
    exact ⟨εp, fp, .ex x, _, st, e1, fun S1 fp1 st1 n1 => k S1 fp1 ε st1.own Agree.refl st1.nd n1⟩
/-- an own list or dict is handed back -/
def mRetV (i : Nat) : M Res := fun ε => match ε[i]? with
  | some (some p) => some (.ok (.rt p), ε.set i none)
  | _ => none
theorem wS_retV {i : Nat} {ms : List Nat} (h : wS XD ms (mRetV i) Dn ε S) : dRet (dVar i) Dn ε S := by
  obtain ⟨εp, fp, o, εp', st, e, k⟩ := h
  unfold mRetV at e
  split at e
  · rename_i p hp
    cases e
    obtain ⟨d, fq, fr, e1, ov, own, pm⟩ := st.own.take hp
    have pm' : fp.Perm (fr ++ fq) := pm.trans List.perm_append_comm
    exact ⟨d, e1, k S fr ε own Agree.refl fq d ov (perm_nodup pm' st.nd) (Nx.sub fun a ha => pm'.symm.mem_iff.mp ha)⟩
  · cases e
def mDrop (p : M D) : M Res := mMap (fun _ => .nx) p
theorem wS_drop {p : M D} {ms : List Nat} (h : wS XD ms (mDrop p) Dn ε S) : dDrop (wM XD p) Dn ε S := wM_imp (wS_bind h) fun d S1 h => by
  obtain ⟨εp, fp, st, k⟩ := wS_pure h
  exact k st.nd Nx.refl
theorem wS_if {t : M Bool} {p q : M Res} {ms ms' : List Nat} (h : wS XD (ms ++ ms') (mIf t p q) Dn ε S) : dIfS (wM XD t) (wS XD ms p) (wS XD ms' q) Dn ε S := wM_imp (wS_bind h) fun k S1 h => by
  cases k with
  | true => exact wS_mono (fun _ h => List.mem_append_left _ h) h
  | false => exact wS_mono (fun _ h => List.mem_append_right _ h) h

abbrev GM := D → PEnv → Option PEnv
def wG (g : GM) (vs : List Nat) : DTG := fun d ε S Q => ∃ εp fp εp', St S εp ε fp ∧ g d εp = some εp' ∧
  ∀ ε' fp', St S εp' ε' fp' → (∀ a ∈ fp', a ∈ fp) → Agree vs ε ε' → ε'.length = ε.length → Q ε' S
abbrev GsM := List D → PEnv → Option PEnv
def wGs (g : GsM) (vs : List Nat) : DTGs := fun ds ε S Q => ∃ εp fp εp', St S εp ε fp ∧ g ds εp = some εp' ∧
  ∀ ε' fp', St S εp' ε' fp' → (∀ a ∈ fp', a ∈ fp) → Agree vs ε ε' → ε'.length = ε.length → Q ε' S
def gN (i : Nat) : GM := fun d ε => if i < ε.length then some (ε.set i (some (.val d))) else none
def gNil : GsM := fun ds ε => match ds with
  | [] => some ε
  | _ => none
def gCons (g : GM) (h : GsM) : GsM := fun ds ε => match ds with
  | d :: r => match g d ε with
    | some ε' => h r ε'
    | none => none
  | [] => none
def gTup (n : Nat) (h : GsM) : GM := fun d ε => match d with
  | .tup ds => if ds.length = n then h ds ε else none
  | _ => none
theorem wG_N {i : Nat} {d : D} {Q : ED → SD → Prop} (h : wG (gN i) [i] d ε S Q) : dgN i d ε S Q := by
  obtain ⟨εp, fp, εp', st, e, k⟩ := h
  unfold gN at e
  split at e
  · rename_i hi
    cases e
    obtain ⟨fp', st', sub⟩ := St.assign (d := d) st.own hi own_val (by rw [List.append_nil]; exact st.nd)
    exact k _ fp' st' (fun a ha => (sub a ha).elim id fun z => nomatch z) agree_set (by rw [List.length_set])
  · cases e
theorem wG_Nil {ds : List D} {Q : ED → SD → Prop} (h : wGs gNil [] ds ε S Q) : dgNil ds ε S Q := by
  obtain ⟨εp, fp, εp', st, e, k⟩ := h
  unfold gNil at e
  split at e
  · cases e
    exact ⟨rfl, k ε fp st (fun _ h => h) Agree.refl rfl⟩
  · cases e
theorem wG_Cons {g : GM} {u : GsM} {vs ws : List Nat} {ds : List D} {Q : ED → SD → Prop} (h : wGs (gCons g u) (vs ++ ws) ds ε S Q) : dgCons (wG g vs) (wGs u ws) ds ε S Q := by
  obtain ⟨εp, fp, εp', st, e, k⟩ := h
  unfold gCons at e
  split at e
  · rename_i d r
    split at e
    · rename_i ε1 e1
      refine ⟨d, r, rfl, εp, fp, ε1, st, e1, fun ε2 fp2 st2 sub2 ag2 l2 => ⟨ε1, fp2, εp', st2, e, fun ε3 fp3 st3 sub3 ag3 l3 => ?_⟩⟩
      exact k ε3 fp3 st3 (fun a ha => sub2 a (sub3 a ha)) (ag2.left.trans ag3.right) (l3.trans l2)
    · cases e
  · cases e
theorem wG_Tup {n : Nat} {u : GsM} {vs : List Nat} {d : D} {Q : ED → SD → Prop} (h : wG (gTup n u) vs d ε S Q) : dgTup n (wGs u vs) d ε S Q := by
  obtain ⟨εp, fp, εp', st, e, k⟩ := h
  unfold gTup at e
  split at e
  · rename_i ds
    split at e
    · exact ⟨ds, rfl, by assumption, εp, fp, εp', st, e, k⟩
    · cases e
  · cases e
def mAsg (p : M D) (g : GM) : M Res := mBind p fun d => fun ε => match g d ε with
  | some ε' => some (.ok .nx, ε')
  | none => none
theorem wS_asg {p : M D} {g : GM} {vs : List Nat} (h : wS XD vs (mAsg p g) Dn ε S) : dAsg (wM XD p) (wG g vs) Dn ε S := wM_imp (wS_bind h) fun d S1 h => by
  obtain ⟨εp, fp, o, εp', st, e, k⟩ := h
  dsimp only at e
  split at e
  · rename_i ε1 e1
    cases e
    exact ⟨εp, fp, _, st, e1, fun ε' fp' st' sub ag _ => k S1 fp' ε' st'.own ag st'.nd (Nx.sub sub)⟩
  · cases e

def mLoop (c : PEnv → Bool) (g : GM) (b : M Res) : List DL.D → M Res
  | [] => fun ε => if c ε = true then some (.ok .nx, ε) else none
  | x :: xs => fun ε => if c ε = true then match g x ε with
    | none => none
    | some ε1 => match b ε1 with
      | none => none
      | some (.ok .nx, ε2) => mLoop c g b xs ε2
      | some (.ok .ct, ε2) => mLoop c g b xs ε2
      | some (.ok .bk, ε2) => some (.ok .nx, ε2)
      | some (.ok (.rt v), ε2) => some (.ok (.rt v), ε2)
      | some (.ex e, ε2) => some (.ex e, ε2)
    else none
/-- what is walked: the items; what is asked of the slots at each turn, so that they stay -/
def wI (XD : XT) (ms : List Nat) (p : M (List DL.D)) (c : List DL.D → PEnv → Bool) : DTI := fun ε S R => ∃ εp fp o εp', St S εp ε fp ∧ p εp = some (o, εp') ∧
  ∀ S' fp', St S' εp' ε fp' → Nx S fp S' fp' → match o with
    | .ok ds => ∀ chk : SD → Prop, (∀ S2 εp2 ε2 fp2, St S2 εp2 ε2 fp2 → Nx S' fp' S2 fp2 → Agree ms ε ε2 → c ds εp2 = true → chk S2) → R ds chk S'
    | .ex e => XD e εp' ε S' fp'
theorem loop_ok {c : PEnv → Bool} {g : GM} {b : M Res} {vs ms : List Nat} {chk : SD → Prop} {S1 : SD} {fp1 : List Addr} {ε1 : ED}
    (hc : ∀ S2 εp2 ε2 fp2, St S2 εp2 ε2 fp2 → Nx S1 fp1 S2 fp2 → Agree (vs ++ ms) ε1 ε2 → c εp2 = true → chk S2) :
    ∀ (ds : List DL.D) (εp : PEnv) (fp : List Addr) (ε : ED) (S : SD) (o : Out Res) (εp' : PEnv), St S εp ε fp → Nx S1 fp1 S fp → Agree (vs ++ ms) ε1 ε → mLoop c g b ds εp = some (o, εp') →
      (∀ S' fp' ε', OwnE S' εp' ε' fp' → Agree (vs ++ ms) ε ε' → Fin XD Dn S fp εp' ε' S' fp' o) → forL chk (fun x D ε S => wG g vs x ε S (wS XD ms b D)) ds Dn ε S
  | [], εp, fp, ε, S, o, εp', st, n, ag, e, k => by
    unfold mLoop at e
    split at e
    · rename_i h
      cases e
      exact ⟨hc S εp ε fp st n ag h, k S fp ε st.own Agree.refl st.nd Nx.refl⟩
    · cases e
  | x :: xs, εp, fp, ε, S, o, εp', st, n, ag, e, k => by
    unfold mLoop at e
    split at e
    · rename_i h
      refine ⟨hc S εp ε fp st n ag h, ?_⟩
      split at e
      · cases e
      · rename_i ε2 e2
        refine ⟨εp, fp, ε2, st, e2, fun ε' fp' st' sub ag' _ => ?_⟩
        have n' : Nx S fp S fp' := Nx.sub sub
        split at e
        · cases e
        · rename_i ε3 e3
          refine ⟨ε2, fp', _, ε3, st', e3, fun S4 fp4 ε4 own4 ag4 nd4 n4 => ?_⟩
          exact loop_ok hc xs ε3 fp4 ε4 S4 o εp' ⟨own4, nd4⟩ (n.trans (n'.trans n4)) (ag.trans (ag'.left.trans ag4.right)) e fun S5 fp5 ε5 own5 ag5 => (k S5 fp5 ε5 own5 ((ag'.left.trans ag4.right).trans ag5)).from (n'.trans n4)
        · rename_i ε3 e3
          refine ⟨ε2, fp', _, ε3, st', e3, fun S4 fp4 ε4 own4 ag4 nd4 n4 => ?_⟩
          exact loop_ok hc xs ε3 fp4 ε4 S4 o εp' ⟨own4, nd4⟩ (n.trans (n'.trans n4)) (ag.trans (ag'.left.trans ag4.right)) e fun S5 fp5 ε5 own5 ag5 => (k S5 fp5 ε5 own5 ((ag'.left.trans ag4.right).trans ag5)).from (n'.trans n4)
        · rename_i ε3 e3
          cases e
          exact ⟨ε2, fp', _, _, st', e3, fun S4 fp4 ε4 own4 ag4 nd4 n4 => k S4 fp4 ε4 own4 (ag'.left.trans ag4.right) nd4 (n'.trans n4)⟩
        · rename_i v ε3 e3
          cases e
          exact ⟨ε2, fp', _, _, st', e3, fun S4 fp4 ε4 own4 ag4 fq d ov nd4 n4 => k S4 fp4 ε4 own4 (ag'.left.trans ag4.right) fq d ov nd4 (n'.trans n4)⟩
        · rename_i y ε3 e3
          cases e
          exact ⟨ε2, fp', _, _, st', e3, fun S4 fp4 ε4 own4 ag4 nd4 n4 => k S4 fp4 ε4 own4 (ag'.left.trans ag4.right) nd4 (n'.trans n4)⟩
    · cases e
def mFor (p : M (List DL.D)) (c : List DL.D → PEnv → Bool) (g : GM) (b : M Res) : M Res := mBind p fun ds => mLoop (c ds) g b ds
theorem wS_for {p : M (List DL.D)} {c : List DL.D → PEnv → Bool} {g : GM} {b : M Res} {vs ms : List Nat} (h : wS XD (vs ++ ms) (mFor p c g b) Dn ε S) : dFor (wI XD (vs ++ ms) p c) (wG g vs) (wS XD ms b) Dn ε S := by
  obtain ⟨εp, fp, o, εp', st, e, k⟩ := h
  unfold mFor mBind at e
  split at e
  · cases e
  · rename_i ds ε1 e1
    refine ⟨εp, fp, .ok ds, ε1, st, e1, fun S1 fp1 st1 n1 chk hchk => ?_⟩
    exact loop_ok hchk ds ε1 fp1 ε S1 o εp' st1 Nx.refl Agree.refl e fun S' fp' ε' own ag => (k S' fp' ε' own ag).from n1
  · rename_i x ε1 e1
    cases e
    exact ⟨εp, fp, .ex x, _, st, e1, fun S1 fp1 st1 n1 => k S1 fp1 ε st1.own Agree.refl st1.nd n1⟩
/-- while: n turns at most -/
def mWhile (t : M Bool) (b : M Res) : Nat → M Res
  | 0 => fun _ => none
  | n + 1 => mBind t fun k => if k = true then (fun ε => match b ε with
    | none => none
    | some (.ok .nx, ε2) => mWhile t b n ε2
    | some (.ok .ct, ε2) => mWhile t b n ε2
    | some (.ok .bk, ε2) => some (.ok .nx, ε2)
    | some (.ok (.rt v), ε2) => some (.ok (.rt v), ε2)
    | some (.ex e, ε2) => some (.ex e, ε2)) else mPure .nx
theorem wS_while {t : M Bool} {b : M Res} {ms : List Nat} : ∀ (n : Nat) (ε : ED) (S : SD), wS XD ms (mWhile t b n) Dn ε S → whileN (wM XD t) (wS XD ms b) n Dn ε S
  | 0, ε, S, ⟨εp, fp, o, εp', st, e, k⟩ => nomatch e
  | n + 1, ε, S, h => wM_imp (wS_bind h) fun c S1 h => by
    cases c with
    | false =>
      obtain ⟨εp, fp, st, k⟩ := wS_pure h
      exact k st.nd Nx.refl
    | true =>
      obtain ⟨εp, fp, o, εp', st, e, k⟩ := h
      rw [if_pos rfl] at e
      split at e
      · cases e
      · rename_i ε3 e3
        exact ⟨εp, fp, _, ε3, st, e3, fun S4 fp4 ε4 own4 ag4 nd4 n4 => wS_while n ε4 S4 ⟨ε3, fp4, o, εp', ⟨own4, nd4⟩, e, fun S5 fp5 ε5 own5 ag5 => (k S5 fp5 ε5 own5 (ag4.trans ag5)).from n4⟩⟩
      · rename_i ε3 e3
        exact ⟨εp, fp, _, ε3, st, e3, fun S4 fp4 ε4 own4 ag4 nd4 n4 => wS_while n ε4 S4 ⟨ε3, fp4, o, εp', ⟨own4, nd4⟩, e, fun S5 fp5 ε5 own5 ag5 => (k S5 fp5 ε5 own5 (ag4.trans ag5)).from n4⟩⟩
      · rename_i ε3 e3
        cases e
        exact ⟨εp, fp, _, _, st, e3, k⟩
      · rename_i v ε3 e3
        cases e
        exact ⟨εp, fp, _, _, st, e3, k⟩
      · rename_i y ε3 e3
        cases e
        exact ⟨εp, fp, _, _, st, e3, k⟩
end
end FL

namespace FL
open PySem PySem.Spec PyProof.Rows L2 DL
variable [Amb] [Cbs]

mutual
def sameD : D → D → Bool
  | .non, .non => true
  | .bl a, .bl b => a == b
  | .int a, .int b => a == b
  | .str a, .str b => decide (a = b)
  | .ty a, .ty b => a == b
  | .ref a, .ref b => a == b
  | .tup a, .tup b => sameL a b
  | .ilst a, .ilst b => sameL a b
  | .edic, .edic => true
  | _, _ => false
def sameL : List D → List D → Bool
  | [], [] => true
  | a :: as, b :: bs => sameD a b && sameL as bs
  | _, _ => false
end
mutual
theorem same_eq : ∀ {a b : D}, sameD a b = true → a = b
  | .non, b, h => by cases b <;> simp_all [sameD]
  | .bl x, b, h => by cases b <;> simp_all [sameD]
  | .int x, b, h => by cases b <;> simp_all [sameD]
  | .str x, b, h => by cases b <;> simp_all [sameD]
  | .ty x, b, h => by cases b <;> simp_all [sameD]
  | .ref x, b, h => by cases b <;> simp_all [sameD]
  | .tup x, .tup y, h => by rw [sameL_eq (show sameL x y = true by simpa [sameD] using h)]
  | .ilst x, .ilst y, h => by rw [sameL_eq (show sameL x y = true by simpa [sameD] using h)]
  | .edic, b, h => by cases b <;> simp_all [sameD]
  | .tup x, .edic, h => by simp [sameD] at h
  | .ilst x, .edic, h => by simp [sameD] at h
  | .tup x, .non, h => by simp [sameD] at h
  | .tup x, .bl _, h => by simp [sameD] at h
  | .tup x, .int _, h => by simp [sameD] at h
  | .tup x, .str _, h => by simp [sameD] at h
  | .tup x, .ty _, h => by simp [sameD] at h
  | .tup x, .ref _, h => by simp [sameD] at h
  | .tup x, .ilst _, h => by simp [sameD] at h
  | .ilst x, .non, h => by simp [sameD] at h
  | .ilst x, .bl _, h => by simp [sameD] at h
  | .ilst x, .int _, h => by simp [sameD] at h
  | .ilst x, .str _, h => by simp [sameD] at h
  | .ilst x, .ty _, h => by simp [sameD] at h
  | .ilst x, .ref _, h => by simp [sameD] at h
  | .ilst x, .tup _, h => by simp [sameD] at h
theorem sameL_eq : ∀ {a b : List D}, sameL a b = true → a = b
  | [], [], h => rfl
  | [], _ :: _, h => by simp [sameL] at h
  | _ :: _, [], h => by simp [sameL] at h
  | x :: xs, y :: ys, h => by
    simp only [sameL, Bool.and_eq_true] at h
    rw [same_eq h.1, sameL_eq h.2]
end
mutual
theorem same_refl : ∀ a : D, sameD a a = true
  | .non => rfl
  | .bl x => by simp [sameD]
  | .int x => by simp [sameD]
  | .str x => by simp [sameD]
  | .ty x => by simp [sameD]
  | .ref x => by simp [sameD]
  | .tup x => by simp only [sameD]; exact sameL_refl x
  | .ilst x => by simp only [sameD]; exact sameL_refl x
  | .edic => by simp [sameD]
theorem sameL_refl : ∀ a : List D, sameL a a = true
  | [] => rfl
  | x :: xs => by simp only [sameL, same_refl x, sameL_refl xs, Bool.and_self]
end

def cYes : List D → PEnv → Bool := fun _ _ => true
def cSlot (i : Nat) : List D → PEnv → Bool := fun ds ε => match ε[i]? with
  | some (some (.lst es)) => sameL ds es
  | _ => false
section
variable {XD : XT} {α : Type} {ε : ED} {S : SD} {ms : List Nat} {c : List D → PEnv → Bool} {R : List D → (SD → Prop) → SD → Prop}
theorem wI_bind {p : M α} {f : α → M (List D)} (h : wI XD ms (mBind p f) c ε S R) : wM XD p ε S fun a S1 => wI XD ms (f a) c ε S1 R := by
  obtain ⟨εp, fp, o, εp', st, e, k⟩ := h
  unfold mBind at e
  split at e
  · cases e
  · rename_i a ε1 e1
    refine ⟨εp, fp, .ok a, ε1, st, e1, fun S1 fp1 st1 n1 => ⟨ε1, fp1, o, εp', st1, e, fun S2 fp2 st2 n2 => ?_⟩⟩
    exact k S2 fp2 st2 (n1.trans n2)
  · rename_i x ε1 e1
    cases e
    exact ⟨εp, fp, .ex x, _, st, e1, k⟩
theorem wI_lift {o : Option (List D)} (h : wI XD ms (mLift o) c ε S R) : ∃ ds, o = some ds ∧ R ds Yes S := by
  obtain ⟨εp, fp, x, εp', st, e, k⟩ := h
  unfold mLift at e
  split at e
  · cases e
  · cases e
    exact ⟨_, rfl, k S fp st Nx.refl Yes fun _ _ _ _ _ _ _ _ => trivial⟩
theorem wI_list {p : M (List D)} (h : wI XD ms p c ε S R) : wM XD p ε S fun ds S1 => R ds Yes S1 := by
  obtain ⟨εp, fp, x, εp', st, e, k⟩ := h
  refine ⟨εp, fp, x, εp', st, e, fun S1 fp1 st1 n1 => ?_⟩
  have := k S1 fp1 st1 n1
  cases x with
  | ok ds => exact this Yes fun _ _ _ _ _ _ _ _ => trivial
  | ex y => exact this
theorem wI_slot {i : Nat} (hi : i ∉ ms) (h : wI XD ms (mGetL i) (cSlot i) ε S R) : ∃ a ds, ε[i]? = some (some (.ref a)) ∧ S a = some (.lst ds) ∧ R ds (fun S2 => S2 a = some (.lst ds)) S := by
  obtain ⟨εp, fp, o, εp', st, e, k⟩ := h
  unfold mGetL at e
  split at e
  · rename_i ds hd
    cases e
    obtain ⟨d', fq, e1, ow, _⟩ := st.slot hd
    obtain ⟨a, rfl, rfl, ha⟩ := ow.lst
    refine ⟨a, ds, e1, ha, k S fp st Nx.refl _ fun S2 εp2 ε2 fp2 st2 _ ag hc => ?_⟩
    unfold cSlot at hc
    split at hc
    · rename_i es he
      cases sameL_eq hc
      obtain ⟨d2, fq2, e2, ow2, _⟩ := st2.slot he
      obtain ⟨b, rfl, rfl, hb⟩ := ow2.lst
      have e3 := ag i hi
      rw [e2, e1] at e3
      cases e3
      exact hb
    · cases hc
  · cases e
end
section
variable {X : Cx} {XD : XT} {a b e l tg : Expr} {es : List Expr} {pa : M D} {pas : M (List D)} {pf : M (List D)} {po : M PV} {pos p : Pos} {ms : List Nat}
abbrev FI (X : Cx) (XD : XT) (tg iter : Expr) (ms : List Nat) (p : M (List D)) (c : List D → PEnv → Bool) : Prop := DI X tg iter (wI XD ms p c)
theorem DI_imp {t t' : DTI} (h : DI X tg l t) (i : ∀ ε S R, t' ε S R → t ε S R) : DI X tg l t' :=
  PI_imp h fun σ H R ⟨ε, S, R0, rE, rS, q, k⟩ => ⟨ε, S, R0, rE, rS, i _ _ _ q, k⟩
def mItT (pa : M D) : M (List D) := mBind pa fun x => mLift (toT x)
theorem fi_tup (hl : FE X XD l pa) : FI X XD tg l ms (mItT pa) cYes := DI_imp (di_tup hl) fun ε S R h => wM_imp (wI_bind h) fun x S1 h => by
  obtain ⟨ds, e, h⟩ := wI_lift h
  exact ⟨ds, toT_eq e, h⟩
theorem fi_new (hl : FF X XD l pf) : FI X XD tg l ms pf cYes := DI_imp (di_new hl) fun ε S R h => wI_list h
theorem fi_slot {i : Nat} (hl : DE X l (dVar i)) (hi : i ∉ ms := by decide) : FI X XD tg l ms (mGetL i) (cSlot i) := DI_imp (di_list hl) fun ε S R h => by
  obtain ⟨a, ds, e1, e2, h⟩ := wI_slot hi h
  exact ⟨.ref a, e1, ds, .inr ⟨a, rfl, e2, h⟩⟩
def toL : PV → Option (List D)
  | .lst ds => some ds
  | _ => none
/-- a call's own list is walked -/
def mItO (po : M PV) : M (List D) := fun ε => match po ε with
  | none => none
  | some (.ok (.lst ds), ε') => some (.ok ds, ε')
  | some (.ok _, _) => none
  | some (.ex e, ε') => some (.ex e, ε')
theorem fi_own (hl : FO X XD l po) : FI X XD tg l ms (mItO po) cYes := DI_imp (di_list hl) fun ε S R h => by
  obtain ⟨εp, fp, o, εp', st, e, k⟩ := h
  unfold mItO at e
  split at e
  · cases e
  · rename_i ds ε1 e1
    cases e
    refine ⟨εp, fp, .ok (.lst ds), _, st, e1, fun S1 fp1 fq d own ov nd n => ?_⟩
    obtain ⟨q, rfl, rfl, hq⟩ := ov.lst
    have n' : Nx S fp S1 fp1 := n.perm (fun _ => Iff.rfl) fun x hx => List.mem_append_left _ hx
    refine ⟨ds, .inr ⟨q, rfl, hq, k S1 fp1 ⟨own, (app_nodup nd).1⟩ n' _ fun S2 εp2 ε2 fp2 _ n2 _ _ => ?_⟩⟩
    exact n2.ext q _ (fun z => (app_nodup nd).2.2 q z (by simp)) hq
  · cases e
  · rename_i x ε1 e1
    cases e
    exact ⟨εp, fp, .ex x, _, st, e1, k⟩
def rng : List D → Option (List D)
  | [.int j] => if -(2 ^ 62) ≤ j ∧ j < 2 ^ 62 then some (intsFrom 0 j.toNat) else none
  | [.int i, .int j] => if -(2 ^ 62) ≤ i ∧ i < 2 ^ 62 ∧ -(2 ^ 62) ≤ j ∧ j < 2 ^ 62 then some (intsFrom i (j - i).toNat) else none
  | _ => none
def mRng (pas : M (List D)) : M (List D) := mBind pas fun ds => mLift (rng ds)
def rng1 : List D → Option (List D)
  | [.int j] => if -(2 ^ 62) ≤ j ∧ j < 2 ^ 62 then some (intsFrom 0 j.toNat) else none
  | _ => none
def rng2 : List D → Option (List D)
  | [.int i, .int j] => if -(2 ^ 62) ≤ i ∧ i < 2 ^ 62 ∧ -(2 ^ 62) ≤ j ∧ j < 2 ^ 62 then some (intsFrom i (j - i).toNat) else none
  | _ => none
def mRng1 (pas : M (List D)) : M (List D) := mBind pas fun ds => mLift (rng1 ds)
def mRng2 (pas : M (List D)) : M (List D) := mBind pas fun ds => mLift (rng2 ds)
theorem fi_range1 (hg : Gl X "range") (hm : X.mg "range" = none) (ha : FA X XD [a] pas) (hs : starEach [a] X.env = [(false, eval a X.env)] := by rfl) : FI X XD tg (.Call (.Name "range" p) [a] [] pos) ms (mRng1 pas) cYes :=
  DI_imp (di_range1 hg hm ha hs) fun ε S R h => wM_imp (wI_bind h) fun ds S1 h => by
    obtain ⟨xs, e, h⟩ := wI_lift h
    unfold rng1 at e
    split at e
    · split at e
      · rename_i hc
        cases e
        exact ⟨_, rfl, hc.1, hc.2, h⟩
      · cases e
    · cases e
theorem fi_range2 (hg : Gl X "range") (hm : X.mg "range" = none) (ha : FA X XD [a, b] pas) (hs : starEach [a, b] X.env = [(false, eval a X.env), (false, eval b X.env)] := by rfl) (hs2 : starEach [b] X.env = [(false, eval b X.env)] := by rfl) :
    FI X XD tg (.Call (.Name "range" p) [a, b] [] pos) ms (mRng2 pas) cYes :=
  DI_imp (di_range2 hg hm ha hs hs2) fun ε S R h => wM_imp (wI_bind h) fun ds S1 h => by
    obtain ⟨xs, e, h⟩ := wI_lift h
    unfold rng2 at e
    split at e
    · split at e
      · rename_i hc
        cases e
        exact ⟨_, _, rfl, hc, h⟩
      · cases e
    · cases e
def enumT : List D → Option (List D)
  | [.tup ds] => some (pairsFrom 0 ds)
  | _ => none
def mEnT (pas : M (List D)) : M (List D) := mBind pas fun ds => mLift (enumT ds)
theorem fi_enT {tpos : Pos} {elts : List Expr} {kk : Nat} (hg : Gl X "enumerate") (hm : X.mg "enumerate" = none) (ha : FA X XD [e] pas) (hs : starEach [e] X.env = [(false, eval e X.env)] := by rfl) :
    FI X XD (.Tuple elts kk tpos) (.Call (.Name "enumerate" p) [e] [] pos) ms (mEnT pas) cYes :=
  DI_imp (di_enT hg hm ha hs) fun ε S R h => wM_imp (wI_bind h) fun ds S1 h => by
    obtain ⟨xs, e, h⟩ := wI_lift h
    unfold enumT at e
    split at e
    · cases e
      exact ⟨_, rfl, h⟩
    · cases e
def mEnL (i : Nat) : M (List D) := mBind (mGetL i) fun ds => mPure (pairsFrom 0 ds)
def cEnL (i : Nat) : List D → PEnv → Bool := fun ds ε => match ε[i]? with
  | some (some (.lst es)) => sameL ds (pairsFrom 0 es)
  | _ => false
theorem pairs_inj : ∀ {xs ys : List D} {k : Nat}, pairsFrom k xs = pairsFrom k ys → xs = ys
  | [], [], _, _ => rfl
  | [], _ :: _, _, h => nomatch h
  | _ :: _, [], _, h => nomatch h
  | x :: xs, y :: ys, k, h => by
    simp only [pairsFrom, List.cons.injEq, D.tup.injEq, and_true, true_and] at h
    rw [h.1, pairs_inj h.2]
theorem fi_enL {tpos : Pos} {elts : List Expr} {kk i : Nat} (hg : Gl X "enumerate") (hm : X.mg "enumerate" = none) (ha : DE X e (dVar i)) (hi : i ∉ ms := by decide) (hs : starEach [e] X.env = [(false, eval e X.env)] := by rfl) :
    FI X XD (.Tuple elts kk tpos) (.Call (.Name "enumerate" p) [e] [] pos) ms (mEnL i) (cEnL i) :=
  DI_imp (di_enL hg hm (da_cons ha da_nil hs) hs) fun ε S R h => by
    obtain ⟨εp, fp, o, εp', st, e, k⟩ := h
    unfold mEnL mBind mGetL at e
    split at e
    · cases e
    · rename_i ds ε1 e0
      split at e0
      · rename_i ds' hd
        cases e0
        cases e
        obtain ⟨d', fq, e1, ow, _⟩ := st.slot hd
        obtain ⟨q, rfl, rfl, ha⟩ := ow.lst
        refine ⟨.ref q, e1, q, ds, rfl, ha, k S fp st Nx.refl _ fun S2 εp2 ε2 fp2 st2 _ ag hc => ?_⟩
        unfold cEnL at hc
        split at hc
        · rename_i es he
          cases pairs_inj (sameL_eq hc)
          obtain ⟨d2, fq2, e2, ow2, _⟩ := st2.slot he
          obtain ⟨b, rfl, rfl, hb⟩ := ow2.lst
          have e3 := ag i hi
          rw [e2, e1] at e3
          cases e3
          exact hb
        · cases hc
      · cases e0
    · rename_i x ε1 e0
      split at e0
      · cases e0
      · cases e0
end

def wipeP (ε : PEnv) : List Nat → PEnv
  | [] => ε
  | v :: vs => (wipeP ε vs).set v none
def keepV (ε0 : PEnv) (v : Nat) : Option PV := match ε0[v]? with
  | some (some (.val d)) => some (.val d)
  | _ => none
def restore (ε0 ε1 : PEnv) : List Nat → PEnv
  | [] => ε1
  | v :: vs => (restore ε0 ε1 vs).set v (keepV ε0 v)
def mLcL (c : PEnv → Bool) (g : GM) (tt : M Bool) (te : M D) (vs : List Nat) : List D → List D → M (List D)
  | [], acc => fun ε => if c ε = true then some (.ok acc, ε) else none
  | x :: xs, acc => fun ε => if c ε = true then match g x (wipeP ε vs) with
    | none => none
    | some ε1 => match tt ε1 with
      | some (.ok true, ε2) => match te ε2 with
        | some (.ok y, ε3) => mLcL c g tt te vs xs (acc ++ [y]) (restore ε ε3 vs)
        | _ => none
      | some (.ok false, ε2) => mLcL c g tt te vs xs acc (restore ε ε2 vs)
      | _ => none
    else none
def mLc (p : M (List D)) (c : List D → PEnv → Bool) (g : GM) (tt : M Bool) (te : M D) (vs : List Nat) : M (List D) :=
  mBind p fun ds => if ds.length ≤ 1000000 then mLcL (c ds) g tt te vs ds [] else fun _ => none
section
variable {S : SD} {ε : ED}
theorem wipe_ok {εp : PEnv} {fp : List Addr} (h : OwnE S εp ε fp) (n : fp.Nodup) : ∀ vs, ∃ fp', OwnE S (wipeP εp vs) (wipeD ε vs) fp' ∧ fp'.Nodup ∧ ∀ a ∈ fp', a ∈ fp
  | [] => ⟨fp, h, n, fun _ h => h⟩
  | v :: vs => by
    obtain ⟨f1, h1, n1, s1⟩ := wipe_ok h n vs
    obtain ⟨f2, h2, sb⟩ := h1.drop v
    refine ⟨f2, ?_, sb.nodup n1, fun a ha => s1 a (sb.subset ha)⟩
    by_cases hv : v < (wipeP εp vs).length
    · exact h2.real none (by rw [List.getElem?_set_self hv])
    · have e1 : (wipeD ε vs).length = (wipeP εp vs).length := h1.length
      show OwnE S ((wipeP εp vs).set v none) ((wipeD ε vs).set v none) f2
      rw [List.set_eq_of_length_le (l := wipeD ε vs) (by omega)]
      exact h2
theorem wipeD_len : ∀ vs, (wipeD ε vs).length = ε.length
  | [] => rfl
  | v :: vs => by
    show ((wipeD ε vs).set v none).length = _
    rw [List.length_set, wipeD_len vs]
theorem wipeD_agree : ∀ vs, Agree vs ε (wipeD ε vs)
  | [] => Agree.refl
  | v :: vs => fun i hi => by
    show ((wipeD ε vs).set v none)[i]? = _
    rw [List.getElem?_set_ne (by rintro rfl; exact hi List.mem_cons_self), wipeD_agree vs i fun z => hi (List.mem_cons_of_mem _ z)]
theorem restore_ok {ε0 : PEnv} (hk : ∀ (v : Nat) (d : D), keepV ε0 v = some (.val d) → ε[v]? = some (some d)) : ∀ (vs : List Nat) {εp : PEnv} {ε' : ED} {fp : List Addr}, OwnE S εp ε' fp → fp.Nodup → ε'.length = ε.length →
    ∃ ε'' fp', OwnE S (restore ε0 εp vs) ε'' fp' ∧ fp'.Nodup ∧ (∀ a ∈ fp', a ∈ fp) ∧ ε''.length = ε.length ∧ ∀ i, ε''[i]? = if i ∈ vs then ε[i]? else ε'[i]?
  | [], εp, ε', fp, h, n, hl => ⟨ε', fp, h, n, fun _ h => h, hl, fun i => by simp⟩
  | v :: vs, εp, ε', fp, h, n, hl => by
    obtain ⟨e2, f1, h1, n1, s1, l1, g1⟩ := restore_ok hk vs h n hl
    obtain ⟨f2, h2, sb⟩ := h1.drop v
    have hlen := h1.length
    by_cases hv : v < ε.length
    · obtain ⟨x, hx⟩ : ∃ x, ε[v]? = some x := ⟨_, List.getElem?_eq_getElem hv⟩
      have hvp : v < (restore ε0 εp vs).length := by omega
      have h3 := h2.real x (by rw [List.getElem?_set_self hvp])
      have key : ∀ i, (e2.set v x)[i]? = if i ∈ v :: vs then ε[i]? else ε'[i]? := fun i => by
        by_cases e : v = i
        · subst e
          rw [List.getElem?_set_self (by omega), if_pos List.mem_cons_self, hx]
        · rw [List.getElem?_set_ne e, g1 i]
          have : (i ∈ v :: vs) ↔ i ∈ vs := by
            rw [List.mem_cons]
            exact ⟨fun z => z.resolve_left fun q => e q.symm, .inr⟩
          simp only [this]
      cases hkv : keepV ε0 v with
      | none =>
        refine ⟨e2.set v x, f2, ?_, sb.nodup n1, fun a ha => s1 a (sb.subset ha), by rw [List.length_set, l1], key⟩
        show OwnE S ((restore ε0 εp vs).set v (keepV ε0 v)) _ f2
        rw [hkv]
        exact h3
      | some q =>
        obtain ⟨d, rfl⟩ : ∃ d, q = .val d := by
          unfold keepV at hkv
          split at hkv
          · cases hkv; exact ⟨_, rfl⟩
          · cases hkv
        have hx2 := hk v d hkv
        rw [hx] at hx2
        cases hx2
        obtain ⟨f3, h4, pm⟩ := h3.give (i := v) (by rw [List.getElem?_set_self hvp]) (by rw [List.getElem?_set_self (by omega)]) (own_val (d := d))
        rw [List.set_set] at h4
        refine ⟨e2.set v (some d), f3, ?_, perm_nodup pm.symm (sb.nodup n1), fun a ha => s1 a (sb.subset (pm.mem_iff.mp ha)), by rw [List.length_set, l1], key⟩
        show OwnE S ((restore ε0 εp vs).set v (keepV ε0 v)) _ f3
        rw [hkv]
        exact h4
    · refine ⟨e2, f1, ?_, n1, s1, l1, fun i => ?_⟩
      · show OwnE S ((restore ε0 εp vs).set v (keepV ε0 v)) e2 f1
        rw [List.set_eq_of_length_le (by omega)]
        exact h1
      · rw [g1 i]
        by_cases e : v = i
        · subst e
          rw [if_pos List.mem_cons_self]
          split
          · rfl
          · rw [List.getElem?_eq_none (by omega), List.getElem?_eq_none (by omega)]
        · have : (i ∈ v :: vs) ↔ i ∈ vs := by
            rw [List.mem_cons]
            exact ⟨fun z => z.resolve_left fun q => e q.symm, .inr⟩
          simp only [this]
theorem restore_st {ε0 εp : PEnv} {S0 : SD} {fp0 fp : List Addr} {vs : List Nat} {ε' : ED} (st0 : St S0 ε0 ε fp0) (st : St S εp ε' fp) (hl : ε'.length = ε.length) (ag : Agree vs ε ε') :
    ∃ fp', St S (restore ε0 εp vs) ε fp' ∧ ∀ a ∈ fp', a ∈ fp := by
  have hk : ∀ (v : Nat) (d : D), keepV ε0 v = some (.val d) → ε[v]? = some (some d) := fun v d h => by
    unfold keepV at h
    split at h
    · rename_i d' hd
      cases h
      obtain ⟨x, fq, e1, ov, _⟩ := st0.slot hd
      cases ov.val.1
      exact e1
    · cases h
  obtain ⟨e2, fp', h1, n1, s1, l1, g1⟩ := restore_ok hk vs st.own st.nd hl
  have : e2 = ε := List.ext_getElem? fun i => by
    rw [g1 i]
    split
    · rfl
    · exact ag i (by assumption)
  subst this
  exact ⟨fp', ⟨h1, n1⟩, s1⟩
end
section
variable {XD : XT}
theorem lc_ok {c : PEnv → Bool} {g : GM} {tt : M Bool} {te : M D} {vs ws : List Nat} (hw : ∀ i ∈ ws, i ∈ vs) {chk : SD → Prop} {S1 : SD} {fp1 : List Addr} {ε : ED} {Q : List D → SD → Prop}
    (hc : ∀ S2 εp2 ε2 fp2, St S2 εp2 ε2 fp2 → Nx S1 fp1 S2 fp2 → Agree [] ε ε2 → c εp2 = true → chk S2) :
    ∀ (ds acc : List D) (εp : PEnv) (fp : List Addr) (S : SD) (o : Out (List D)) (εp' : PEnv), St S εp ε fp → Nx S1 fp1 S fp → mLcL c g tt te vs ds acc εp = some (o, εp') →
      (∀ S' fp', St S' εp' ε fp' → Nx S fp S' fp' → match o with | .ok a => Q a S' | .ex e => XD e εp' ε S' fp') → lcL chk (wG g ws) (wM NoX tt) (wM NoX te) vs ds acc ε S Q
  | [], acc, εp, fp, S, o, εp', st, n, e, k => by
    unfold mLcL at e
    split at e
    · rename_i h
      cases e
      exact ⟨hc S εp ε fp st n Agree.refl h, k S fp st Nx.refl⟩
    · cases e
  | x :: xs, acc, εp, fp, S, o, εp', st, n, e, k => by
    unfold mLcL at e
    split at e
    · rename_i h
      refine ⟨hc S εp ε fp st n Agree.refl h, ?_⟩
      obtain ⟨fpw, hwp, nw, sw⟩ := wipe_ok st.own st.nd vs
      split at e
      · cases e
      · rename_i ε1 e1
        refine ⟨wipeP εp vs, fpw, ε1, ⟨hwp, nw⟩, e1, fun ε' fp' st' sub ag hl => ?_⟩
        have n' : Nx S fp S fp' := Nx.sub fun a ha => sw a (sub a ha)
        have hl' : ε'.length = ε.length := by rw [hl, wipeD_len]
        have ag' : Agree vs ε ε' := fun i hi => (ag i fun z => hi (hw i z)).trans (wipeD_agree vs i hi)
        split at e
        · rename_i ε2 e2
          refine ⟨ε1, fp', .ok true, ε2, st', e2, fun S3 fp3 st3 n3 => ?_⟩
          dsimp only
          rw [if_pos rfl]
          split at e
          · rename_i y ε3 e3
            refine ⟨ε2, fp3, .ok y, ε3, st3, e3, fun S4 fp4 st4 n4 => ?_⟩
            obtain ⟨fp5, st5, s5⟩ := restore_st st st4 hl' ag'
            have n5 : Nx S fp S4 fp5 := (n'.trans (n3.trans n4)).trans (Nx.sub s5)
            exact lc_ok hw hc xs (acc ++ [y]) _ fp5 S4 o εp' st5 (n.trans n5) e fun S6 fp6 st6 n6 => k S6 fp6 st6 (n5.trans n6)
          · cases e
        · rename_i ε2 e2
          refine ⟨ε1, fp', .ok false, ε2, st', e2, fun S3 fp3 st3 n3 => ?_⟩
          dsimp only
          rw [if_neg Bool.false_ne_true]
          obtain ⟨fp5, st5, s5⟩ := restore_st st st3 hl' ag'
          have n5 : Nx S fp S3 fp5 := (n'.trans n3).trans (Nx.sub s5)
          exact lc_ok hw hc xs acc _ fp5 S3 o εp' st5 (n.trans n5) e fun S6 fp6 st6 n6 => k S6 fp6 st6 (n5.trans n6)
        · cases e
    · cases e
theorem wM_lc {p : M (List D)} {c : List D → PEnv → Bool} {g : GM} {tt : M Bool} {te : M D} {vs ws : List Nat} (hw : ∀ i ∈ ws, i ∈ vs) {ε : ED} {S : SD} {Q : List D → SD → Prop} (h : wM XD (mLc p c g tt te vs) ε S Q) :
    dLc (wI XD [] p c) (wG g ws) (wM NoX tt) (wM NoX te) vs ε S Q := by
  obtain ⟨εp, fp, o, εp', st, e, k⟩ := h
  unfold mLc mBind at e
  split at e
  · cases e
  · rename_i ds ε1 e1
    refine ⟨εp, fp, .ok ds, ε1, st, e1, fun S1 fp1 st1 n1 chk hchk => ?_⟩
    dsimp only at e
    split at e
    · rename_i hl
      exact ⟨hl, lc_ok (XD := XD) hw hchk ds [] ε1 fp1 S1 o εp' st1 Nx.refl e fun S' fp' st' n' => by
        have := k S' fp' st' (n1.trans n')
        cases o <;> exact this⟩
    · cases e
  · rename_i x ε1 e1
    cases e
    exact ⟨εp, fp, .ex x, _, st, e1, k⟩
end
section
variable {X : Cx} {XD : XT}
abbrev FTs (X : Cx) (ifs : List Expr) (p : M Bool) : Prop := DTs X ifs (wM NoX p)
theorem fts_nil : FTs X [] (mPure true) := ⟨fun pins s σ H Q I ⟨ε, S, Q0, rE, rS, q, k⟩ => dts_nil.run pins s σ H Q I ⟨ε, S, Q0, rE, rS, wM_pure q, k⟩⟩
theorem fts_one {c : Expr} {p : M Bool} (h : FT X NoX c p) : FTs X [c] p := dts_one h
abbrev FG (X : Cx) (tg : Expr) (vs : List Nat) (g : GM) : Prop := DG X tg vs (wG g vs)
abbrev FGs (X : Cx) (tg : List Expr) (vs : List Nat) (g : GsM) : Prop := DGs X tg vs (wGs g vs)
theorem DG_imp {tg : Expr} {vs : List Nat} {t t' : DTG} (h : DG X tg vs t) (i : ∀ d ε S Q, t' d ε S Q → t d ε S Q) : DG X tg vs t' :=
  PG_imp h fun v σ H Q ⟨d, ε, S, Q0, den, rE, rS, q, k⟩ => ⟨d, ε, S, Q0, den, rE, rS, i _ _ _ _ q, k⟩
theorem DGs_imp {tg : List Expr} {vs : List Nat} {t t' : DTGs} (h : DGs X tg vs t) (i : ∀ d ε S Q, t' d ε S Q → t d ε S Q) : DGs X tg vs t' :=
  PGs_imp h fun v σ H Q ⟨d, ε, S, Q0, den, rE, rS, q, k⟩ => ⟨d, ε, S, Q0, den, rE, rS, i _ _ _ _ q, k⟩
theorem fg_name {i : Nat} {x : Str} {pos : Pos} (hN : X.N.Nodup) (hi : X.N[i]? = some x) (hx : Loc X.env.scope x) (hf : X.fn x = true ∨ X.env.scope.names.lookup x = some .local := by first | exact .inl rfl | exact .inr rfl | assumption) : FG X (.Name x pos) [i] (gN i) :=
  DG_imp (dg_name hN hi hx hf) fun _ _ _ _ => wG_N
theorem fgs_nil : FGs X [] [] gNil := DGs_imp dgs_nil fun _ _ _ _ => wG_Nil
theorem fgs_cons {e : Expr} {es : List Expr} {g : GM} {u : GsM} {vs ws : List Nat} (h1 : FG X e vs g) (h2 : FGs X es ws u) (hs : (assignEach (e :: es) X.env).map (·.2) = assign e X.env :: (assignEach es X.env).map (·.2) := by rfl) : FGs X (e :: es) (vs ++ ws) (gCons g u) :=
  DGs_imp (dgs_cons h1 h2 hs) fun _ _ _ _ => wG_Cons
theorem fg_tup {es : List Expr} {k : Nat} {pos : Pos} {u : GsM} {n : Nat} {vs : List Nat} (hc : X.calm = true) (h : FGs X es vs u) (hn : (assignEach es X.env).length = n := by rfl) (hst : (assignEach es X.env).findIdx? (·.1) = none := by rfl) : FG X (.Tuple es k pos) vs (gTup n u) :=
  DG_imp (dg_tup hc h hn hst) fun _ _ _ _ => wG_Tup
variable {elt tg iter : Expr} {ifs : List Expr} {scope : Scope} {own : List (Str × Nat)} {pos : Pos} {p : M (List D)} {c : List D → PEnv → Bool} {g : GM} {tt : M Bool} {te : M D} {ws : List Nat}
theorem ff_lc (hc : X.calm = true) (hN : X.N.Nodup) (hi : FI X XD tg iter [] p c) (ok : BlkOk X.N X.env.scope scope own)
    (hg : ∀ (s : Shared) (H : Hp) (C : Addr) (cl : List (Str × Addr)) (fp : List Addr), FG (X.blk s H scope (compEnvC scope cl C X.env) fp) tg ws g) (ht : ∀ (s : Shared) (H : Hp) (C : Addr) (cl : List (Str × Addr)) (fp : List Addr), FTs (X.blk s H scope (compEnvC scope cl C X.env) fp) ifs tt)
    (he : ∀ (s : Shared) (H : Hp) (C : Addr) (cl : List (Str × Addr)) (fp : List Addr), FE (X.blk s H scope (compEnvC scope cl C X.env) fp) NoX elt te) (hw : ∀ i ∈ ws, i ∈ own.map (·.2) := by decide) (hs : ∀ x, foldedSetIterable iter X.env x = pure x := by intro _; rfl) :
    FF X XD (.ListComp elt [⟨tg, iter, ifs, 0⟩] scope pos) (mLc p c g tt te (own.map (·.2))) :=
  DF_imp (df_lc hc hN hi ok hg ht he hw hs) fun _ _ _ => wM_lc hw
end
end FL

namespace FL
open PySem PySem.Spec PyProof.Rows L2 DL
variable [Amb] [Cbs]

section
variable {X : Cx} {XD : XT} {a b c e : Expr} {es : List Expr} {st : Stmt} {rest : List Stmt} {pa pb : M D} {pt : M Bool} {pf : M (List D)} {po : M PV} {pl : M (List PArg)} {q r : M Res} {ms ms' : List Nat} {pos : Pos}
theorem fs_expr (he : FE X XD e pa) (hs : swapsWith e none pos.line X.env = pure false := by rfl) : FS X XD (.Expr e pos) [] (mDrop pa) := DS_imp (ds_expr he hs) fun _ _ _ => wS_drop
theorem fs_ret (he : FE X XD e pa) : FS X XD (.Return (some e) pos) [] (mRet pa) := DS_imp (ds_ret he) fun _ _ _ => wS_ret
theorem fs_retO (he : FO X XD e po) : FS X XD (.Return (some e) pos) [] (mRetO po) := DS_imp (ds_ret he) fun _ _ _ => wS_retO
theorem fs_retV {i : Nat} (he : DE X e (dVar i)) : FS X XD (.Return (some e) pos) [] (mRetV i) := DS_imp (ds_ret he) fun _ _ _ => wS_retV
theorem fs_retN : FS X XD (.Return none pos) [] (mPure (.rt (.val .non))) := DS_imp ds_retN fun D ε S h => by
  obtain ⟨εp, fp, st, k⟩ := wS_pure h
  exact k [] .non own_val (by rw [List.append_nil]; exact st.nd) (by rw [List.append_nil]; exact Nx.refl)
theorem fs_pass : FS X XD (.Pass pos) [] (mPure .nx) := DS_imp ds_pass fun D ε S h => by
  obtain ⟨εp, fp, st, k⟩ := wS_pure h
  exact k st.nd Nx.refl
theorem fs_break : FS X XD (.Break pos) [] (mPure .bk) := DS_imp ds_break fun D ε S h => by
  obtain ⟨εp, fp, st, k⟩ := wS_pure h
  exact k st.nd Nx.refl
theorem fs_continue : FS X XD (.Continue pos) [] (mPure .ct) := DS_imp ds_continue fun D ε S h => by
  obtain ⟨εp, fp, st, k⟩ := wS_pure h
  exact k st.nd Nx.refl
theorem fss_nil : FSs X XD [] [] (mPure .nx) := DSs_imp dss_nil fun D ε S h => by
  obtain ⟨εp, fp, st, k⟩ := wS_pure h
  exact k st.nd Nx.refl
theorem fss_cons (h1 : FS X XD st ms q) (h2 : FSs X XD rest ms' r) : FSs X XD (st :: rest) (ms ++ ms') (mSeq q r) := DSs_imp (dss_cons h1 h2) fun _ _ _ => wS_seq
theorem fss_one (h1 : FS X XD st ms q) : FSs X XD [st] ms q := dss_one h1
theorem fs_if {a b : List Stmt} (hc : FT X XD c pt) (ha : FSs X XD a ms q) (hb : FSs X XD b ms' r) : FS X XD (.If c a b pos) (ms ++ ms') (mIf pt q r) := DS_imp (ds_if hc ha hb) fun _ _ _ => wS_if
theorem fs_set {i : Nat} {x : Str} {pos' : Pos} (hN : X.N.Nodup) (hi : X.N[i]? = some x) (hx : Loc X.env.scope x) (he : FE X XD e pa) (hs : swapsWith e (some (.Name x pos')) pos.line X.env = pure false := by rfl) (hf : X.fn x = true ∨ X.env.scope.names.lookup x = some .local := by first | exact .inl rfl | exact .inr rfl | assumption) :
    FS X XD (.Assign [.Name x pos'] e pos) [i] (mSet i pa) := DS_imp (ds_set hN hi hx he hs hf) fun _ _ _ => wS_set
theorem fs_setO {i : Nat} {x : Str} {pos' : Pos} (hN : X.N.Nodup) (hi : X.N[i]? = some x) (hx : Loc X.env.scope x) (he : FO X XD e po) (hs : swapsWith e (some (.Name x pos')) pos.line X.env = pure false := by rfl) (hf : X.fn x = true ∨ X.env.scope.names.lookup x = some .local := by first | exact .inl rfl | exact .inr rfl | assumption) :
    FS X XD (.Assign [.Name x pos'] e pos) [i] (mSetO i po) := DS_imp (ds_set hN hi hx he hs hf) fun _ _ _ => wS_setO
theorem fs_setLc {i : Nat} {y : Str} {py : Pos} {elt tg iter : Expr} {ifs : List Expr} {scope : Scope} {own : List (Str × Nat)} {pos spos : Pos} {p : M (List D)} {c : List D → PEnv → Bool} {g : GM} {tt : M Bool} {te : M D} {ws : List Nat} (hc : X.calm = true) (hN : X.N.Nodup) (hy : X.N[i]? = some y) (hyl : X.env.scope.names.lookup y = some .local)
    (hsw : swapsWith (.ListComp elt [⟨tg, iter, ifs, 0⟩] scope pos) (some (.Name y py)) spos.line X.env = pure true) (hi : FI X XD tg iter [] p c) (ok : BlkOk X.N X.env.scope scope own)
    (hg : ∀ (s : Shared) (H : Hp) (C : Addr) (cl : List (Str × Addr)) (fp : List Addr), FG (X.blk s H scope (compEnvC scope cl C X.env) fp) tg ws g) (ht : ∀ (s : Shared) (H : Hp) (C : Addr) (cl : List (Str × Addr)) (fp : List Addr), FTs (X.blk s H scope (compEnvC scope cl C X.env) fp) ifs tt)
    (he : ∀ (s : Shared) (H : Hp) (C : Addr) (cl : List (Str × Addr)) (fp : List Addr), FE (X.blk s H scope (compEnvC scope cl C X.env) fp) NoX elt te) (hw : ∀ i ∈ ws, i ∈ own.map (·.2) := by decide) (hs : ∀ x, foldedSetIterable iter X.env x = pure x := by intro _; rfl) :
    FS X XD (.Assign [.Name y py] (.ListComp elt [⟨tg, iter, ifs, 0⟩] scope pos) spos) [i] (mSetO i (mMap .lst (mLc p c g tt te (own.map (·.2))))) :=
  DS_imp (ds_setLc hc hN hy hyl hsw hi ok hg ht he hw hs) fun D ε S h => (by
    have h1 := wO_lst (wS_setO h)
    exact wM_lc hw h1)
theorem fs_asg {tg : Expr} {g : GM} {vs : List Nat} (he : FE X XD e pa) (hg : FG X tg vs g) (hs : swapsWithSole [tg] e pos.line X.env = pure false := by rfl) (hw : swappedStores [tg] e X.env = pure none := by rfl)
    (h1 : (assignEach [tg] X.env).map (·.2) = [assign tg X.env] := by rfl) : FS X XD (.Assign [tg] e pos) vs (mAsg pa g) := DS_imp (ds_asg he hg hs hw h1) fun _ _ _ => wS_asg
theorem fs_for {tg iter : Expr} {body : List Stmt} {p : M (List D)} {c : List D → PEnv → Bool} {g : GM} {vs : List Nat} (hp : PassesOwn (model X.prog X.w) X.A X.env X.xe) (hc : X.calm = true) (hi : FI X XD tg iter (vs ++ ms) p c) (hg : FG X tg vs g) (hb : FSs X XD body ms q)
    (hs : ∀ x, foldedSetIterable iter X.env x = pure x := by intro _; rfl) : FS X XD (.For tg iter body [] pos) (vs ++ ms) (mFor p c g q) := DS_imp (ds_for hp hc hi hg hb hs) fun _ _ _ => wS_for
theorem fs_while {body : List Stmt} (n : Nat) (hp : PassesOwn (model X.prog X.w) X.A X.env X.xe) (hc : FT X XD c pt) (hb : FSs X XD body ms q) : FS X XD (.While c body [] pos) ms (mWhile pt q n) :=
  DS_imp (ds_while hp hc hb) fun D ε S h => ⟨n, wS_while n ε S h⟩
def putA : List (Nat × PArg) → PEnv → Option PEnv
  | [], ε => some ε
  | (i, .v d) :: r, ε => if i < ε.length then putA r (ε.set i (some (.val d))) else none
  | (i, .n p) :: r, ε => if i < ε.length then putA r (ε.set i (some p)) else none
  | (_, .s _) :: _, _ => none
def mPar (is : List Nat) (pl : M (List PArg)) : M Res := fun ε => match pl ε with
  | none => none
  | some (.ex e, ε') => some (.ex e, ε')
  | some (.ok as, ε') => if as.length = is.length then match putA (is.zip as) ε' with
    | some ε2 => some (.ok .nx, ε2)
    | none => none
    else none
theorem putA_ok {S : SD} {ε0 : ED} : ∀ {is : List Nat} {as : List PArg} {εp εp' : PEnv} {ε : ED} {ds : List D} {fp fq : List Addr}, OwnE S εp ε fp → ArgR S ε0 as ds fq → (fp ++ fq).Nodup → as.length = is.length → putA (is.zip as) εp = some εp' →
    ds.length = is.length ∧ ∃ fp', OwnE S εp' ((is.zip ds).foldl (fun e p => e.set p.1 (some p.2)) ε) fp' ∧ fp'.Nodup ∧ ∀ a ∈ fp', a ∈ fp ++ fq
  | [], [], εp, εp', ε, ds, fp, fq, own, ar, nd, hl, e => by
    obtain ⟨rfl, rfl⟩ := ar
    cases e
    exact ⟨rfl, fp, own, (app_nodup nd).1, fun a ha => List.mem_append_left _ ha⟩
  | i :: is, [], _, _, _, _, _, _, _, _, _, hl, _ => nomatch hl
  | [], a :: as, _, _, _, _, _, _, _, _, _, hl, _ => nomatch hl
  | i :: is, .v d :: as, εp, εp', ε, ds, fp, fq, own, ar, nd, hl, e => by
    obtain ⟨rd, rfl, ar⟩ := ar
    have e' : (if i < εp.length then putA (is.zip as) (εp.set i (some (.val d))) else none) = some εp' := e
    split at e'
    · rename_i hi
      obtain ⟨f1, st1, s1⟩ := St.assign (d := d) own hi own_val (by rw [List.append_nil]; exact (app_nodup nd).1)
      have s1' : ∀ a ∈ f1, a ∈ fp := fun a ha => (s1 a ha).elim id fun z => nomatch z
      obtain ⟨nq, n2, n3⟩ := app_nodup nd
      obtain ⟨l2, f2, o2, n4, s2⟩ := putA_ok st1.own ar (nodup_app st1.nd n2 fun a ha hb => n3 a (s1' a ha) hb) (by simpa using hl) e'
      exact ⟨by simp [l2], f2, o2, n4, fun a ha => (List.mem_append.mp (s2 a ha)).elim (fun z => List.mem_append_left _ (s1' a z)) (List.mem_append_right _)⟩
    · cases e'
  | i :: is, .n p :: as, εp, εp', ε, ds, fp, fq, own, ar, nd, hl, e => by
    obtain ⟨d, rd, g1, g2, rfl, rfl, ov, ar⟩ := ar
    have e' : (if i < εp.length then putA (is.zip as) (εp.set i (some p)) else none) = some εp' := e
    split at e'
    · rename_i hi
      rw [← List.append_assoc] at nd
      obtain ⟨n1, n2, n3⟩ := app_nodup nd
      obtain ⟨f1, st1, s1⟩ := St.assign (d := d) own hi ov n1
      have s1' : ∀ a ∈ f1, a ∈ fp ++ g1 := fun a ha => List.mem_append.mpr (s1 a ha)
      obtain ⟨l2, f2, o2, n4, s2⟩ := putA_ok st1.own ar (nodup_app st1.nd n2 fun a ha hb => n3 a (s1' a ha) hb) (by simpa using hl) e'
      refine ⟨by simp [l2], f2, o2, n4, fun a ha => ?_⟩
      rw [← List.append_assoc]
      exact (List.mem_append.mp (s2 a ha)).elim (fun z => List.mem_append_left _ (s1' a z)) (List.mem_append_right _)
    · cases e'
  | i :: is, .s j :: as, εp, εp', ε, ds, fp, fq, own, ar, nd, hl, e => by
    have e' : (none : Option PEnv) = some εp' := e
    cases e'
theorem fold_agree : ∀ (ps : List (Nat × D)) (ε : ED), Agree (ps.map (·.1)) ε (ps.foldl (fun e p => e.set p.1 (some p.2)) ε)
  | [], ε => Agree.refl
  | (i, d) :: ps, ε => fun j hj => by
    rw [List.foldl_cons, fold_agree ps _ j fun z => hj (List.mem_cons_of_mem _ z), List.getElem?_set_ne]
    rintro rfl
    exact hj List.mem_cons_self
theorem wS_par {is : List Nat} {pl : M (List PArg)} {D : DEnds} {ε : ED} {S : SD} (h : wS XD is (mPar is pl) D ε S) : wL XD pl ε S fun ds S1 => ds.length = is.length ∧ D.nx ((is.zip ds).foldl (fun e p => e.set p.1 (some p.2)) ε) S1 := by
  obtain ⟨εp, fp, o, εp', st, e, k⟩ := h
  unfold mPar at e
  split at e
  · cases e
  · rename_i x ε1 e1
    cases e
    exact ⟨εp, fp, .ex x, _, st, e1, fun S1 fp1 st1 n1 => k S1 fp1 ε st1.own Agree.refl st1.nd n1⟩
  · rename_i as ε1 e1
    split at e
    · rename_i hl
      split at e
      · rename_i ε2 e2
        cases e
        refine ⟨εp, fp, .ok as, ε1, st, e1, fun S1 fp1 fq ds own ar nd n => ?_⟩
        obtain ⟨l2, f2, o2, n2, s2⟩ := putA_ok own ar nd hl e2
        refine ⟨l2, k S1 f2 _ o2 ?_ n2 (n.trans (Nx.sub s2))⟩
        have := fold_agree (is.zip ds) ε
        rw [List.map_fst_zip (by omega)] at this
        exact this
      · cases e
    · cases e
theorem fs_par2 {i j : Nat} {x y : Str} {px py pt : Pos} {kt k2 pt2} (hc : X.calm = true) (hN : X.N.Nodup) (ha : FLs X XD [a, b] pl) (hi : X.N[i]? = some x := by rfl) (hj : X.N[j]? = some y := by rfl) (hij : i ≠ j := by decide)
    (hx : X.env.scope.names.lookup x = some .local := by rfl) (hy : X.env.scope.names.lookup y = some .local := by rfl)
    (hw : swappedStores [.Tuple [.Name x px, .Name y py] kt pt] (.Tuple [a, b] k2 pt2) X.env = pure (some [x, y]) := by rfl)
    (hs : swapsWithSole [.Tuple [.Name x px, .Name y py] kt pt] (.Tuple [a, b] k2 pt2) pos.line X.env = pure false := by rfl) :
    FS X XD (.Assign [.Tuple [.Name x px, .Name y py] kt pt] (.Tuple [a, b] k2 pt2) pos) [i, j] (mPar [i, j] pl) :=
  DS_imp (ds_par2 hc hN ha hi hj hij hx hy hw hs) fun D ε S h => by
    obtain ⟨εp, fp, o, εp', st, e, k⟩ := wS_par h
    refine ⟨εp, fp, o, εp', st, e, ?_⟩
    cases o with
    | ex x => exact k
    | ok as =>
      intro S1 fp1 fq ds own ar nd n
      obtain ⟨hl, q⟩ := k S1 fp1 fq ds own ar nd n
      match ds, hl, q with
      | [v, w], _, q => exact ⟨v, w, rfl, q⟩
theorem fs_par3 {i j l : Nat} {x y z : Str} {px py pz pt : Pos} {kt k2 pt2} (hc : X.calm = true) (hN : X.N.Nodup) (ha : FLs X XD [a, b, c] pl) (hi : X.N[i]? = some x := by rfl) (hj : X.N[j]? = some y := by rfl) (hl : X.N[l]? = some z := by rfl)
    (hij : i ≠ j := by decide) (hil : i ≠ l := by decide) (hjl : j ≠ l := by decide)
    (hx : X.env.scope.names.lookup x = some .local := by rfl) (hy : X.env.scope.names.lookup y = some .local := by rfl) (hz : X.env.scope.names.lookup z = some .local := by rfl)
    (hw : swappedStores [.Tuple [.Name x px, .Name y py, .Name z pz] kt pt] (.Tuple [a, b, c] k2 pt2) X.env = pure (some [x, y, z]) := by rfl)
    (hs : swapsWithSole [.Tuple [.Name x px, .Name y py, .Name z pz] kt pt] (.Tuple [a, b, c] k2 pt2) pos.line X.env = pure false := by rfl) :
    FS X XD (.Assign [.Tuple [.Name x px, .Name y py, .Name z pz] kt pt] (.Tuple [a, b, c] k2 pt2) pos) [i, j, l] (mPar [i, j, l] pl) :=
  DS_imp (ds_par3 hc hN ha hi hj hl hij hil hjl hx hy hz hw hs) fun D ε S h => by
    obtain ⟨εp, fp, o, εp', st, e, k⟩ := wS_par h
    refine ⟨εp, fp, o, εp', st, e, ?_⟩
    cases o with
    | ex x => exact k
    | ok as =>
      intro S1 fp1 fq ds own ar nd n
      obtain ⟨hl, q⟩ := k S1 fp1 fq ds own ar nd n
      match ds, hl, q with
      | [u, v, w], _, q => exact ⟨u, v, w, rfl, q⟩
def setL (y v : D) (ds : List D) : Option (Unit × List D) := match y with
  | .int i => (ixN ds.length i).map fun j => ((), ds.set j v)
  | _ => none
def mSetIx (i : Nat) (pe pi : M D) : M Res := mBind pe fun v => mBind (mGetL i) fun _ => mBind pi fun y => mBind (mModL i (setL y v)) fun _ => mPure .nx
theorem fs_setIx (hu : X.A.units + 1 < cLine) {o i' : Expr} {i : Nat} {pos' : Pos} (he : FE X XD e pa) (ho : DE X o (dVar i)) (hi : FE X XD i' pb)
    (ha : ∀ v, assign (.Subscript o i' pos') X.env v = (do
      let ov ← holding [v] (eval o X.env)
      let iv ← holding [v, ov] (eval i' X.env)
      standAt pos'
      holding [v, ov, iv] (setItem ov iv v)
      release [v, ov, iv] []) := by intro _; rfl)
    (hs : swapsWithSole [.Subscript o i' pos'] e pos.line X.env = pure false := by rfl) (hw : swappedStores [.Subscript o i' pos'] e X.env = pure none := by rfl)
    (h1 : (assignEach [.Subscript o i' pos'] X.env).map (·.2) = [assign (.Subscript o i' pos') X.env] := by rfl) : FS X XD (.Assign [.Subscript o i' pos'] e pos) [] (mSetIx i pa pb) :=
  DS_imp (ds_asg he (dg_sub ho hi (dset hu) ha) hs hw h1) fun D ε S h => wM_imp (wS_bind h) fun v S1 h => by
    have h2 := wS_bind h
    obtain ⟨q, ds0, e1, _, h3⟩ := wM_getL h2
    refine ⟨.ref q, e1, wM_imp (wS_bind h3) fun y S2 h4 => ?_⟩
    obtain ⟨q', ds, u, ds', e3, e4, e5, h6⟩ := wM_modL (wS_bind h4)
    cases slot_eq e1 e3
    unfold setL at e5
    split at e5
    · obtain ⟨j, hj, e6⟩ := Option.map_eq_some_iff.mp e5
      cases e6
      refine ⟨ds, j, e4, hj, ?_⟩
      obtain ⟨εp, fp, st, k⟩ := wS_pure h6
      exact k st.nd Nx.refl
    · cases e5
end

def startP (n : Nat) (ps : List PV) : PEnv := ps.map some ++ List.replicate (n - ps.length) none
def outsF (io : List Nat) : Nat → List PV → PEnv → Option (List PV)
  | _, [], _ => some []
  | i, p :: ps, ε => if io.contains i = true then match ε[i]? with
      | some (some q) => match outsF io (i + 1) ps (ε.set i none) with
        | some r => some (q :: r)
        | none => none
      | _ => none
    else match p with
      | .val d => match outsF io (i + 1) ps ε with
        | some r => some (.val d :: r)
        | none => none
      | _ => none
def runF (io : List Nat) (n : Nat) (body : M Res) : FM := fun ps => match body (startP n ps) with
  | some (.ok (.rt v), ε) => match outsF io 0 ps ε with
    | some ps' => some (.ok v, ps')
    | none => none
  | some (.ok .nx, ε) => match outsF io 0 ps ε with
    | some ps' => some (.ok (.val .non), ps')
    | none => none
  | _ => none
theorem runF_ok {io : List Nat} {n : Nat} {body : M Res} : ∀ ps o ps', runF io n body ps = some (o, ps') → ∃ v, o = .ok v := fun ps o ps' h => by
  unfold runF at h
  split at h
  · split at h
    · cases h; exact ⟨_, rfl⟩
    · cases h
  · split at h
    · cases h; exact ⟨_, rfl⟩
    · cases h
  · cases h
theorem own_start {S : SD} : ∀ {ps : List PV} {ds : List D} {fp : List Addr} (n : Nat), OwnL S ps ds fp → OwnE S (ps.map some ++ List.replicate n none) (ds.map some ++ List.replicate n none) fp
  | [], ds, fp, n, h => by
    obtain ⟨rfl, rfl⟩ := h.nil
    induction n with
    | zero => exact ⟨rfl, rfl⟩
    | succ n ih => exact ⟨none, _, [], [], rfl, rfl, rfl, ih⟩
  | p :: ps, ds, fp, n, h => by
    obtain ⟨d, r, f1, f2, rfl, rfl, h1, h2⟩ := h.cons
    exact ⟨some d, _, f1, f2, rfl, rfl, ⟨d, rfl, h1⟩, own_start n h2⟩
theorem OwnL.length {S : SD} : ∀ {ps : List PV} {ds : List D} {fp : List Addr}, OwnL S ps ds fp → ds.length = ps.length
  | [], ds, fp, h => by
    rw [h.nil.1]
    rfl
  | p :: ps, ds, fp, h => by
    obtain ⟨d, r, f1, f2, rfl, rfl, h1, h2⟩ := h.cons
    rw [List.length_cons, List.length_cons, OwnL.length h2]
theorem outs_ok {S0 S' : SD} {io : List Nat} {εr : ED} : ∀ {ps ps' : List PV} {ds : List D} {f0 fp : List Addr} {i : Nat} {ε : PEnv}, OwnL S0 ps ds f0 → OwnE S' ε εr fp → outsF io i ps ε = some ps' →
    (∀ j d, io.contains (i + j) = true → ds[j]? = some d → εr[i + j]? = some (some d)) → ∃ f fr, OwnL S' ps' ds f ∧ fp.Perm (f ++ fr)
  | [], ps', ds, f0, fp, i, ε, ol, own, e, hr => by
    obtain ⟨rfl, rfl⟩ := ol.nil
    cases e
    exact ⟨[], fp, ownL_nil, List.Perm.refl _⟩
  | p :: ps, ps', ds, f0, fp, i, ε, ol, own, e, hr => by
    obtain ⟨d, r, f1, f2, rfl, rfl, h1, h2⟩ := ol.cons
    have hr' : ∀ j d, io.contains (i + 1 + j) = true → r[j]? = some d → εr[i + 1 + j]? = some (some d) := fun j d hc hj => by
      rw [show i + 1 + j = i + (j + 1) by omega] at hc ⊢
      exact hr (j + 1) d hc (by simpa using hj)
    unfold outsF at e
    split at e
    · rename_i hc
      split at e
      · rename_i q hq
        split at e
        · rename_i rs e1
          cases e
          obtain ⟨d', fq, fr, e2, ov, own2, pm⟩ := own.take hq
          have e3 := hr 0 d (by simpa using hc) rfl
          rw [Nat.add_zero, e2] at e3
          cases e3
          obtain ⟨f, fr2, ol2, pm2⟩ := outs_ok h2 own2 e1 hr'
          refine ⟨fq ++ f, fr2, ownL_cons ov ol2, pm.trans ?_⟩
          rw [List.append_assoc]
          exact List.Perm.append_left fq pm2
        · cases e
      · cases e
    · split at e
      · rename_i d0
        split at e
        · rename_i rs e1
          cases e
          obtain ⟨rfl, rfl⟩ := h1.val
          obtain ⟨f, fr2, ol2, pm2⟩ := outs_ok h2 own e1 hr'
          exact ⟨[] ++ f, fr2, ownL_cons own_val ol2, pm2⟩
        · cases e
      · cases e
section
variable {P : Program} {w : World} {K : PySem.W.Frag} {mg : Str → Option Value} {base : Heap}
theorem startD_get {N : List Str} {ds : List D} {j : Nat} {d : D} (h : ds[j]? = some d) : (startD N ds)[j]? = some (some d) := by
  unfold startD
  have hj : j < ds.length := (List.getElem?_eq_some_iff.mp h).1
  rw [List.getElem?_append_left (by simpa using hj), List.getElem?_map, h]
  rfl
def fnF (np : Nat) (io : List Nat) (n : Nat) (body : M Res) : FM := fun vs => if vs.length = np then runF io n body vs else none
/-- THE RULE, own lists and dicts among the parameters -/
theorem dcF {x qual : Str} {st : Stmt} {f : Addr} {fd : FuncData} {N ps : List Str} {k : Nat} {io ms : List Nat} {body : M Res} (F : Fun K x qual st f fd) (g : mg x = some (.ref f)) (bd : Binds K fd ps []) (S : FnScope N ps (defScope st)) (hio : ∀ i ∈ io, i ∉ ms)
    (hbody : ∀ (cdv : Value) (A : Around) (outer : List Env) (s : Shared) (H : Hp) (E : XK), RoomG k (A.deeper (envOfC qual (defScope st) s.heap.objs.size f cdv)) → FSs (cxOf CX0 P w K mg base N qual (defScope st) f cdv A outer s H E).nox NoX (defBody st) ms body) :
    FC P w K mg base (k + 1) x ps (fnF ps.length io N.length body) := by
  refine ⟨⟨f, fd, fnD F S (fun ds S Q h => ?_) (wS NoX ms body) hbody (fun ds S1 Q h => ?_), g, F.kp, bd⟩, fun vs o vs' h => ?_⟩
  · obtain ⟨vs, fp, v, vs', ol, nd, e, k⟩ := h
    rw [ol.length]
    unfold fnF at e
    split at e
    · assumption
    · cases e
  · obtain ⟨vs, fp, v, vs', ol, nd, e, k⟩ := h
    unfold fnF at e
    split at e
    · have len := ol.length
      have st0 : St S1 (startP N.length vs) (startD N ds) fp := ⟨by
        unfold startP startD
        rw [len]
        exact own_start _ ol, nd⟩
      have fin : ∀ {ε' : PEnv} {S' : SD} {fp' fq : List Addr} {ε'' : ED} {d : D} {v : PV}, OwnE S' ε' ε'' fp' → Agree ms (startD N ds) ε'' → outsF io 0 vs ε' = some vs' → (∀ S' fp' fq d, OwnL S' vs' ds fp' → Own S' v d fq → (fp' ++ fq).Nodup → Nx S1 fp S' (fp' ++ fq) → Q d S') →
          Own S' v d fq → (fp' ++ fq).Nodup → Nx S1 fp S' (fp' ++ fq) → Q d S' := fun {ε' S' fp' fq ε'' d v} own ag e2 k ov nd2 n2 => by
        obtain ⟨f1, fr, ol2, pm⟩ := outs_ok ol own e2 fun j d hc hj => by
          rw [Nat.zero_add] at hc ⊢
          have hin : j ∈ io := by simpa using hc
          rw [ag j (hio j hin)]
          exact startD_get hj
        have sub : ∀ a ∈ f1, a ∈ fp' := fun a ha => pm.symm.mem_iff.mp (List.mem_append_left _ ha)
        obtain ⟨m1, m2, m3⟩ := app_nodup nd2
        refine k S' f1 fq d ol2 ov (nodup_app (app_nodup (perm_nodup pm m1)).1 m2 fun a ha hb => m3 a (sub a ha) hb) (n2.trans (Nx.sub fun a ha => ?_))
        exact (List.mem_append.mp ha).elim (fun z => List.mem_append_left _ (sub a z)) (List.mem_append_right _)
      unfold runF at e
      split at e
      · rename_i v1 ε1 e1
        split at e
        · rename_i ps2 e2
          cases e
          exact ⟨_, fp, _, ε1, st0, e1, fun S' fp' ε'' own ag fq d ov nd2 n2 => .of (fin own ag e2 k ov nd2 n2)⟩
        · cases e
      · rename_i ε1 e1
        split at e
        · rename_i ps2 e2
          cases e
          exact ⟨_, fp, _, ε1, st0, e1, fun S' fp' ε'' own ag nd2 n2 => .of (fin own ag e2 k own_val (by rw [List.append_nil]; exact nd2) (by rw [List.append_nil]; exact n2))⟩
        · cases e
      · cases e
    · cases e
  · unfold fnF at h
    split at h
    · exact runF_ok _ _ _ h
    · cases h
def runP (n : Nat) (body : M Res) : List D → Option D := fun ds => match body (startP n (ds.map .val)) with
  | some (.ok (.rt (.val d)), _) => some d
  | some (.ok .nx, _) => some .non
  | _ => none
theorem own_vals {S : SD} : ∀ ds : List D, OwnL S (ds.map .val) ds []
  | [] => ownL_nil
  | d :: ds => ownL_cons (f1 := []) (f2 := []) own_val (own_vals ds)
def fnP (np n : Nat) (body : M Res) : List D → Option D := fun ds => if ds.length = np then runP n body ds else none
/-- THE RULE, values alone -/
theorem fdP {x qual : Str} {st : Stmt} {f : Addr} {fd : FuncData} {N ps : List Str} {k : Nat} {ms : List Nat} {body : M Res} (F : Fun K x qual st f fd) (S : FnScope N ps (defScope st))
    (hbody : ∀ (cdv : Value) (A : Around) (outer : List Env) (s : Shared) (H : Hp) (E : XK), RoomG k (A.deeper (envOfC qual (defScope st) s.heap.objs.size f cdv)) → FSs (cxOf CX0 P w K mg base N qual (defScope st) f cdv A outer s H E).nox NoX (defBody st) ms body) :
    FnD P w K mg base (k + 1) f fd ps (spP (fnP ps.length N.length body)) := by
  refine fnD F S (fun ds S Q ⟨d, e, _⟩ => ?_) (wS NoX ms body) hbody (fun ds S1 Q ⟨d, e, q⟩ => ?_)
  · unfold fnP at e
    split at e
    · assumption
    · cases e
  · unfold fnP at e
    split at e
    · have st0 : St S1 (startP N.length (ds.map .val)) (startD N ds) [] := ⟨by
        unfold startP startD
        rw [List.length_map]
        exact own_start _ (own_vals ds), List.nodup_nil⟩
      have sub : ∀ {S' : SD} {fp' : List Addr}, Nx S1 [] S' fp' → Sub S1 S' := fun n a c h => ⟨c, n.ext a c (by simp) h, Cell.le_refl c⟩
      unfold runP at e
      split at e
      · rename_i d1 ε1 e1
        cases e
        exact ⟨_, [], _, ε1, st0, e1, fun S' fp' ε'' own ag fq d ov nd2 n2 => by
          cases ov.val.1
          exact ⟨S1, sub n2, q⟩⟩
      · rename_i ε1 e1
        cases e
        exact ⟨_, [], _, ε1, st0, e1, fun S' fp' ε'' own ag nd2 n2 => ⟨S1, sub n2, q⟩⟩
      · cases e
    · cases e
theorem dcP {x qual : Str} {st : Stmt} {f : Addr} {fd : FuncData} {N ps : List Str} {k : Nat} {ms : List Nat} {body : M Res} (F : Fun K x qual st f fd) (g : mg x = some (.ref f)) (bd : Binds K fd ps []) (S : FnScope N ps (defScope st))
    (hbody : ∀ (cdv : Value) (A : Around) (outer : List Env) (s : Shared) (H : Hp) (E : XK), RoomG k (A.deeper (envOfC qual (defScope st) s.heap.objs.size f cdv)) → FSs (cxOf CX0 P w K mg base N qual (defScope st) f cdv A outer s H E).nox NoX (defBody st) ms body) :
    DC P w K mg base (k + 1) x ps (spP (fnP ps.length N.length body)) := ⟨f, fd, fdP F S hbody, g, F.kp, bd⟩
end
end FL

namespace FL
open PySem PySem.Spec PyProof.Rows L2 DL
variable [Amb] [Cbs]

def asD : PV → Option D
  | .val d => some d
  | .lst ds => some (.tup ds)
  | _ => none
def mGetA (i : Nat) : M PV := fun ε => match ε[i]? with
  | some (some (.val d)) => some (.ok (.val d), ε)
  | some (some (.lst ds)) => some (.ok (.lst ds), ε)
  | _ => none
section
variable {XD : XT} {ε : ED} {S : SD}
/-- the value x stands for what the slot holds -/
def Stands (S : SD) (v : PV) (x : D) : Prop := match v with
  | .val d => x = d
  | .lst ds => ∃ a, x = .ref a ∧ S a = some (.lst ds)
  | _ => False
theorem wM_getA {i : Nat} {Q : PV → SD → Prop} (h : wM XD (mGetA i) ε S Q) : ∃ x v, ε[i]? = some (some x) ∧ Stands S v x ∧ Q v S := by
  obtain ⟨εp, fp, o, εp', st, e, k⟩ := h
  unfold mGetA at e
  split at e
  · rename_i d hd
    cases e
    obtain ⟨x, fq, e1, ov, _⟩ := st.slot hd
    exact ⟨x, .val d, e1, (show x = d from ov.val.1), k S fp st Nx.refl⟩
  · rename_i ds hd
    cases e
    obtain ⟨x, fq, e1, ov, _⟩ := st.slot hd
    obtain ⟨a, rfl, _, ha⟩ := ov.lst
    exact ⟨_, .lst ds, e1, ⟨a, rfl, ha⟩, k S fp st Nx.refl⟩
  · cases e
end
section
variable {X : Cx} {XD : XT} {a b c e o l tg : Expr} {es : List Expr} {pa pb pc : M D} {pas : M (List D)} {pf : M (List D)} {po : M PV} {pl : M (List PArg)} {pos p apos cpos : Pos} {i : Nat} {ms : List Nat}
def mIxA (i : Nat) (pb : M D) : M D := mBind (mGetA i) fun _ => mBind pb fun y => mBind (mGetA i) fun v => mLift ((asD v).bind fun x => fIx x y)
theorem fe_ixA (hu : X.A.units + 1 < cLine) (ha : DE X a (dVar i)) (hb : FE X XD b pb) (hs : PlainIx b := by intro _ _; rfl) : FE X XD (.Subscript a b pos) (mIxA i pb) :=
  DE_imp (de_ixE hu ha hb hs) fun ε S Q h => by
    obtain ⟨x, v, e1, _, h⟩ := wM_getA (wM_bind h)
    refine ⟨x, e1, wM_imp (wM_bind h) fun y S1 h => ?_⟩
    obtain ⟨x2, v2, e2, sv, h⟩ := wM_getA (wM_bind h)
    cases slot_eq e1 e2
    obtain ⟨d, e3, h'⟩ := wM_lift h
    obtain ⟨z, e4, e5⟩ := Option.bind_eq_some_iff.mp e3
    cases v2 with
    | val d0 =>
      cases e4
      cases (show x = z from sv)
      exact fIx_r e5 h'
    | lst ds =>
      cases e4
      obtain ⟨q, rfl, hq⟩ := sv
      obtain ⟨j, rfl, e6⟩ := fIx_tup e5
      exact ⟨ds, hq, d, e6, h'⟩
    | _ => exact sv.elim
def mLenA (i : Nat) : M D := mBind (mGetA i) fun v => mLift ((asD v).bind fun x => fLen [x])
theorem fe_lenA (hg : Gl X "len") (hm : X.mg "len" = none) (ha : DE X a (dVar i)) (he : starEach [a] X.env = (false, eval a X.env) :: starEach [] X.env := by rfl) (hpl : (backTo pos (starEach [] X.env)).any (·.1) = false := by rfl) : FE X XD (.Call (.Name "len" p) [a] [] pos) (mLenA i) :=
  DE_imp (de_callB dc_len hg hm PySem.boot_len (da_cons ha da_nil he) (he := he) (hpl := hpl)) fun ε S Q h => by
    obtain ⟨x, v, e1, sv, h⟩ := wM_getA (wM_bind h)
    obtain ⟨d, e3, h'⟩ := wM_lift h
    obtain ⟨z, e4, e5⟩ := Option.bind_eq_some_iff.mp e3
    refine ⟨x, e1, x, rfl, ?_⟩
    cases v with
    | val d0 =>
      cases e4
      cases (show x = z from sv)
      unfold fLen at e5
      split at e5
      · rename_i hx; cases hx; cases e5; exact .inl ⟨_, .inl rfl, h'⟩
      · rename_i hx; cases hx; cases e5; exact .inl ⟨_, .inr (.inl rfl), h'⟩
      · rename_i hx
        cases hx
        split at e5
        · cases e5; exact .inr (.inl ⟨_, rfl, by assumption, h'⟩)
        · cases e5
      · cases e5
    | lst ds =>
      cases e4
      obtain ⟨q, rfl, hq⟩ := sv
      cases e5
      exact .inl ⟨ds, .inr (.inr ⟨q, rfl, hq⟩), h'⟩
    | _ => exact sv.elim
theorem PI_or {t u : TI} (h : PI X tg l t) (g : PI X tg l u) : PI X tg l (fun σ H R => t σ H R ∨ u σ H R) := ⟨fun pins s σ H R I q => q.elim (h.run pins s σ H R I) (g.run pins s σ H R I)⟩
theorem DI_or {t u : DTI} (h : DI X tg l t) (g : DI X tg l u) : DI X tg l (fun ε S R => t ε S R ∨ u ε S R) :=
  PI_imp (PI_or h g) fun σ H R ⟨ε, S, R0, rE, rS, q, k⟩ => q.elim (fun q => .inl ⟨ε, S, R0, rE, rS, q, k⟩) fun q => .inr ⟨ε, S, R0, rE, rS, q, k⟩
def mItA (i : Nat) : M (List D) := fun ε => match ε[i]? with
  | some (some (.val (.tup ds))) => some (.ok ds, ε)
  | some (some (.val (.ilst ds))) => some (.ok ds, ε)
  | some (some (.lst ds)) => some (.ok ds, ε)
  | _ => none
def cSlotA (i : Nat) : List D → PEnv → Bool := fun ds ε => match ε[i]? with
  | some (some (.lst es)) => sameL ds es
  | some (some (.val (.tup es))) => sameL ds es
  | some (some (.val (.ilst es))) => sameL ds es
  | _ => false
theorem fi_any (hl : DE X l (dVar i)) (hi : i ∉ ms := by decide) : FI X XD tg l ms (mItA i) (cSlotA i) := DI_imp (DI_or (di_list hl) (di_tup hl)) fun ε S R h => by
  obtain ⟨εp, fp, o, εp', st, e, k⟩ := h
  unfold mItA at e
  split at e
  · rename_i ds hd
    cases e
    obtain ⟨x, fq, e1, ov, _⟩ := st.slot hd
    cases ov.val.1
    exact .inr ⟨_, e1, ds, rfl, k S fp st Nx.refl _ fun _ _ _ _ _ _ _ _ => trivial⟩
  · rename_i ds hd
    cases e
    obtain ⟨x, fq, e1, ov, _⟩ := st.slot hd
    cases ov.val.1
    exact .inl ⟨_, e1, ds, .inl ⟨rfl, k S fp st Nx.refl _ fun _ _ _ _ _ _ _ _ => trivial⟩⟩
  · rename_i ds hd
    cases e
    obtain ⟨x, fq, e1, ov, _⟩ := st.slot hd
    obtain ⟨q, rfl, _, hq⟩ := ov.lst
    refine .inl ⟨_, e1, ds, .inr ⟨q, rfl, hq, k S fp st Nx.refl _ fun S2 εp2 ε2 fp2 st2 _ ag hc => ?_⟩⟩
    have e3 := ag i hi
    unfold cSlotA at hc
    split at hc
    · rename_i es he
      cases sameL_eq hc
      obtain ⟨d2, fq2, e2, ow2, _⟩ := st2.slot he
      obtain ⟨b, rfl, rfl, hb⟩ := ow2.lst
      rw [e2, e1] at e3
      cases e3
      exact hb
    · rename_i es he
      obtain ⟨d2, fq2, e2, ow2, _⟩ := st2.slot he
      cases ow2.val.1
      rw [e2, e1] at e3
      cases e3
    · rename_i es he
      obtain ⟨d2, fq2, e2, ow2, _⟩ := st2.slot he
      cases ow2.val.1
      rw [e2, e1] at e3
      cases e3
    · cases hc
  · cases e
def keyOf : D → Option Key
  | .int i => some (.inl i)
  | .str x => some (.inr x)
  | _ => none
theorem keyOf_eq {d : D} {k : Key} (h : keyOf d = some k) : d = keyD k := by
  cases d <;> simp [keyOf] at h <;> subst h <;> rfl
def dLook : List Key → List PV → Key → Option PV
  | k0 :: ks, p :: ps, k => if k0 = k then some p else dLook ks ps k
  | _, _, _ => none
/-- the first of a key is another one -/
def dRepl : List Key → List PV → Key → PV → List PV
  | k0 :: ks, p :: ps, k, q => if k0 = k then q :: ps else p :: dRepl ks ps k q
  | _, ps, _, _ => ps
theorem look_none {S : SD} : ∀ {ks : List Key} {ps : List PV} {ds : List D} {fq : List Addr} {k : Key}, OwnL S ps ds fq → ks.length = ps.length → dLook ks ps k = none → valD (ks.zip ds) k = none
  | [], ps, ds, fq, k, ol, hl, h => by simp [valD]
  | k0 :: ks, [], ds, fq, k, ol, hl, h => nomatch hl
  | k0 :: ks, p :: ps, ds, fq, k, ol, hl, h => by
    obtain ⟨d, r, f1, f2, rfl, rfl, h1, h2⟩ := ol.cons
    unfold dLook at h
    split at h
    · cases h
    · rename_i hk
      rw [List.zip_cons_cons, valD_neg hk]
      exact look_none h2 (by simpa using hl) h
theorem look_some {S : SD} : ∀ {ks : List Key} {ps : List PV} {ds : List D} {fq : List Addr} {k : Key} {p : PV}, OwnL S ps ds fq → ks.length = ps.length → dLook ks ps k = some p →
    ∃ d f1 f2 f3, valD (ks.zip ds) k = some d ∧ fq = f1 ++ (f2 ++ f3) ∧ Own S p d f2 ∧ ∀ S' p' f2', (∀ a ∈ f1, S' a = S a) → (∀ a ∈ f3, S' a = S a) → Own S' p' d f2' → OwnL S' (dRepl ks ps k p') ds (f1 ++ (f2' ++ f3))
  | [], ps, ds, fq, k, p, ol, hl, h => by simp [dLook] at h
  | k0 :: ks, [], ds, fq, k, p, ol, hl, h => nomatch hl
  | k0 :: ks, q :: ps, ds, fq, k, p, ol, hl, h => by
    obtain ⟨d, r, f1, f2, rfl, rfl, h1, h2⟩ := ol.cons
    unfold dLook at h
    split at h
    · rename_i hk
      cases h
      refine ⟨d, [], f1, f2, by rw [List.zip_cons_cons, valD_pos hk], rfl, h1, fun S' p' f2' _ a3 o' => ?_⟩
      unfold dRepl
      rw [if_pos hk]
      exact (show OwnL S' (p' :: ps) (d :: r) (f2' ++ f2) from ownL_cons o' (h2.frame _ a3))
    · rename_i hk
      obtain ⟨d', g1, g2, g3, e1, rfl, o2, w⟩ := look_some h2 (by simpa using hl) h
      refine ⟨d', f1 ++ g1, g2, g3, by rw [List.zip_cons_cons, valD_neg hk]; exact e1, by rw [List.append_assoc], o2, fun S' p' f2' a1 a3 o' => ?_⟩
      unfold dRepl
      rw [if_neg hk, List.append_assoc]
      exact ownL_cons (h1.frame _ fun a ha => a1 a (List.mem_append_left _ ha)) (w S' p' f2' (fun a ha => a1 a (List.mem_append_right _ ha)) a3 o')
theorem dRepl_len : ∀ (ks : List Key) (ps : List PV) (k : Key) (q : PV), (dRepl ks ps k q).length = ps.length
  | [], ps, k, q => rfl
  | k0 :: ks, [], k, q => rfl
  | k0 :: ks, p :: ps, k, q => by
    unfold dRepl
    split
    · rfl
    · rw [List.length_cons, List.length_cons, dRepl_len]
def mGetD (i : Nat) (k : Key) : M (Option PV) := fun ε => match ε[i]? with
  | some (some (.dic ks ps)) => some (.ok (dLook ks ps k), ε)
  | _ => none
section
variable {ε : ED} {S : SD}
theorem wM_getD {k : Key} {Q : Option PV → SD → Prop} (h : wM XD (mGetD i k) ε S Q) : ∃ q kvs, ε[i]? = some (some (.ref q)) ∧ S q = some (.dic kvs) ∧ ((valD kvs k = none ∧ Q none S) ∨ ∃ p d f, valD kvs k = some d ∧ Own S p d f ∧ Q (some p) S) := by
  obtain ⟨εp, fp, o, εp', st, e, w⟩ := h
  unfold mGetD at e
  split at e
  · rename_i ks ps hd
    cases e
    obtain ⟨x, fq, e1, ov, _⟩ := st.slot hd
    obtain ⟨q, ds, f, rfl, rfl, hq, hl, ol⟩ := ov.dic
    refine ⟨q, _, e1, hq, ?_⟩
    have w1 := w S fp st Nx.refl
    cases hk : dLook ks ps k with
    | none =>
      rw [hk] at w1
      exact .inl ⟨look_none ol hl hk, w1⟩
    | some p =>
      rw [hk] at w1
      obtain ⟨d, f1, f2, f3, e2, _, o2, _⟩ := look_some ol hl hk
      exact .inr ⟨p, d, f2, e2, o2, w1⟩
  · cases e
end
def optV : Option PV → Option D
  | some (.val d) => some d
  | _ => none
/-- d[k] -/
def keyS : D → Option Key
  | .str x => some (.inr x)
  | _ => none
theorem keyS_eq {d : D} {k : Key} (h : keyS d = some k) : ∃ x, d = .str x ∧ k = .inr x := by
  cases d <;> simp [keyS] at h
  exact ⟨_, rfl, h.symm⟩
def mIsD (i : Nat) : M Unit := fun ε => match ε[i]? with
  | some (some (.dic _ _)) => some (.ok (), ε)
  | _ => none
theorem wM_isD {ε : ED} {S : SD} {Q : Unit → SD → Prop} (h : wM XD (mIsD i) ε S Q) : ∃ q kvs, ε[i]? = some (some (.ref q)) ∧ S q = some (.dic kvs) ∧ Q () S := by
  obtain ⟨εp, fp, o, εp', st, e, w⟩ := h
  unfold mIsD at e
  split at e
  · rename_i ks ps hd
    cases e
    obtain ⟨x, fq, e1, ov, _⟩ := st.slot hd
    obtain ⟨q, ds, f, rfl, rfl, hq, hl, ol⟩ := ov.dic
    exact ⟨q, _, e1, hq, w S fp st Nx.refl⟩
  · cases e
def mIxK (i : Nat) (pb : M D) : M D := mBind (mIsD i) fun _ => mBind pb fun y => mBind (mLift (keyS y)) fun k => mBind (mGetD i k) fun v => mLift (optV v)
theorem optV_own {S : SD} {p : PV} {d d' : D} {f : List Addr} (h : optV (some p) = some d) (o : Own S p d' f) : d' = d := by
  cases p with
  | val x =>
    cases h
    exact o.val.1
  | _ => cases h
theorem fe_ixK (hu : X.A.units + 1 < cLine) (ha : DE X a (dVar i)) (hb : FE X XD b pb) (hs : PlainIx b := by intro _ _; rfl) : FE X XD (.Subscript a b pos) (mIxK i pb) :=
  DE_imp (de_ixE hu ha hb hs) fun ε S Q h => by
    obtain ⟨q, _, e1, _, h⟩ := wM_isD (wM_bind h)
    refine ⟨.ref q, e1, wM_imp (wM_bind h) fun y S1 h => ?_⟩
    obtain ⟨k, e2, h⟩ := wM_lift (wM_bind h)
    obtain ⟨z, rfl, rfl⟩ := keyS_eq e2
    obtain ⟨q2, kvs, e3, hq, h⟩ := wM_getD (wM_bind h)
    cases slot_eq e1 e3
    rcases h with ⟨_, h⟩ | ⟨p, d, f, e4, ov, h⟩
    · obtain ⟨d, e5, _⟩ := wM_lift h
      cases e5
    · obtain ⟨d', e5, h'⟩ := wM_lift h
      cases optV_own e5 ov
      exact ⟨kvs, hq, d, e4, h'⟩
def mGet2 (i : Nat) (pa pb : M D) : M D := mBind (mIsD i) fun _ => mBind pa fun y => mBind pb fun z => mBind (mLift (keyOf y)) fun k => mBind (mGetD i k) fun v => mLift (match v with | none => some z | v => optV v)
theorem fe_get2 (hu : X.A.units + 1 < cLine) (ho : DE X o (dVar i)) (ha : FE X XD a pa) (hb : FE X XD b pb) (m : M2 X o "get" apos a b cpos := by exact ⟨rfl, rfl, rfl, rfl⟩) : FE X XD (.Call (.Attribute o "get" apos) [a, b] [] cpos) (mGet2 i pa pb) :=
  DE_imp (de_get2 hu ho ha hb m) fun ε S Q h => by
    obtain ⟨q, kvs0, e1, hq0, h⟩ := wM_isD (wM_bind h)
    refine ⟨.ref q, e1, q, rfl, ⟨kvs0, hq0⟩, wM_imp (wM_bind h) fun y S1 h => wM_imp (wM_bind h) fun z S2 h => ?_⟩
    obtain ⟨k, e2, h⟩ := wM_lift (wM_bind h)
    obtain ⟨q2, kvs, e3, hq, h⟩ := wM_getD (wM_bind h)
    cases slot_eq e1 e3
    refine ⟨kvs, k, hq, keyOf_eq e2, ?_⟩
    rcases h with ⟨e4, h⟩ | ⟨p, d, f, e4, ov, h⟩
    · obtain ⟨d, e5, h'⟩ := wM_lift h
      cases e5
      rw [e4]
      exact h'
    · obtain ⟨d', e5, h'⟩ := wM_lift h
      cases optV_own (show optV (some p) = some d' from e5) ov
      rw [e4]
      exact h'
def mInD (neg : Bool) (pa : M D) (i : Nat) : M D := mBind pa fun y => mBind (mLift (keyOf y)) fun k => mBind (mGetD i k) fun v => mPure (.bl (if neg then !v.isSome else v.isSome))
theorem wM_inD {neg : Bool} {ε : ED} {S : SD} {Q : DK} (h : wM XD (mInD neg pa i) ε S Q) : dOp (mIn neg) (wM XD pa) (dVar i) ε S Q :=
  wM_imp (wM_bind h) fun x S1 h => by
    obtain ⟨k, e2, h⟩ := wM_lift (wM_bind h)
    obtain ⟨q, kvs, e3, hq, h⟩ := wM_getD (wM_bind h)
    refine ⟨.ref q, e3, .inr ⟨kvs, k, hq, keyOf_eq e2, ?_⟩⟩
    rcases h with ⟨e4, h⟩ | ⟨p, d, f, e4, ov, h⟩
    · rw [e4]
      exact wM_pure h
    · rw [e4]
      exact wM_pure h
theorem fe_inD (hu : X.A.units + 1 < cLine) (ha : FE X XD a pa) (hb : DE X b (dVar i)) (hm : behindInMarks .In b = false := by first | exact nomark _ | with_unfolding_all rfl) : FE X XD (.Compare a [.In] [b] pos) (mInD false pa i) :=
  DE_imp (de_cmp (dm_in hu) ha hb hm) fun _ _ _ => wM_inD
theorem fe_notInD (hu : X.A.units + 1 < cLine) (ha : FE X XD a pa) (hb : DE X b (dVar i)) (hm : behindInMarks .NotIn b = false := by first | exact nomark _ | with_unfolding_all rfl) : FE X XD (.Compare a [.NotIn] [b] pos) (mInD true pa i) :=
  DE_imp (de_cmp (dm_notIn hu) ha hb hm) fun _ _ _ => wM_inD
theorem ft_inD (hu : X.A.units + 1 < cLine) (ha : FE X XD a pa) (hb : DE X b (dVar i)) (hm : behindInMarks .In b = false := by first | exact nomark _ | with_unfolding_all rfl) : FT X XD (.Compare a [.In] [b] pos) (mB (mInD false pa i)) :=
  DT_imp (dt_cmp (dm_in hu) ha hb hm) fun _ _ _ h => dB_imp (fun _ _ _ => wM_inD) (wM_B h)
theorem ft_notInD (hu : X.A.units + 1 < cLine) (ha : FE X XD a pa) (hb : DE X b (dVar i)) (hm : behindInMarks .NotIn b = false := by first | exact nomark _ | with_unfolding_all rfl) : FT X XD (.Compare a [.NotIn] [b] pos) (mB (mInD true pa i)) :=
  DT_imp (dt_cmp (dm_notIn hu) ha hb hm) fun _ _ _ h => dB_imp (fun _ _ _ => wM_inD) (wM_B h)
def mNs : List (Key × M PV) → M (List PArg)
  | [] => mPure []
  | (_, p) :: r => mArgN p (mNs r)
theorem wL_ns {ε : ED} : ∀ {l : List (Key × M PV)} {S : SD} {Q : List (Key × D) → SD → Prop}, wL XD (mNs l) ε S (fun ds S1 => Q ((l.map (·.1)).zip ds) S1) → dPairs (l.map fun kp => (kp.1, wO XD kp.2)) ε S Q
  | [], S, Q, h => wL_nil h
  | (k, p) :: r, S, Q, h => by
    obtain ⟨εp, fp, o, εp', st, e, w⟩ := wL_argN h
    refine ⟨εp, fp, o, εp', st, e, ?_⟩
    cases o with
    | ex x => exact w
    | ok v => exact fun S1 fp1 fq d own ov nd n => wL_ns (Q := fun ps S2 => Q ((k, d) :: ps) S2) (w S1 fp1 fq d own ov nd n)
def pvs : List PArg → List PV
  | [] => []
  | .n p :: r => p :: pvs r
  | .v d :: r => .val d :: pvs r
  | .s _ :: r => pvs r
def mDisp (l : List (Key × M PV)) : M PV := fun ε => match mNs l ε with
  | none => none
  | some (.ok as, ε') => if as.length = l.length then some (.ok (.dic (l.map (·.1)) (pvs as)), ε') else none
  | some (.ex e, ε') => some (.ex e, ε')
theorem ns_n : ∀ {l : List (Key × M PV)} {as : List PArg} {εp εp' : PEnv}, mNs l εp = some (.ok as, εp') → ∀ a ∈ as, ∃ p, a = .n p
  | [], as, εp, εp', h, a, ha => by cases h; cases ha
  | (k, p) :: r, as, εp, εp', h, a, ha => by
    unfold mNs mArgN at h
    split at h
    · cases h
    · rcases map_inv h with ⟨as', e, h'⟩ | ⟨x, e, _⟩
      · cases e
        rcases List.mem_cons.mp ha with rfl | ha
        · exact ⟨_, rfl⟩
        · exact ns_n h' a ha
      · cases e
    · cases h
theorem pvs_own {S : SD} {ε : ED} : ∀ {as : List PArg} {ds : List D} {fq : List Addr}, (∀ a ∈ as, ∃ p, a = .n p) → ArgR S ε as ds fq → OwnL S (pvs as) ds fq ∧ (pvs as).length = as.length
  | [], ds, fq, h, ar => by
    obtain ⟨rfl, rfl⟩ := ar
    exact ⟨ownL_nil, rfl⟩
  | a :: as, ds, fq, h, ar => by
    obtain ⟨p, rfl⟩ := h _ List.mem_cons_self
    obtain ⟨d, rd, f1, f2, rfl, rfl, o1, ar⟩ := ar
    obtain ⟨o2, l2⟩ := pvs_own (fun b hb => h b (List.mem_cons_of_mem _ hb)) ar
    exact ⟨ownL_cons o1 o2, by show (pvs as).length + 1 = _; rw [l2]; rfl⟩
theorem wO_disp {l : List (Key × M PV)} {ε : ED} {S : SD} {Q : DK} (h : wO XD (mDisp l) ε S Q) : dDisp (l.map fun kp => (kp.1, wO XD kp.2)) ε S Q := by
  obtain ⟨εp, fp, o, εp', st, e, w⟩ := h
  refine wL_ns (Q := fun ps S1 => ∀ p, S1 p = none → Q (.ref p) (put S1 p (.dic ps))) ?_
  unfold mDisp at e
  split at e
  · cases e
  · rename_i as ε1 e1
    split at e
    · rename_i hl
      cases e
      refine ⟨εp, fp, .ok as, _, st, e1, fun S1 fp1 fq ds own ar nd n q hq => ?_⟩
      obtain ⟨ol, l2⟩ := pvs_own (ns_n e1) ar
      obtain ⟨n1, n2, n3⟩ := app_nodup nd
      obtain ⟨f1, f2⟩ := fresh_frame (c := .dic ((l.map (·.1)).zip ds)) hq own.dom
      obtain ⟨g1, g2⟩ := fresh_frame (c := .dic ((l.map (·.1)).zip ds)) hq ol.dom
      refine w _ fp1 (q :: fq) (.ref q) (own.frame f1) (own_dic put_same (by rw [l2, hl, List.length_map]) (ol.frame _ g1)) (nodup_app n1 (List.nodup_cons.mpr ⟨g2, n2⟩) fun a ha hb => ?_) ?_
      · rcases List.mem_cons.mp hb with rfl | hb
        · exact f2 ha
        · exact n3 a ha hb
      · refine n.trans ((nx_new (fp := fp1 ++ fq) (c := .dic ((l.map (·.1)).zip ds)) hq).perm (fun _ => Iff.rfl) fun a ha => ?_)
        rcases List.mem_append.mp ha with ha | ha
        · exact List.mem_append_left _ (List.mem_append_left _ ha)
        · rcases List.mem_cons.mp ha with rfl | ha
          · exact List.mem_append_right _ (by simp)
          · exact List.mem_append_left _ (List.mem_append_right _ ha)
    · cases e
  · rename_i x ε1 e1
    cases e
    exact ⟨εp, fp, .ex x, _, st, e1, w⟩
structure FPs (X : Cx) (XD : XT) (pos : Pos) (keys : List (Option Expr)) (values : List Expr) (l : List (Key × M PV)) : Prop where
  p : DPPs X pos keys values (l.map fun kp => (kp.1, wO XD kp.2))
theorem fpp_nil : FPs X XD pos [] [] [] := ⟨dpp_nil⟩
theorem fpp_cons {x : Str} {j : Nat} {p0 : Pos} {v : Expr} {ks : List (Option Expr)} {vs : List Expr} {r : List (Key × M PV)} (hv : FO X XD v po) (hr : FPs X XD pos ks vs r) :
    FPs X XD pos (some (.Constant (.str x) j p0) :: ks) (v :: vs) ((.inr x, po) :: r) := ⟨dpp_cons hv hr.p⟩
theorem fo_disp {keys : List (Option Expr)} {values : List Expr} {l : List (Key × M PV)} (h : FPs X XD pos keys values l) (hn : (l.map (·.1)).Nodup := by decide) (hall : keys.all (·.isSome) = true := by rfl) (hl : keys.length = values.length := by rfl)
    (h0 : keys ≠ [] := by simp) (h15 : keys.length ≤ 15 := by decide) (h15' : l.length ≤ 15 := by decide) : FO X XD (.Dict keys values pos) (mDisp l) :=
  DE_imp (de_disp h.p (by rw [List.map_map]; exact hn) hall hl h0 h15 (by rw [List.length_map]; exact h15')) fun _ _ _ => wO_disp
def mRetT (pl : M (List PArg)) : M Res := fun ε => match pl ε with
  | none => none
  | some (.ex e, ε') => some (.ex e, ε')
  | some (.ok as, ε') => match takeA as ε' with
    | some (ps, ε2) => if as.length ≤ 1000 then some (.ok (.rt (.ptup ps)), ε2) else none
    | none => none
theorem argR_len {S : SD} {ε : ED} : ∀ {as : List PArg} {ds : List D} {fq : List Addr}, ArgR S ε as ds fq → ds.length = as.length
  | [], ds, fq, h => by rw [h.1]; rfl
  | .v d :: r, ds, fq, h => by
    obtain ⟨rd, rfl, h⟩ := h
    rw [List.length_cons, List.length_cons, argR_len h]
  | .s i :: r, ds, fq, h => by
    obtain ⟨d, rd, rfl, _, h⟩ := h
    rw [List.length_cons, List.length_cons, argR_len h]
  | .n p :: r, ds, fq, h => by
    obtain ⟨d, rd, f1, f2, rfl, _, _, h⟩ := h
    rw [List.length_cons, List.length_cons, argR_len h]
theorem fs_retT {x1 : Nat} {p2 : Pos} (ha : FLs X XD es pl) : FS X XD (.Return (some (.Tuple es x1 p2)) pos) [] (mRetT pl) :=
  DS_imp (ds_ret (de_tup ha)) fun D ε S h => by
    obtain ⟨εp, fp, o, εp', st, e, k⟩ := h
    unfold mRetT at e
    split at e
    · cases e
    · rename_i x ε1 e1
      cases e
      exact ⟨εp, fp, .ex x, _, st, e1, fun S1 fp1 st1 n1 => k S1 fp1 ε st1.own Agree.refl st1.nd n1⟩
    · rename_i as ε1 e1
      split at e
      · rename_i ps ε2 e2
        split at e
        · rename_i hl
          cases e
          refine ⟨εp, fp, .ok as, ε1, st, e1, fun S1 fp1 fq ds own ar nd n => ?_⟩
          obtain ⟨f, fr, ol, own2, pm⟩ := take_ok own ar e2
          have pm' := pm.trans List.perm_append_comm
          exact ⟨by rw [argR_len ar]; exact hl, k S1 fr ε own2 Agree.refl f (.tup ds) (own_ptup ol) (perm_nodup pm' nd) (n.perm (fun _ => Iff.rfl) fun a ha => pm'.symm.mem_iff.mp ha)⟩
        · cases e
      · cases e
/-- a, b = a call's own tuple -/
def putL : List (Nat × PV) → PEnv → Option PEnv
  | [], ε => some ε
  | (i, p) :: r, ε => if i < ε.length then putL r (ε.set i (some p)) else none
def mAsgT (is : List Nat) (po : M PV) : M Res := fun ε => match po ε with
  | none => none
  | some (.ex e, ε') => some (.ex e, ε')
  | some (.ok (.ptup ps), ε') => if ps.length = is.length then match putL (is.zip ps) ε' with
    | some ε2 => some (.ok .nx, ε2)
    | none => none
    else none
  | some (.ok _, _) => none
def dgNs : List Nat → DTGs
  | [] => dgNil
  | i :: is => dgCons (dgN i) (dgNs is)
theorem putL_ok {S : SD} : ∀ {is : List Nat} {ps : List PV} {εp εp' : PEnv} {ε : ED} {ds : List D} {fp fq : List Addr} {Q : ED → SD → Prop}, OwnE S εp ε fp → OwnL S ps ds fq → (fp ++ fq).Nodup → ps.length = is.length → putL (is.zip ps) εp = some εp' →
    (∀ ε' fp', OwnE S εp' ε' fp' → fp'.Nodup → (∀ a ∈ fp', a ∈ fp ++ fq) → Agree is ε ε' → Q ε' S) → dgNs is ds ε S Q
  | [], [], εp, εp', ε, ds, fp, fq, Q, own, ol, nd, hl, e, k => by
    obtain ⟨rfl, rfl⟩ := ol.nil
    cases e
    exact ⟨rfl, k ε fp own (app_nodup nd).1 (fun a ha => List.mem_append_left _ ha) Agree.refl⟩
  | i :: is, [], _, _, _, _, _, _, _, _, _, _, hl, _, _ => nomatch hl
  | [], a :: as, _, _, _, _, _, _, _, _, _, _, hl, _, _ => nomatch hl
  | i :: is, p :: ps, εp, εp', ε, ds, fp, fq, Q, own, ol, nd, hl, e, k => by
    obtain ⟨d, r, f1, f2, rfl, rfl, h1, h2⟩ := ol.cons
    have e' : (if i < εp.length then putL (is.zip ps) (εp.set i (some p)) else none) = some εp' := e
    split at e'
    · rename_i hi
      rw [← List.append_assoc] at nd
      obtain ⟨n1, n2, n3⟩ := app_nodup nd
      obtain ⟨g1, st1, s1⟩ := St.assign (d := d) own hi h1 n1
      have s1' : ∀ a ∈ g1, a ∈ fp ++ f1 := fun a ha => List.mem_append.mpr (s1 a ha)
      refine ⟨d, r, rfl, putL_ok st1.own h2 (nodup_app st1.nd n2 fun a ha hb => n3 a (s1' a ha) hb) (by simpa using hl) e' fun ε' fp' own' nd' sub ag => ?_⟩
      refine k ε' fp' own' nd' (fun a ha => ?_) (fun j hj => ?_)
      · rw [← List.append_assoc]
        exact (List.mem_append.mp (sub a ha)).elim (fun z => List.mem_append_left _ (s1' a z)) (List.mem_append_right _)
      · rw [ag j fun z => hj (List.mem_cons_of_mem _ z), List.getElem?_set_ne]
        rintro rfl
        exact hj List.mem_cons_self
    · cases e'
theorem fs_asgT {is : List Nat} {vs : List Nat} {n k : Nat} {ts : List Expr} {pt : Pos} (he : FO X XD e po) (hg : DG X (.Tuple ts k pt) vs (dgTup n (dgNs is))) (hn : n = is.length := by rfl) (hs : swapsWithSole [.Tuple ts k pt] e pos.line X.env = pure false := by rfl) (hw : swappedStores [.Tuple ts k pt] e X.env = pure none := by rfl)
    (h1 : (assignEach [.Tuple ts k pt] X.env).map (·.2) = [assign (.Tuple ts k pt) X.env] := by rfl) : FS X XD (.Assign [.Tuple ts k pt] e pos) is (mAsgT is po) :=
  DS_imp (ds_asg he hg hs hw h1) fun D ε S h => by
    obtain ⟨εp, fp, o, εp', st, e, k⟩ := h
    unfold mAsgT at e
    split at e
    · cases e
    · rename_i x ε1 e1
      cases e
      exact ⟨εp, fp, .ex x, _, st, e1, fun S1 fp1 st1 n1 => k S1 fp1 ε st1.own Agree.refl st1.nd n1⟩
    · rename_i ps ε1 e1
      split at e
      · rename_i hl
        split at e
        · rename_i ε2 e2
          cases e
          refine ⟨εp, fp, .ok (.ptup ps), ε1, st, e1, fun S1 fp1 fq d own ov nd n => ?_⟩
          obtain ⟨ds, rfl, ol⟩ := ov.ptup
          refine ⟨ds, rfl, by rw [ol.length, hl, hn], putL_ok own ol nd hl e2 fun ε' fp' own' nd' sub ag => ?_⟩
          exact k S1 fp' ε' own' ag nd' (n.trans (Nx.sub sub))
        · cases e
      · cases e
    · cases e
def dPut (ks : List Key) (ps : List PV) (k : Key) (d : D) : List Key × List PV :=
  if ks.any (fun k0 => decide (k0 = k)) = true then (ks, (ks.zip ps).map fun kp => if kp.1 = k then .val d else kp.2) else (ks ++ [k], ps ++ [.val d])
def mPutK (i : Nat) (k : Key) (d : D) : M Unit := fun ε => match ε[i]? with
  | some (some (.dic ks ps)) => if ks.length ≤ 1000000 then some (.ok (), ε.set i (some (.dic (dPut ks ps k d).1 (dPut ks ps k d).2))) else none
  | _ => none
theorem repl_own {S : SD} {k : Key} {d : D} : ∀ {ks : List Key} {ps : List PV} {ds : List D} {fq : List Addr}, OwnL S ps ds fq → ks.length = ps.length →
    ∃ fq', OwnL S ((ks.zip ps).map fun kp => if kp.1 = k then PV.val d else kp.2) ((ks.zip ds).map fun kv => if kv.1 = k then d else kv.2) fq' ∧ fq'.Sublist fq
  | [], ps, ds, fq, ol, hl => by
    cases ps with
    | nil => obtain ⟨rfl, rfl⟩ := ol.nil; exact ⟨[], ownL_nil, List.Sublist.refl _⟩
    | cons p ps => cases hl
  | k0 :: ks, [], ds, fq, ol, hl => nomatch hl
  | k0 :: ks, p :: ps, ds, fq, ol, hl => by
    obtain ⟨x, r, f1, f2, rfl, rfl, h1, h2⟩ := ol.cons
    obtain ⟨fq', o', sb⟩ := repl_own (k := k) (d := d) (ks := ks) h2 (by simpa using hl)
    simp only [List.zip_cons_cons, List.map_cons]
    by_cases hk : k0 = k
    · simp only [if_pos hk]
      exact ⟨[] ++ fq', ownL_cons own_val o', sb.trans (List.sublist_append_right _ _)⟩
    · simp only [if_neg hk]
      exact ⟨f1 ++ fq', ownL_cons h1 o', List.Sublist.append (List.Sublist.refl _) sb⟩
theorem zip_repl {k : Key} {d : D} : ∀ {ks : List Key} {ds : List D}, ks.length = ds.length → (ks.zip ds).map (fun kv => if kv.1 = k then (kv.1, d) else kv) = ks.zip ((ks.zip ds).map fun kv => if kv.1 = k then d else kv.2)
  | [], ds, h => by simp
  | k0 :: ks, [], h => nomatch h
  | k0 :: ks, x :: ds, h => by
    simp only [List.zip_cons_cons, List.map_cons]
    rw [zip_repl (k := k) (d := d) (by simpa using h)]
    by_cases hk : k0 = k
    · simp [hk]
    · simp [hk]
theorem any_zip {k : Key} : ∀ {ks : List Key} {ds : List D}, ks.length = ds.length → ((ks.zip ds).any fun kv => decide (kv.1 = k)) = ks.any fun k0 => decide (k0 = k)
  | [], ds, h => by simp
  | k0 :: ks, [], h => nomatch h
  | k0 :: ks, x :: ds, h => by
    simp only [List.zip_cons_cons, List.any_cons]
    rw [any_zip (by simpa using h)]
theorem append_own {S : SD} : ∀ {ps : List PV} {ds : List D} {fq : List Addr} {d : D}, OwnL S ps ds fq → OwnL S (ps ++ [.val d]) (ds ++ [d]) fq
  | [], ds, fq, d, ol => by
    obtain ⟨rfl, rfl⟩ := ol.nil
    exact ownL_cons (f1 := []) (f2 := []) own_val ownL_nil
  | p :: ps, ds, fq, d, ol => by
    obtain ⟨x, r, f1, f2, rfl, rfl, h1, h2⟩ := ol.cons
    exact ownL_cons h1 (append_own h2)
theorem wM_putK {k : Key} {d : D} {ε : ED} {S : SD} {Q : Unit → SD → Prop} (h : wM XD (mPutK i k d) ε S Q) : ∃ q kvs, ε[i]? = some (some (.ref q)) ∧ S q = some (.dic kvs) ∧ kvs.length ≤ 1000000 ∧ Q () (put S q (.dic (putD kvs k d))) := by
  obtain ⟨εp, fp, o, εp', st, e, w⟩ := h
  unfold mPutK at e
  split at e
  · rename_i ks ps hd
    split at e
    · rename_i hlen
      cases e
      obtain ⟨x, fq, e1, ov, ndq, g⟩ := st.slot hd
      obtain ⟨q, ds, f, rfl, rfl, hq, hl, ol⟩ := ov.dic
      have hld := ol.length
      have hkd : ks.length = ds.length := by omega
      refine ⟨q, _, e1, hq, by rw [List.length_zip]; omega, ?_⟩
      have hnq := (List.nodup_cons.mp ndq).1
      have key : ∃ f', Own (put S q (.dic (putD (ks.zip ds) k d))) (.dic (dPut ks ps k d).1 (dPut ks ps k d).2) (.ref q) (q :: f') ∧ f'.Sublist f := by
        unfold dPut putD
        rw [any_zip hkd]
        by_cases hc : ks.any (fun k0 => decide (k0 = k)) = true
        · simp only [if_pos hc]
          obtain ⟨f', o', sb⟩ := repl_own (k := k) (d := d) ol hl
          refine ⟨f', own_dic (by rw [put_same, zip_repl hkd]) (by rw [List.length_map, List.length_zip]; omega) (o'.frame _ fun a ha => put_ne ?_), sb⟩
          rintro rfl
          exact hnq (sb.subset ha)
        · simp only [if_neg hc]
          refine ⟨f, own_dic (ds := ds ++ [d]) (by rw [put_same, List.zip_append hkd]; rfl) (by simp [hl]) ((append_own ol).frame _ fun a ha => put_ne ?_), List.Sublist.refl _⟩
          rintro rfl
          exact hnq ha
      obtain ⟨f', ov', sb⟩ := key
      obtain ⟨fp', st', n⟩ := g _ _ _ ov' (List.nodup_cons.mpr ⟨fun z => hnq (sb.subset z), sb.nodup (List.nodup_cons.mp ndq).2⟩) ⟨fun a ha => .inl (by
        rcases List.mem_cons.mp ha with rfl | ha
        · exact List.mem_cons_self
        · exact List.mem_cons_of_mem _ (sb.subset ha)), fun a c ha hc => by
        rw [put_ne (by rintro rfl; exact ha List.mem_cons_self)]
        exact hc⟩
      exact w _ fp' st' n
    · cases e
  · cases e
def mSetK (i : Nat) (pe pi : M D) : M Res := mBind pe fun v => mBind (mIsD i) fun _ => mBind pi fun y => mBind (mLift (keyS y)) fun k => mBind (mPutK i k v) fun _ => mPure .nx
theorem fs_setK (hu : X.A.units + 1 < cLine) {o i' : Expr} {pos' : Pos} (he : FE X XD e pa) (ho : DE X o (dVar i)) (hi : FE X XD i' pb)
    (ha : ∀ v, assign (.Subscript o i' pos') X.env v = (do
      let ov ← holding [v] (eval o X.env)
      let iv ← holding [v, ov] (eval i' X.env)
      standAt pos'
      holding [v, ov, iv] (setItem ov iv v)
      release [v, ov, iv] []) := by intro _; rfl)
    (hs : swapsWithSole [.Subscript o i' pos'] e pos.line X.env = pure false := by rfl) (hw : swappedStores [.Subscript o i' pos'] e X.env = pure none := by rfl)
    (h1 : (assignEach [.Subscript o i' pos'] X.env).map (·.2) = [assign (.Subscript o i' pos') X.env] := by rfl) : FS X XD (.Assign [.Subscript o i' pos'] e pos) [] (mSetK i pa pb) :=
  DS_imp (ds_asg he (dg_sub ho hi (dset hu) ha) hs hw h1) fun D ε S h => wM_imp (wS_bind h) fun v S1 h => by
    obtain ⟨q, kvs0, e1, _, h3⟩ := wM_isD (wS_bind h)
    refine ⟨.ref q, e1, wM_imp (wS_bind h3) fun y S2 h4 => ?_⟩
    obtain ⟨k, e2, h5⟩ := wM_lift (wS_bind h4)
    obtain ⟨z, rfl, rfl⟩ := keyS_eq e2
    obtain ⟨q', kvs, e3, hq, hl, h6⟩ := wM_putK (wS_bind h5)
    cases slot_eq e1 e3
    refine ⟨kvs, hq, hl, ?_⟩
    obtain ⟨εp, fp, st, k⟩ := wS_pure h6
    exact k st.nd Nx.refl
def mGetKL (i : Nat) (k : Key) : M (List D) := fun ε => match ε[i]? with
  | some (some (.dic ks ps)) => match dLook ks ps k with
    | some (.lst ds) => some (.ok ds, ε)
    | _ => none
  | _ => none
def mModKL {α : Type} (i : Nat) (k : Key) (f : List D → Option (α × List D)) : M α := fun ε => match ε[i]? with
  | some (some (.dic ks ps)) => match dLook ks ps k with
    | some (.lst ds) => match f ds with
      | some (a, ds') => some (.ok a, ε.set i (some (.dic ks (dRepl ks ps k (.lst ds')))))
      | none => none
    | _ => none
  | _ => none
theorem wM_modKL {α : Type} {k : Key} {f : List D → Option (α × List D)} {ε : ED} {S : SD} {Q : α → SD → Prop} (h : wM XD (mModKL i k f) ε S Q) :
    ∃ q kvs a ds b ds', ε[i]? = some (some (.ref q)) ∧ S q = some (.dic kvs) ∧ valD kvs k = some (.ref a) ∧ S a = some (.lst ds) ∧ f ds = some (b, ds') ∧ Q b (put S a (.lst ds')) := by
  obtain ⟨εp, fp, o, εp', st, e, w⟩ := h
  unfold mModKL at e
  split at e
  · rename_i ks ps hd
    split at e
    · rename_i ds hk
      split at e
      · rename_i b ds' hf
        cases e
        obtain ⟨x, fq, e1, ov, ndq, g⟩ := st.slot hd
        obtain ⟨q, dds, f0, rfl, rfl, hq, hl, ol⟩ := ov.dic
        obtain ⟨d, f1, f2, f3, e2, rfl, o2, rp⟩ := look_some ol hl hk
        obtain ⟨a, rfl, rfl, ha⟩ := o2.lst
        have nd1 := List.nodup_cons.mp ndq
        have nd2 := app_nodup nd1.2
        have nd3 : a ∉ f3 := by
          have := nd2.2.1
          exact (List.nodup_cons.mp this).1
        have haf1 : a ∉ f1 := fun z => nd2.2.2 a z (by simp)
        have haq : a ≠ q := by
          rintro rfl
          exact nd1.1 (by simp)
        have o' : Own (put S a (.lst ds')) (.dic ks (dRepl ks ps k (.lst ds'))) (.ref q) (q :: (f1 ++ ([a] ++ f3))) :=
          own_dic (by rw [put_ne (Ne.symm haq)]; exact hq) (by rw [dRepl_len]; exact hl) (rp _ _ _ (fun y hy => put_ne (by rintro rfl; exact haf1 hy)) (fun y hy => put_ne (by rintro rfl; exact nd3 hy)) (own_lst put_same))
        obtain ⟨fp', st', n⟩ := g _ _ _ o' ndq ⟨fun y hy => .inl hy, fun y c hy hc => by
          rw [put_ne (by rintro rfl; exact hy (by simp))]
          exact hc⟩
        exact ⟨q, _, a, ds, b, ds', e1, hq, e2, ha, hf, w _ fp' st' n⟩
      · cases e
    · cases e
  · cases e
theorem wM_getKL {k : Key} {ε : ED} {S : SD} {Q : List D → SD → Prop} (h : wM XD (mGetKL i k) ε S Q) :
    ∃ q kvs a ds, ε[i]? = some (some (.ref q)) ∧ S q = some (.dic kvs) ∧ valD kvs k = some (.ref a) ∧ S a = some (.lst ds) ∧ Q ds S := by
  obtain ⟨εp, fp, o, εp', st, e, w⟩ := h
  unfold mGetKL at e
  split at e
  · rename_i ks ps hd
    split at e
    · rename_i ds hk
      cases e
      obtain ⟨x, fq, e1, ov, ndq, g⟩ := st.slot hd
      obtain ⟨q, dds, f0, rfl, rfl, hq, hl, ol⟩ := ov.dic
      obtain ⟨d, f1, f2, f3, e2, rfl, o2, rp⟩ := look_some ol hl hk
      obtain ⟨a, rfl, rfl, ha⟩ := o2.lst
      exact ⟨q, _, a, ds, e1, hq, e2, ha, w S fp st Nx.refl⟩
    · cases e
  · cases e
def mIxKL (i : Nat) (x : Str) (y : D) : M D := mBind (mGetKL i (.inr x)) fun ds => mLift (fIx (.tup ds) y)
theorem fe_ixKL (hu : X.A.units + 1 < cLine) {x : Str} {j : Nat} {p0 p1 : Pos} {y : D} (ha : DE X a (dVar i)) (hb : DE X b (dC y)) (hs : PlainIx b := by intro _ _; rfl) (hs1 : PlainIx (.Constant (.str x) j p0) := by intro _ _; rfl) : FE X XD (.Subscript (.Subscript a (.Constant (.str x) j p0) p1) b pos) (mIxKL i x y) :=
  DE_imp (de_ixE hu (de_ixE hu ha (de_str (x := x)) hs1) hb hs) fun ε S Q h => by
    obtain ⟨q, kvs, a, ds, e1, hq, e2, ha, h⟩ := wM_getKL (wM_bind h)
    obtain ⟨d, e5, h'⟩ := wM_lift h
    obtain ⟨j, rfl, e6⟩ := fIx_tup e5
    exact ⟨.ref q, e1, kvs, hq, .ref a, e2, ds, ha, d, e6, h'⟩
def mSetKL (i : Nat) (x : Str) (pe : M D) (y : D) : M Res := mBind pe fun v => mBind (mModKL i (.inr x) (setL y v)) fun _ => mPure .nx
theorem fs_setKL (hu : X.A.units + 1 < cLine) {o i' : Expr} {x : Str} {j : Nat} {p0 p1 pos' : Pos} {y : D} (he : FE X XD e pa) (ho : DE X o (dVar i)) (hi : DE X i' (dC y)) (hs1 : PlainIx (.Constant (.str x) j p0) := by intro _ _; rfl)
    (ha : ∀ v, assign (.Subscript (.Subscript o (.Constant (.str x) j p0) p1) i' pos') X.env v = (do
      let ov ← holding [v] (eval (.Subscript o (.Constant (.str x) j p0) p1) X.env)
      let iv ← holding [v, ov] (eval i' X.env)
      standAt pos'
      holding [v, ov, iv] (setItem ov iv v)
      release [v, ov, iv] []) := by intro _; rfl)
    (hs : swapsWithSole [.Subscript (.Subscript o (.Constant (.str x) j p0) p1) i' pos'] e pos.line X.env = pure false := by rfl) (hw : swappedStores [.Subscript (.Subscript o (.Constant (.str x) j p0) p1) i' pos'] e X.env = pure none := by rfl)
    (h1 : (assignEach [.Subscript (.Subscript o (.Constant (.str x) j p0) p1) i' pos'] X.env).map (·.2) = [assign (.Subscript (.Subscript o (.Constant (.str x) j p0) p1) i' pos') X.env] := by rfl) : FS X XD (.Assign [.Subscript (.Subscript o (.Constant (.str x) j p0) p1) i' pos'] e pos) [] (mSetKL i x pa y) :=
  DS_imp (ds_asg he (dg_sub (de_ixE hu ho (de_str (x := x)) hs1) hi (dset hu) ha) hs hw h1) fun D ε S h => wM_imp (wS_bind h) fun v S1 h => by
    obtain ⟨q, kvs, a, ds, u, ds', e1, hq, e2, hv, e5, h6⟩ := wM_modKL (wS_bind h)
    refine ⟨.ref q, e1, kvs, hq, .ref a, e2, ?_⟩
    unfold setL at e5
    split at e5
    · obtain ⟨j, hj, e6⟩ := Option.map_eq_some_iff.mp e5
      cases e6
      refine ⟨ds, j, hv, hj, ?_⟩
      obtain ⟨εp, fp, st, k⟩ := wS_pure h6
      exact k st.nd Nx.refl
    · cases e5
/-- dict(pairs)[k] -/
def pairKs : List D → Option (List (Key × D))
  | [] => some []
  | .tup [k, v] :: r => match keyOf k with
    | some k' => (pairKs r).map ((k', v) :: ·)
    | none => none
  | _ :: _ => none
theorem pairKs_eq : ∀ {ds : List D} {kvs : List (Key × D)}, pairKs ds = some kvs → ds = kvs.map fun kv => D.tup [keyD kv.1, kv.2]
  | [], kvs, h => by cases h; rfl
  | d :: ds, kvs, h => by
    unfold pairKs at h
    split at h
    · cases ‹_ :: _ = []›
    · rename_i k v r e
      cases e
      split at h
      · rename_i k' hk
        obtain ⟨r', e1, rfl⟩ := Option.map_eq_some_iff.mp h
        rw [pairKs_eq e1, keyOf_eq hk]
        rfl
      · cases h
    · cases h
def mDictT (pa : M D) : M (List (Key × D)) := mBind pa fun x => mBind (mLift (toT x)) fun ds => mBind (mLift (pairKs ds)) fun kvs => mPure (mergeD [] kvs)
def mIxDict (pa pb : M D) : M D := mBind (mDictT pa) fun kvs => mBind pb fun y => mBind (mLift (keyS y)) fun k => mLift (valD kvs k)
theorem mBind_assoc {α β γ : Type} {p : M α} {f : α → M β} {g : β → M γ} : mBind (mBind p f) g = mBind p fun a => mBind (f a) g := by
  funext z
  unfold mBind
  cases h : p z with
  | none => rfl
  | some q =>
    obtain ⟨o, z'⟩ := q
    cases o <;> rfl
theorem mBind_pure {α β : Type} {a : α} {f : α → M β} : mBind (mPure a) f = f a := rfl
theorem wM_dict {α : Type} {ε : ED} {S : SD} {f : List (Key × D) → M α} {Q : α → SD → Prop} (h : wM XD (mBind (mDictT pa) f) ε S Q) : wM XD pa ε S fun x S1 => ∃ kvs, x = .tup (kvs.map fun kv => D.tup [keyD kv.1, kv.2]) ∧ wM XD (f (mergeD [] kvs)) ε S1 Q := by
  obtain ⟨εp, fp, o, εp', st, e, k⟩ := h
  have this : mBind (mDictT pa) f = mBind pa fun x => mBind (mLift (toT x)) fun ds => mBind (mLift (pairKs ds)) fun kvs => f (mergeD [] kvs) := by
    unfold mDictT
    simp only [mBind_assoc, mBind_pure]
  rw [this] at e
  refine wM_imp (wM_bind (f := fun x => mBind (mLift (toT x)) fun ds => mBind (mLift (pairKs ds)) fun kvs => f (mergeD [] kvs)) ⟨εp, fp, o, εp', st, e, k⟩) fun x S1 h => ?_
  obtain ⟨ds, e1, h⟩ := wM_lift (wM_bind h)
  obtain ⟨kvs, e2, h⟩ := wM_lift (wM_bind h)
  exact ⟨kvs, by rw [toT_eq e1, pairKs_eq e2], h⟩
theorem wM_frame {α : Type} {p : M α} {ε : ED} {S : SD} {Q : α → SD → Prop} {q : Addr} {c : Cell} (hq : S q = none) (h : wM XD p ε S Q) : wM XD p ε (put S q c) fun a S1 => Q a S1 ∨ ∃ S2, Q a S2 := by
  obtain ⟨εp, fp, o, εp', st, e, k⟩ := h
  obtain ⟨f1, f2⟩ := fresh_frame (c := c) hq st.own.dom
  refine ⟨εp, fp, o, εp', ⟨st.own.frame f1, st.nd⟩, e, fun S' fp' st' n => ?_⟩
  have n' : Nx S fp S' fp' := ⟨fun a ha => (n.grow a ha).imp id fun z => by
    by_cases e : a = q
    · rw [e]; exact hq
    · rw [put_ne e] at z; exact z, fun a x ha hx => n.ext a x ha (by rw [put_ne (by rintro rfl; rw [hq] at hx; cases hx)]; exact hx)⟩
  have := k S' fp' st' n'
  cases o with
  | ok a => exact .inl this
  | ex x => exact this
theorem wM_new {α : Type} {p : M α} {ε : ED} {S : SD} {Q : α → SD → Prop} {q : Addr} {c : Cell} (hq : S q = none) (h : wM XD p ε S Q) : wM XD p ε (put S q c) fun a S1 => S1 q = some c ∧ Q a S1 := by
  obtain ⟨εp, fp, o, εp', st, e, k⟩ := h
  obtain ⟨f1, f2⟩ := fresh_frame (c := c) hq st.own.dom
  refine ⟨εp, fp, o, εp', ⟨st.own.frame f1, st.nd⟩, e, fun S' fp' st' n => ?_⟩
  have n' : Nx S fp S' fp' := ⟨fun a ha => (n.grow a ha).imp id fun z => by
    by_cases e : a = q
    · rw [e]; exact hq
    · rw [put_ne e] at z; exact z, fun a x ha hx => n.ext a x ha (by rw [put_ne (by rintro rfl; rw [hq] at hx; cases hx)]; exact hx)⟩
  have := k S' fp' st' n'
  cases o with
  | ok a => exact ⟨n.ext q c f2 put_same, this⟩
  | ex x => exact this
theorem fe_ixDict (hu : X.A.units + 1 < cLine) (hc : X.calm = true) (hg : Gl X "dict") (hm : X.mg "dict" = none) (ha : FE X XD a pa) (hb : FE X XD b pb) (he : starEach [a] X.env = (false, eval a X.env) :: starEach [] X.env := by rfl) (hpl : (backTo p (starEach [] X.env)).any (·.1) = false := by rfl) (hs : PlainIx b := by intro _ _; rfl) :
    FE X XD (.Subscript (.Call (.Name "dict" apos) [a] [] p) b pos) (mIxDict pa pb) :=
  DE_imp (de_ixE hu (de_callTy (dc_dictT hc) hg hm PyProof.Rows.boot_dict (da_cons ha da_nil he) (he := he) (hpl := hpl)) hb hs) fun ε S Q h => wM_imp (wM_dict h) fun x S1 ⟨kvs, ex, h⟩ => by
    subst ex
    refine ⟨kvs, rfl, fun q hq => wM_imp (wM_new hq (wM_bind h)) fun y S2 ⟨hq2, h⟩ => ?_⟩
    obtain ⟨k, e2, h⟩ := wM_lift (wM_bind h)
    obtain ⟨z, rfl, rfl⟩ := keyS_eq e2
    obtain ⟨d, e3, h'⟩ := wM_lift h
    exact ⟨_, hq2, d, e3, h'⟩
def fDict (kvs : List (Key × D)) : PV := .dic (kvs.map (·.1)) (kvs.map fun kv => .val kv.2)
theorem own_fDict {S : SD} {q : Addr} {kvs : List (Key × D)} (h : S q = some (.dic kvs)) : Own S (fDict kvs) (.ref q) [q] := by
  have e : ∀ l : List (Key × D), ((l.map (·.1)).zip (l.map (·.2))) = l := by
    intro l
    induction l with
    | nil => rfl
    | cons a r ih => rw [List.map_cons, List.map_cons, List.zip_cons_cons, ih]
  have o := own_vals (S := S) (kvs.map (·.2))
  rw [List.map_map] at o
  exact own_dic (ds := kvs.map (·.2)) (by rw [e]; exact h) (by simp) (by simpa [Function.comp_def] using o)
def mDict (pa : M D) : M PV := mBind (mDictT pa) fun kvs => mPure (fDict kvs)
theorem fo_dict (hc : X.calm = true) (hg : Gl X "dict") (hm : X.mg "dict" = none) (ha : FE X XD a pa) (he : starEach [a] X.env = (false, eval a X.env) :: starEach [] X.env := by rfl) (hpl : (backTo p (starEach [] X.env)).any (·.1) = false := by rfl) :
    FO X XD (.Call (.Name "dict" apos) [a] [] p) (mDict pa) :=
  DE_imp (de_callTy (dc_dictT hc) hg hm PyProof.Rows.boot_dict (da_cons ha da_nil he) (he := he) (hpl := hpl)) fun ε S Q h => by
    have h2 := wO_bind h
    obtain ⟨εp, fp, o, εp', st, e, k⟩ := h2
    have h3 : wM XD (mBind (mDictT pa) mPure) ε S fun kvs S1 => wO XD (mPure (fDict kvs)) ε S1 Q := by
      refine ⟨εp, fp, o, εp', st, ?_, k⟩
      unfold mBind
      rw [e]
      cases o <;> rfl
    refine wM_imp (wM_dict h3) fun x S1 ⟨kvs, ex, h⟩ => ?_
    subst ex
    refine ⟨kvs, rfl, fun q hq => ?_⟩
    have h4 := wM_pure h
    obtain ⟨εp, fp, st, k⟩ := wO_pure h4
    obtain ⟨f1, f2⟩ := fresh_frame (c := .dic (mergeD [] kvs)) hq st.own.dom
    exact k _ fp [q] (.ref q) (st.own.frame f1) (own_fDict put_same) (nodup_app st.nd (by simp) fun a ha hb => by
      rw [List.mem_singleton] at hb
      exact f2 (hb ▸ ha)) (nx_new hq)
end
end FL

namespace FL
open PySem PySem.Spec PyProof.Rows L2 DL
variable [Amb] [Cbs]

section
variable {X : Cx} {XD : XT} {a b c e o l tg : Expr} {es : List Expr} {pa pb pc : M D} {pl : M (List PArg)} {pos p : Pos}
/-- [[..], [..], ..][i] -/
def mIxO (pl : M (List PArg)) (pb : M D) : M PV := fun ε => match pl ε with
  | none => none
  | some (.ex e, ε') => some (.ex e, ε')
  | some (.ok as, ε') => if as.length ≤ 1000 ∧ (pvs as).length = as.length then mBind pb (fun y => mLift (match y with | .int i => atI (pvs as) i | _ => none)) ε' else none
theorem pvs_all : ∀ {as : List PArg}, (pvs as).length = as.length → ∀ i, PArg.s i ∉ as
  | [], _, i, h => nomatch h
  | .n p :: r, hl, i, h => by
    rcases List.mem_cons.mp h with h | h
    · cases h
    · exact pvs_all (as := r) (by simpa [pvs] using hl) i h
  | .v d :: r, hl, i, h => by
    rcases List.mem_cons.mp h with h | h
    · cases h
    · exact pvs_all (as := r) (by simpa [pvs] using hl) i h
  | .s j :: r, hl, i, h => by
    have le : ∀ as : List PArg, (pvs as).length ≤ as.length := by
      intro as
      induction as with
      | nil => exact Nat.le_refl _
      | cons a as ih => cases a <;> simp [pvs] <;> omega
    have := le r
    simp [pvs] at hl
    omega
theorem pvs_own' {S : SD} {ε : ED} : ∀ {as : List PArg} {ds : List D} {fq : List Addr}, (pvs as).length = as.length → ArgR S ε as ds fq → OwnL S (pvs as) ds fq
  | [], ds, fq, h, ar => by
    obtain ⟨rfl, rfl⟩ := ar
    exact ownL_nil
  | .n p :: as, ds, fq, h, ar => by
    obtain ⟨d, rd, f1, f2, rfl, rfl, o1, ar⟩ := ar
    exact ownL_cons o1 (pvs_own' (by simpa [pvs] using h) ar)
  | .v d :: as, ds, fq, h, ar => by
    obtain ⟨rd, rfl, ar⟩ := ar
    exact ownL_cons (f1 := []) own_val (pvs_own' (by simpa [pvs] using h) ar)
  | .s i :: as, ds, fq, h, ar => (pvs_all h i List.mem_cons_self).elim
theorem ownL_get {S : SD} : ∀ {ps : List PV} {ds : List D} {fq : List Addr} {i : Nat} {p : PV}, OwnL S ps ds fq → ps[i]? = some p → ∃ d f, ds[i]? = some d ∧ Own S p d f ∧ f.Sublist fq
  | [], ds, fq, i, p, ol, h => by simp at h
  | q :: ps, ds, fq, 0, p, ol, h => by
    obtain ⟨d, r, f1, f2, rfl, rfl, h1, h2⟩ := ol.cons
    have e : q = p := by simpa using h
    subst e
    exact ⟨d, f1, rfl, h1, List.sublist_append_left _ _⟩
  | q :: ps, ds, fq, i + 1, p, ol, h => by
    obtain ⟨d, r, f1, f2, rfl, rfl, h1, h2⟩ := ol.cons
    obtain ⟨d', f, e1, e2, e3⟩ := ownL_get (i := i) h2 (by simpa using h)
    exact ⟨d', f, by simpa using e1, e2, e3.trans (List.sublist_append_right _ _)⟩
theorem fo_ixO (ha : FLs X XD es pl) (hb : FE X XD b pb) (hs : PlainIx b := by intro _ _; rfl) : FO X XD (.Subscript (.List es p) b pos) (mIxO pl pb) :=
  DE_imp (de_ixF (df_lst ha) hb hs) fun ε S Q h => by
    obtain ⟨εp, fp, o, εp', st, e, k⟩ := h
    unfold mIxO at e
    split at e
    · cases e
    · rename_i x ε1 e1
      cases e
      exact ⟨εp, fp, .ex x, _, st, e1, k⟩
    · rename_i as ε1 e1
      split at e
      · rename_i hc
        refine ⟨εp, fp, .ok as, ε1, st, e1, fun S1 fp1 fq ds own ar nd n => ?_⟩
        have ol := pvs_own' hc.2 ar
        refine ⟨by rw [argR_len ar]; exact hc.1, ?_⟩
        unfold mBind at e
        split at e
        · cases e
        · rename_i y ε2 e2
          refine ⟨ε1, fp1, .ok y, ε2, ⟨own, (app_nodup nd).1⟩, e2, fun S2 fp2 st2 n2 => ?_⟩
          obtain ⟨k1, k2, k3⟩ := Nx.rest nd n2 ol.dom st2.nd
          have ol2 := ol.frame _ k1
          dsimp only at e
          unfold mLift at e
          split at e
          · cases e
          · rename_i v hv
            cases e
            split at hv
            · rename_i i
              unfold atI at hv
              cases hj : ixN (pvs as).length i with
              | none => rw [hj] at hv; cases hv
              | some j =>
                rw [hj] at hv
                obtain ⟨d, f, e3, ov, sb⟩ := ownL_get ol2 hv
                refine ⟨i, rfl, d, ?_, k S2 fp2 f d st2.own ov (nodup_app st2.nd (sb.nodup (app_nodup k2).2.1) fun a ha hb => (app_nodup k2).2.2 a ha (sb.subset hb)) ?_⟩
                · unfold atI
                  rw [ol2.length, hj]
                  exact e3
                · refine (n.trans k3).perm (fun _ => Iff.rfl) fun a ha => ?_
                  rcases List.mem_append.mp ha with ha | ha
                  · exact List.mem_append_left _ ha
                  · exact List.mem_append_right _ (sb.subset ha)
            · cases hv
        · rename_i x ε2 e2
          cases e
          refine ⟨ε1, fp1, .ex x, _, ⟨own, (app_nodup nd).1⟩, e2, fun S2 fp2 st2 n2 => ?_⟩
          obtain ⟨k1, k2, k3⟩ := Nx.rest nd n2 ol.dom st2.nd
          exact k S2 fp2 st2 ((n.trans k3).perm (fun _ => Iff.rfl) fun a ha => List.mem_append_left _ ha)
      · cases e
end
/-- the law: a function of the script, its ints as one list that stays -/
theorem lawF {m : List D → Option D} {ns : List Int} (h : m [.ilst (ns.map D.int)] = some (.bl true)) : spP m [.ilst (ns.map D.int)] (fun _ => none) fun d _ => d = .bl true := ⟨_, h, rfl⟩
end FL

namespace FL
open PySem PySem.Spec PyProof.Rows L2 DL

@[simp] theorem mPure_run {α : Type} (a : α) (ε : PEnv) : mPure a ε = (fun ε => some (.ok a, ε)) ε := rfl
@[simp] theorem mBind_run {α β : Type} (p : M α) (f : α → M β) (ε : PEnv) : mBind p f ε = (fun ε => match p ε with
  | none => none
  | some (.ok a, ε') => f a ε'
  | some (.ex e, ε') => some (.ex e, ε')) ε := rfl
@[simp] theorem mLift_run {α : Type} (o : Option α) (ε : PEnv) : mLift o ε = (fun ε => match o with
  | none => none
  | some a => some (.ok a, ε)) ε := rfl
@[simp] theorem mMap_run {α β : Type} (f : α → β) (p : M α) (ε : PEnv) : mMap f p ε = (mBind p fun a => mPure (f a)) ε := rfl
@[simp] theorem mVar_run (i : Nat) (ε : PEnv) : mVar i ε = (fun ε => match ε[i]? with
  | some (some (.val d)) => some (.ok d, ε)
  | _ => none) ε := rfl
@[simp] theorem mGetL_run (i : Nat) (ε : PEnv) : mGetL i ε = (fun ε => match ε[i]? with
  | some (some (.lst ds)) => some (.ok ds, ε)
  | _ => none) ε := rfl
@[simp] theorem mModL_run (i : Nat) (f : List D → Option (α × List D)) (ε : PEnv) : mModL i f ε = (fun ε => match ε[i]? with
  | some (some (.lst ds)) => match f ds with
    | some (a, ds') => some (.ok a, ε.set i (some (.lst ds')))
    | none => none
  | _ => none) ε := rfl
@[simp] theorem mOp2_run (f : D → D → Option D) (pa pb : M D) (ε : PEnv) : mOp2 f pa pb ε = (mBind pa fun x => mBind pb fun y => mLift (f x y)) ε := rfl
@[simp] theorem mB_run (p : M D) (ε : PEnv) : mB p ε = (mBind p fun x => mLift (toB x)) ε := rfl
@[simp] theorem mChain_run (f g : D → D → Option D) (pa pb pc : M D) (ε : PEnv) : mChain f g pa pb pc ε = (mBind pa fun x => mBind pb fun y => mBind (mLift (f x y)) fun z => mBind (mLift (toB z)) fun k => if k = true then mBind pc fun w => mLift (g y w) else mPure (.bl false)) ε := rfl
@[simp] theorem mIsN_run (pa : M D) (ε : PEnv) : mIsN pa ε = (mBind pa fun x => mPure (.bl (isNon x))) ε := rfl
@[simp] theorem mNotN_run (pa : M D) (ε : PEnv) : mNotN pa ε = (mBind pa fun x => mPure (.bl (!isNon x))) ε := rfl
@[simp] theorem mAnd_run (t u : M Bool) (ε : PEnv) : mAnd t u ε = (mBind t fun k => if k = true then u else mPure false) ε := rfl
@[simp] theorem mOr_run (t u : M Bool) (ε : PEnv) : mOr t u ε = (mBind t fun k => if k = true then mPure true else u) ε := rfl
@[simp] theorem mNot_run (t : M Bool) (ε : PEnv) : mNot t ε = (mBind t fun k => mPure (!k)) ε := rfl
@[simp] theorem mIf_run {α : Type} (t : M Bool) (p q : M α) (ε : PEnv) : mIf t p q ε = (mBind t fun k => if k = true then p else q) ε := rfl
@[simp] theorem mAndV_run (pa pb : M D) (ε : PEnv) : mAndV pa pb ε = (mBind (mB pa) fun k => if k = true then pb else mPure (.bl false)) ε := rfl
@[simp] theorem mOrV_run (pa pb : M D) (ε : PEnv) : mOrV pa pb ε = (mBind (mB pa) fun k => if k = true then mPure (.bl true) else pb) ε := rfl
@[simp] theorem mNotV_run (pa : M D) (ε : PEnv) : mNotV pa ε = (mBind (mB pa) fun k => mPure (.bl (!k))) ε := rfl
@[simp] theorem mNil_run  (ε : PEnv) : mNil ε = (mPure []) ε := rfl
@[simp] theorem mCons_run (pa : M D) (pas : M (List D)) (ε : PEnv) : mCons pa pas ε = (mBind pa fun x => mBind pas fun xs => mPure (x :: xs)) ε := rfl
@[simp] theorem mTup_run (pas : M (List D)) (ε : PEnv) : mTup pas ε = (mBind pas fun ds => mBind (mLift (short 1000 ds)) fun ds => mPure (.tup ds)) ε := rfl
@[simp] theorem mLst_run (pas : M (List D)) (ε : PEnv) : mLst pas ε = (mBind pas fun ds => mLift (short 1000 ds)) ε := rfl
@[simp] theorem mInL_run (neg : Bool) (pa : M D) (i : Nat) (ε : PEnv) : mInL neg pa i ε = (mBind pa fun x => mBind (mGetL i) fun ds => mLift (fIn neg x (.tup ds))) ε := rfl
@[simp] theorem mNilL_run (neg : Bool) (i : Nat) (ε : PEnv) : mNilL neg i ε = (mBind (mGetL i) fun ds => mPure (.bl (if neg then !ds.isEmpty else ds.isEmpty))) ε := rfl
@[simp] theorem mIx_run (pa pb : M D) (ε : PEnv) : mIx pa pb ε = (mOp2 fIx pa pb) ε := rfl
@[simp] theorem mIxL_run (i : Nat) (pb : M D) (ε : PEnv) : mIxL i pb ε = (mBind (mGetL i) fun _ => mBind pb fun y => mBind (mGetL i) fun ds => mLift (fIx (.tup ds) y)) ε := rfl
@[simp] theorem mIxF_run (pf : M (List D)) (pb : M D) (ε : PEnv) : mIxF pf pb ε = (mBind pf fun ds => mBind pb fun y => mLift (fIx (.tup ds) y)) ε := rfl
@[simp] theorem mNoPart_run  (ε : PEnv) : mNoPart ε = (mPure none) ε := rfl
@[simp] theorem mPart_run (pa : M D) (ε : PEnv) : mPart pa ε = (mBind pa fun x => mBind (mLift (toI x)) fun i => mPure (some i)) ε := rfl
@[simp] theorem mSlT_run (pa : M D) (pl ph : M (Option Int)) (ε : PEnv) : mSlT pa pl ph ε = (mBind pa fun x => mBind pl fun l => mBind ph fun u => mBind (mLift (toT x)) fun ds => mPure (.tup (cutG ds l u))) ε := rfl
@[simp] theorem mSlL_run (i : Nat) (pl ph : M (Option Int)) (ε : PEnv) : mSlL i pl ph ε = (mBind (mGetL i) fun _ => mBind pl fun l => mBind ph fun u => mBind (mGetL i) fun ds => mPure (cutG ds l u)) ε := rfl
@[simp] theorem mRevL_run (i : Nat) (ε : PEnv) : mRevL i ε = (mBind (mGetL i) fun ds => mPure ds.reverse) ε := rfl
@[simp] theorem mRevT_run (pa : M D) (ε : PEnv) : mRevT pa ε = (mBind pa fun x => mBind (mLift (toT x)) fun ds => mPure (.tup ds.reverse)) ε := rfl
@[simp] theorem mCatFF_run (pf pg : M (List D)) (ε : PEnv) : mCatFF pf pg ε = (mBind pf fun xs => mBind pg fun ys => mLift (cat xs ys)) ε := rfl
@[simp] theorem mCatVF_run (i : Nat) (pg : M (List D)) (ε : PEnv) : mCatVF i pg ε = (mBind (mGetL i) fun _ => mBind pg fun ys => mBind (mGetL i) fun xs => mLift (cat xs ys)) ε := rfl
@[simp] theorem mCatFV_run (pf : M (List D)) (i : Nat) (ε : PEnv) : mCatFV pf i ε = (mBind pf fun xs => mBind (mGetL i) fun ys => mLift (cat xs ys)) ε := rfl
@[simp] theorem mCatVV_run (i j : Nat) (ε : PEnv) : mCatVV i j ε = (mBind (mGetL i) fun xs => mBind (mGetL j) fun ys => mLift (cat xs ys)) ε := rfl
@[simp] theorem mRepF_run (pf : M (List D)) (pb : M D) (ε : PEnv) : mRepF pf pb ε = (mBind pf fun xs => mBind pb fun y => mLift (rep xs y)) ε := rfl
@[simp] theorem mRepV_run (i : Nat) (pb : M D) (ε : PEnv) : mRepV i pb ε = (mBind (mGetL i) fun _ => mBind pb fun y => mBind (mGetL i) fun xs => mLift (rep xs y)) ε := rfl
@[simp] theorem mTupF_run (pf : M (List D)) (ε : PEnv) : mTupF pf ε = (mBind pf fun ds => mPure (.tup ds)) ε := rfl
@[simp] theorem mTupV_run (pa : M D) (ε : PEnv) : mTupV pa ε = (mBind pa fun x => mBind (mLift (items x)) fun ds => mPure (.tup ds)) ε := rfl
@[simp] theorem mTupL_run (i : Nat) (ε : PEnv) : mTupL i ε = (mBind (mGetL i) fun ds => mPure (.tup ds)) ε := rfl
@[simp] theorem mListV_run (pa : M D) (ε : PEnv) : mListV pa ε = (mBind pa fun x => mLift (items x)) ε := rfl
@[simp] theorem mAllF_run (pf : M (List D)) (ε : PEnv) : mAllF pf ε = (mBind pf fun ds => mBind (mLift (bools ds)) fun bs => mPure (.bl (bs.all id))) ε := rfl
@[simp] theorem mAnyF_run (pf : M (List D)) (ε : PEnv) : mAnyF pf ε = (mBind pf fun ds => mBind (mLift (bools ds)) fun bs => mPure (.bl (bs.any id))) ε := rfl
@[simp] theorem mSumF_run (pf : M (List D)) (ε : PEnv) : mSumF pf ε = (mBind pf fun ds => mBind (mLift (intsL ds)) fun ns => mPure (.int ns.sum)) ε := rfl
@[simp] theorem mCB_run (f : List D → Option D) (pas : M (List D)) (ε : PEnv) : mCB f pas ε = (mBind pas fun ds => mLift (f ds)) ε := rfl
@[simp] theorem mLenL_run (i : Nat) (ε : PEnv) : mLenL i ε = (mBind (mGetL i) fun ds => mPure (.int ds.length)) ε := rfl
@[simp] theorem mAppL_run (i : Nat) (pa : M D) (ε : PEnv) : mAppL i pa ε = (mBind (mGetL i) fun _ => mBind pa fun x => mModL i (appL x)) ε := rfl
@[simp] theorem mPopL_run (i : Nat) (ε : PEnv) : mPopL i ε = (mModL i popL) ε := rfl
@[simp] theorem mPopAtL_run (i : Nat) (pa : M D) (ε : PEnv) : mPopAtL i pa ε = (mBind (mGetL i) fun _ => mBind pa fun y => mModL i (popAtL y)) ε := rfl
@[simp] theorem mExtF_run (i : Nat) (pf : M (List D)) (ε : PEnv) : mExtF i pf ε = (mBind (mGetL i) fun _ => mBind pf fun ys => mModL i (extL ys)) ε := rfl
@[simp] theorem mExtL_run (i j : Nat) (ε : PEnv) : mExtL i j ε = (mBind (mGetL i) fun _ => mBind (mGetL j) fun ys => mModL i (extL ys)) ε := rfl
@[simp] theorem mCountT_run (pa pb : M D) (ε : PEnv) : mCountT pa pb ε = (mBind pa fun x => mBind (mLift (toT x)) fun _ => mBind pb fun y => mLift (fCount x y)) ε := rfl
@[simp] theorem mNeg_run (pa : M D) (ε : PEnv) : mNeg pa ε = (mBind pa fun x => mLift (fNeg x)) ε := rfl
@[simp] theorem mArgV_run (pa : M D) (pr : M (List PArg)) (ε : PEnv) : mArgV pa pr ε = (mBind pa fun d => mMap (PArg.v d :: ·) pr) ε := rfl
@[simp] theorem mArgS_run (i : Nat) (pr : M (List PArg)) (ε : PEnv) : mArgS i pr ε = (fun ε => match ε[i]? with
  | some (some _) => mMap (PArg.s i :: ·) pr ε
  | _ => none) ε := rfl
@[simp] theorem mArgN_run (pa : M PV) (pr : M (List PArg)) (ε : PEnv) : mArgN pa pr ε = (fun ε => match pa ε with
  | none => none
  | some (.ok v, ε') => mMap (PArg.n v :: ·) pr ε'
  | some (.ex e, ε') => some (.ex e, ε')) ε := rfl
@[simp] theorem mCall_run (m : FM) (pl : M (List PArg)) (ε : PEnv) : mCall m pl ε = (fun ε => match pl ε with
  | none => none
  | some (.ex e, ε1) => some (.ex e, ε1)
  | some (.ok as, ε1) => match takeA as ε1 with
    | none => none
    | some (ps, ε2) => match m ps with
      | none => none
      | some (o, ps') => match giveA as ps' ε2 with
        | none => none
        | some ε3 => some (o, ε3)) ε := rfl
@[simp] theorem mV_run (p : M PV) (ε : PEnv) : mV p ε = (fun ε => match p ε with
  | none => none
  | some (.ok (.val d), ε') => some (.ok d, ε')
  | some (.ok _, _) => none
  | some (.ex e, ε') => some (.ex e, ε')) ε := rfl
@[simp] theorem mCallP_run (mp : List D → Option D) (pas : M (List D)) (ε : PEnv) : mCallP mp pas ε = (mBind pas fun ds => mLift (mp ds)) ε := rfl
@[simp] theorem mSeq_run (p q : M Res) (ε : PEnv) : mSeq p q ε = (mBind p fun r => match r with
  | .nx => q
  | r => mPure r) ε := rfl
@[simp] theorem mPut_run (i : Nat) (v : PV) (ε : PEnv) : mPut i v ε = (fun ε => if i < ε.length then some (.ok .nx, ε.set i (some v)) else none) ε := rfl
@[simp] theorem mSet_run (i : Nat) (p : M D) (ε : PEnv) : mSet i p ε = (mBind p fun d => mPut i (.val d)) ε := rfl
@[simp] theorem mSetO_run (i : Nat) (p : M PV) (ε : PEnv) : mSetO i p ε = (fun ε => match p ε with
  | none => none
  | some (.ok v, ε') => mPut i v ε'
  | some (.ex e, ε') => some (.ex e, ε')) ε := rfl
@[simp] theorem mRet_run (p : M D) (ε : PEnv) : mRet p ε = (mMap (fun d => .rt (.val d)) p) ε := rfl
@[simp] theorem mRetO_run (p : M PV) (ε : PEnv) : mRetO p ε = (fun ε => match p ε with
  | none => none
  | some (.ok v, ε') => some (.ok (.rt v), ε')
  | some (.ex e, ε') => some (.ex e, ε')) ε := rfl
@[simp] theorem mRetV_run (i : Nat) (ε : PEnv) : mRetV i ε = (fun ε => match ε[i]? with
  | some (some p) => some (.ok (.rt p), ε.set i none)
  | _ => none) ε := rfl
@[simp] theorem mDrop_run (p : M D) (ε : PEnv) : mDrop p ε = (mMap (fun _ => .nx) p) ε := rfl
@[simp] theorem mAsg_run (p : M D) (g : GM) (ε : PEnv) : mAsg p g ε = (mBind p fun d => fun ε => match g d ε with
  | some ε' => some (.ok .nx, ε')
  | none => none) ε := rfl
@[simp] theorem mFor_run (p : M (List DL.D)) (c : List DL.D → PEnv → Bool) (g : GM) (b : M Res) (ε : PEnv) : mFor p c g b ε = (mBind p fun ds => mLoop (c ds) g b ds) ε := rfl
@[simp] theorem mItT_run (pa : M D) (ε : PEnv) : mItT pa ε = (mBind pa fun x => mLift (toT x)) ε := rfl
@[simp] theorem mItO_run (po : M PV) (ε : PEnv) : mItO po ε = (fun ε => match po ε with
  | none => none
  | some (.ok (.lst ds), ε') => some (.ok ds, ε')
  | some (.ok _, _) => none
  | some (.ex e, ε') => some (.ex e, ε')) ε := rfl
@[simp] theorem mRng_run (pas : M (List D)) (ε : PEnv) : mRng pas ε = (mBind pas fun ds => mLift (rng ds)) ε := rfl
@[simp] theorem mRng1_run (pas : M (List D)) (ε : PEnv) : mRng1 pas ε = (mBind pas fun ds => mLift (rng1 ds)) ε := rfl
@[simp] theorem mRng2_run (pas : M (List D)) (ε : PEnv) : mRng2 pas ε = (mBind pas fun ds => mLift (rng2 ds)) ε := rfl
@[simp] theorem mEnT_run (pas : M (List D)) (ε : PEnv) : mEnT pas ε = (mBind pas fun ds => mLift (enumT ds)) ε := rfl
@[simp] theorem mEnL_run (i : Nat) (ε : PEnv) : mEnL i ε = (mBind (mGetL i) fun ds => mPure (pairsFrom 0 ds)) ε := rfl
@[simp] theorem mLc_run (p : M (List D)) (c : List D → PEnv → Bool) (g : GM) (tt : M Bool) (te : M D) (vs : List Nat) (ε : PEnv) : mLc p c g tt te vs ε = (mBind p fun ds => if ds.length ≤ 1000000 then mLcL (c ds) g tt te vs ds [] else fun _ => none) ε := rfl
@[simp] theorem mPar_run (is : List Nat) (pl : M (List PArg)) (ε : PEnv) : mPar is pl ε = (fun ε => match pl ε with
  | none => none
  | some (.ex e, ε') => some (.ex e, ε')
  | some (.ok as, ε') => if as.length = is.length then match putA (is.zip as) ε' with
    | some ε2 => some (.ok .nx, ε2)
    | none => none
    else none) ε := rfl
@[simp] theorem mSetIx_run (i : Nat) (pe pi : M D) (ε : PEnv) : mSetIx i pe pi ε = (mBind pe fun v => mBind (mGetL i) fun _ => mBind pi fun y => mBind (mModL i (setL y v)) fun _ => mPure .nx) ε := rfl
@[simp] theorem mGetA_run (i : Nat) (ε : PEnv) : mGetA i ε = (fun ε => match ε[i]? with
  | some (some (.val d)) => some (.ok (.val d), ε)
  | some (some (.lst ds)) => some (.ok (.lst ds), ε)
  | _ => none) ε := rfl
@[simp] theorem mIxA_run (i : Nat) (pb : M D) (ε : PEnv) : mIxA i pb ε = (mBind (mGetA i) fun _ => mBind pb fun y => mBind (mGetA i) fun v => mLift ((asD v).bind fun x => fIx x y)) ε := rfl
@[simp] theorem mLenA_run (i : Nat) (ε : PEnv) : mLenA i ε = (mBind (mGetA i) fun v => mLift ((asD v).bind fun x => fLen [x])) ε := rfl
@[simp] theorem mItA_run (i : Nat) (ε : PEnv) : mItA i ε = (fun ε => match ε[i]? with
  | some (some (.val (.tup ds))) => some (.ok ds, ε)
  | some (some (.val (.ilst ds))) => some (.ok ds, ε)
  | some (some (.lst ds)) => some (.ok ds, ε)
  | _ => none) ε := rfl
@[simp] theorem mGetD_run (i : Nat) (k : Key) (ε : PEnv) : mGetD i k ε = (fun ε => match ε[i]? with
  | some (some (.dic ks ps)) => some (.ok (dLook ks ps k), ε)
  | _ => none) ε := rfl
@[simp] theorem mIsD_run (i : Nat) (ε : PEnv) : mIsD i ε = (fun ε => match ε[i]? with
  | some (some (.dic _ _)) => some (.ok (), ε)
  | _ => none) ε := rfl
@[simp] theorem mIxK_run (i : Nat) (pb : M D) (ε : PEnv) : mIxK i pb ε = (mBind (mIsD i) fun _ => mBind pb fun y => mBind (mLift (keyS y)) fun k => mBind (mGetD i k) fun v => mLift (optV v)) ε := rfl
@[simp] theorem mGet2_run (i : Nat) (pa pb : M D) (ε : PEnv) : mGet2 i pa pb ε = (mBind (mIsD i) fun _ => mBind pa fun y => mBind pb fun z => mBind (mLift (keyOf y)) fun k => mBind (mGetD i k) fun v => mLift (match v with | none => some z | v => optV v)) ε := rfl
@[simp] theorem mInD_run (neg : Bool) (pa : M D) (i : Nat) (ε : PEnv) : mInD neg pa i ε = (mBind pa fun y => mBind (mLift (keyOf y)) fun k => mBind (mGetD i k) fun v => mPure (.bl (if neg then !v.isSome else v.isSome))) ε := rfl
@[simp] theorem mDisp_run (l : List (Key × M PV)) (ε : PEnv) : mDisp l ε = (fun ε => match mNs l ε with
  | none => none
  | some (.ok as, ε') => if as.length = l.length then some (.ok (.dic (l.map (·.1)) (pvs as)), ε') else none
  | some (.ex e, ε') => some (.ex e, ε')) ε := rfl
@[simp] theorem mRetT_run (pl : M (List PArg)) (ε : PEnv) : mRetT pl ε = (fun ε => match pl ε with
  | none => none
  | some (.ex e, ε') => some (.ex e, ε')
  | some (.ok as, ε') => match takeA as ε' with
    | some (ps, ε2) => if as.length ≤ 1000 then some (.ok (.rt (.ptup ps)), ε2) else none
    | none => none) ε := rfl
@[simp] theorem mAsgT_run (is : List Nat) (po : M PV) (ε : PEnv) : mAsgT is po ε = (fun ε => match po ε with
  | none => none
  | some (.ex e, ε') => some (.ex e, ε')
  | some (.ok (.ptup ps), ε') => if ps.length = is.length then match putL (is.zip ps) ε' with
    | some ε2 => some (.ok .nx, ε2)
    | none => none
    else none
  | some (.ok _, _) => none) ε := rfl
@[simp] theorem mPutK_run (i : Nat) (k : Key) (d : D) (ε : PEnv) : mPutK i k d ε = (fun ε => match ε[i]? with
  | some (some (.dic ks ps)) => if ks.length ≤ 1000000 then some (.ok (), ε.set i (some (.dic (dPut ks ps k d).1 (dPut ks ps k d).2))) else none
  | _ => none) ε := rfl
@[simp] theorem mSetK_run (i : Nat) (pe pi : M D) (ε : PEnv) : mSetK i pe pi ε = (mBind pe fun v => mBind (mIsD i) fun _ => mBind pi fun y => mBind (mLift (keyS y)) fun k => mBind (mPutK i k v) fun _ => mPure .nx) ε := rfl
@[simp] theorem mGetKL_run (i : Nat) (k : Key) (ε : PEnv) : mGetKL i k ε = (fun ε => match ε[i]? with
  | some (some (.dic ks ps)) => match dLook ks ps k with
    | some (.lst ds) => some (.ok ds, ε)
    | _ => none
  | _ => none) ε := rfl
@[simp] theorem mModKL_run {α : Type} (i : Nat) (k : Key) (f : List D → Option (α × List D)) (ε : PEnv) : mModKL i k f ε = (fun ε => match ε[i]? with
  | some (some (.dic ks ps)) => match dLook ks ps k with
    | some (.lst ds) => match f ds with
      | some (a, ds') => some (.ok a, ε.set i (some (.dic ks (dRepl ks ps k (.lst ds')))))
      | none => none
    | _ => none
  | _ => none) ε := rfl
@[simp] theorem mIxKL_run (i : Nat) (x : Str) (y : D) (ε : PEnv) : mIxKL i x y ε = (mBind (mGetKL i (.inr x)) fun ds => mLift (fIx (.tup ds) y)) ε := rfl
@[simp] theorem mSetKL_run (i : Nat) (x : Str) (pe : M D) (y : D) (ε : PEnv) : mSetKL i x pe y ε = (mBind pe fun v => mBind (mModKL i (.inr x) (setL y v)) fun _ => mPure .nx) ε := rfl
@[simp] theorem mDictT_run (pa : M D) (ε : PEnv) : mDictT pa ε = (mBind pa fun x => mBind (mLift (toT x)) fun ds => mBind (mLift (pairKs ds)) fun kvs => mPure (mergeD [] kvs)) ε := rfl
@[simp] theorem mIxDict_run (pa pb : M D) (ε : PEnv) : mIxDict pa pb ε = (mBind (mDictT pa) fun kvs => mBind pb fun y => mBind (mLift (keyS y)) fun k => mLift (valD kvs k)) ε := rfl
@[simp] theorem mDict_run (pa : M D) (ε : PEnv) : mDict pa ε = (mBind (mDictT pa) fun kvs => mPure (fDict kvs)) ε := rfl
@[simp] theorem mIxO_run (pl : M (List PArg)) (pb : M D) (ε : PEnv) : mIxO pl pb ε = (fun ε => match pl ε with
  | none => none
  | some (.ex e, ε') => some (.ex e, ε')
  | some (.ok as, ε') => if as.length ≤ 1000 ∧ (pvs as).length = as.length then mBind pb (fun y => mLift (match y with | .int i => atI (pvs as) i | _ => none)) ε' else none) ε := rfl

@[simp] theorem fnP_run (np n : Nat) (body : M Res) (ds : List D) : fnP np n body ds = if ds.length = np then runP n body ds else none := rfl
@[simp] theorem fnF_run (np : Nat) (io : List Nat) (n : Nat) (body : M Res) (ps : List PV) : fnF np io n body ps = if ps.length = np then runF io n body ps else none := rfl
@[simp] theorem runP_run (n : Nat) (body : M Res) (ds : List D) : runP n body ds = match body (startP n (ds.map .val)) with
  | some (.ok (.rt (.val d)), _) => some d
  | some (.ok .nx, _) => some .non
  | _ => none := rfl
@[simp] theorem runF_run (io : List Nat) (n : Nat) (body : M Res) (ps : List PV) : runF io n body ps = match body (startP n ps) with
  | some (.ok (.rt v), ε) => match outsF io 0 ps ε with
    | some ps' => some (.ok v, ps')
    | none => none
  | some (.ok .nx, ε) => match outsF io 0 ps ε with
    | some ps' => some (.ok (.val .non), ps')
    | none => none
  | _ => none := rfl
@[simp] theorem startP_run (n : Nat) (ps : List PV) : startP n ps = ps.map some ++ List.replicate (n - ps.length) none := rfl
@[simp] theorem rep_succ {α : Type} (n : Nat) (a : α) : List.replicate (n + 1) a = a :: List.replicate n a := rfl
@[simp] theorem outsF_nil (io : List Nat) (i : Nat) (ε : PEnv) : outsF io i [] ε = some [] := rfl
@[simp] theorem outsF_cons (io : List Nat) (i : Nat) (p : PV) (ps : List PV) (ε : PEnv) : outsF io i (p :: ps) ε = if io.contains i = true then (match ε[i]? with
      | some (some q) => match outsF io (i + 1) ps (ε.set i none) with
        | some r => some (q :: r)
        | none => none
      | _ => none)
    else match p with
      | .val d => match outsF io (i + 1) ps ε with
        | some r => some (.val d :: r)
        | none => none
      | _ => none := rfl
@[simp] theorem takeA_nil (ε : PEnv) : takeA [] ε = some ([], ε) := rfl
@[simp] theorem takeA_v (d : D) (r : List PArg) (ε : PEnv) : takeA (.v d :: r) ε = match takeA r ε with
    | some (ps, ε') => some (.val d :: ps, ε')
    | none => none := rfl
@[simp] theorem takeA_s (i : Nat) (r : List PArg) (ε : PEnv) : takeA (.s i :: r) ε = match ε[i]? with
    | some (some p) => match takeA r (ε.set i none) with
      | some (ps, ε') => some (p :: ps, ε')
      | none => none
    | _ => none := rfl
@[simp] theorem takeA_n (p : PV) (r : List PArg) (ε : PEnv) : takeA (.n p :: r) ε = match takeA r ε with
    | some (ps, ε') => some (p :: ps, ε')
    | none => none := rfl
@[simp] theorem giveA_nil (ε : PEnv) : giveA [] [] ε = some ε := rfl
@[simp] theorem giveA_v (d : D) (r : List PArg) (p : PV) (ps : List PV) (ε : PEnv) : giveA (.v d :: r) (p :: ps) ε = giveA r ps ε := rfl
@[simp] theorem giveA_s (i : Nat) (r : List PArg) (p : PV) (ps : List PV) (ε : PEnv) : giveA (.s i :: r) (p :: ps) ε = if i < ε.length then giveA r ps (ε.set i (some p)) else none := rfl
@[simp] theorem giveA_n (q : PV) (r : List PArg) (p : PV) (ps : List PV) (ε : PEnv) : giveA (.n q :: r) (p :: ps) ε = giveA r ps ε := rfl
@[simp] theorem putA_nil (ε : PEnv) : putA [] ε = some ε := rfl
@[simp] theorem putA_v (i : Nat) (d : D) (r : List (Nat × PArg)) (ε : PEnv) : putA ((i, .v d) :: r) ε = if i < ε.length then putA r (ε.set i (some (.val d))) else none := rfl
@[simp] theorem putA_n (i : Nat) (p : PV) (r : List (Nat × PArg)) (ε : PEnv) : putA ((i, .n p) :: r) ε = if i < ε.length then putA r (ε.set i (some p)) else none := rfl
@[simp] theorem putL_nil (ε : PEnv) : putL [] ε = some ε := rfl
@[simp] theorem putL_cons (i : Nat) (p : PV) (r : List (Nat × PV)) (ε : PEnv) : putL ((i, p) :: r) ε = if i < ε.length then putL r (ε.set i (some p)) else none := rfl
@[simp] theorem gN_run (i : Nat) (d : D) (ε : PEnv) : gN i d ε = if i < ε.length then some (ε.set i (some (.val d))) else none := rfl
@[simp] theorem gNil_run (ε : PEnv) : gNil [] ε = some ε := rfl
@[simp] theorem gCons_run (g : GM) (h : GsM) (d : D) (r : List D) (ε : PEnv) : gCons g h (d :: r) ε = match g d ε with
    | some ε' => h r ε'
    | none => none := rfl
@[simp] theorem gTup_run (n : Nat) (h : GsM) (ds : List D) (ε : PEnv) : gTup n h (.tup ds) ε = if ds.length = n then h ds ε else none := rfl
@[simp] theorem wipeP_nil (ε : PEnv) : wipeP ε [] = ε := rfl
@[simp] theorem wipeP_cons (ε : PEnv) (v : Nat) (vs : List Nat) : wipeP ε (v :: vs) = (wipeP ε vs).set v none := rfl
@[simp] theorem restore_nil (ε0 ε1 : PEnv) : restore ε0 ε1 [] = ε1 := rfl
@[simp] theorem restore_cons (ε0 ε1 : PEnv) (v : Nat) (vs : List Nat) : restore ε0 ε1 (v :: vs) = (restore ε0 ε1 vs).set v (keepV ε0 v) := rfl
@[simp] theorem keepV_run (ε0 : PEnv) (v : Nat) : keepV ε0 v = match ε0[v]? with
  | some (some (.val d)) => some (.val d)
  | _ => none := rfl
@[simp] theorem cYes_run (ds : List D) (ε : PEnv) : cYes ds ε = true := rfl
@[simp] theorem cSlot_run (i : Nat) (ds : List D) (ε : PEnv) : cSlot i ds ε = match ε[i]? with
  | some (some (.lst es)) => sameL ds es
  | _ => false := rfl
@[simp] theorem sameL_self (ds : List D) : sameL ds ds = true := sameL_refl ds
@[simp] theorem pvs_nil : pvs [] = [] := rfl
@[simp] theorem pvs_n (p : PV) (r : List PArg) : pvs (.n p :: r) = p :: pvs r := rfl
@[simp] theorem toB_bl (b : Bool) : toB (.bl b) = some b := rfl
@[simp] theorem toI_int (i : Int) : toI (.int i) = some i := rfl
@[simp] theorem toT_tup (ds : List D) : toT (.tup ds) = some ds := rfl
@[simp] theorem items_tup (ds : List D) : items (.tup ds) = some ds := rfl
@[simp] theorem items_ilst (ds : List D) : items (.ilst ds) = some ds := rfl
@[simp] theorem keyOf_str (x : Str) : keyOf (.str x) = some (.inr x) := rfl
@[simp] theorem keyS_str (x : Str) : keyS (.str x) = some (.inr x) := rfl
@[simp] theorem asD_val (d : D) : asD (.val d) = some d := rfl
@[simp] theorem asD_lst (ds : List D) : asD (.lst ds) = some (.tup ds) := rfl
@[simp] theorem optV_val (d : D) : optV (some (.val d)) = some d := rfl
@[simp] theorem fAdd_int (i j : Int) : fAdd (.int i) (.int j) = some (.int (i + j)) := rfl
@[simp] theorem fAdd_str (a b : Str) : fAdd (.str a) (.str b) = if a.length + b.length ≤ 1000000 then some (.str (a ++ b)) else none := rfl
@[simp] theorem fAdd_tup (a b : List D) : fAdd (.tup a) (.tup b) = if a.length + b.length ≤ 1000000 then some (.tup (a ++ b)) else none := rfl
@[simp] theorem fSub_int (i j : Int) : fSub (.int i) (.int j) = some (.int (i - j)) := rfl
@[simp] theorem fMul_int (i j : Int) : fMul (.int i) (.int j) = if i.natAbs.log2 + j.natAbs.log2 < 1000000 then some (.int (i * j)) else none := rfl
@[simp] theorem fMul_str (a : Str) (i : Int) : fMul (.str a) (.int i) = if -1000 ≤ i ∧ i ≤ 1000 ∧ a.length ≤ 1000 then some (.str (strMul a i)) else none := rfl
@[simp] theorem fMul_tup (ds : List D) (i : Int) : fMul (.tup ds) (.int i) = if ds ≠ [] ∧ 2 ≤ i ∧ i ≤ 1000 ∧ ds.length ≤ 1000 then some (.tup (List.replicate i.toNat ds).flatten) else none := rfl
@[simp] theorem fDiv_int (i j : Int) : fDiv (.int i) (.int j) = if 0 < j ∧ j.natAbs.log2 < 9000 then some (.int (i / j)) else none := rfl
@[simp] theorem fMod_int (i j : Int) : fMod (.int i) (.int j) = if 0 < j then some (.int (i % j)) else none := rfl
@[simp] theorem fPow_int (i j : Int) : fPow (.int i) (.int j) = if 0 ≤ j ∧ j ≤ 1000000 ∧ i.natAbs < 2 ^ 64 then some (.int (i ^ j.toNat)) else none := rfl
@[simp] theorem fLt_int (i j : Int) : fLt (.int i) (.int j) = some (.bl (decide (i < j))) := rfl
@[simp] theorem fLe_int (i j : Int) : fLe (.int i) (.int j) = some (.bl (decide (i ≤ j))) := rfl
@[simp] theorem fGt_int (i j : Int) : fGt (.int i) (.int j) = some (.bl (decide (j < i))) := rfl
@[simp] theorem fGe_int (i j : Int) : fGe (.int i) (.int j) = some (.bl (decide (j ≤ i))) := rfl
@[simp] theorem fEq_str (neg : Bool) (a b : Str) : fEq neg (.str a) (.str b) = some (.bl (if neg then !decide (a = b) else decide (a = b))) := rfl
@[simp] theorem fEq_int (neg : Bool) (a b : Int) : fEq neg (.int a) (.int b) = some (.bl (if neg then !decide (a = b) else decide (a = b))) := rfl
@[simp] theorem fIn_tup' (neg : Bool) (x : D) (ds : List D) : fIn neg x (.tup ds) = if flatD x = true ∧ ds.all flatD = true then some (.bl (if neg then !inD x ds else inD x ds)) else none := by
  cases x <;> rfl
@[simp] theorem fIsB_bl (neg a b : Bool) : fIsB neg (.bl a) (.bl b) = some (.bl (if neg then !decide (a = b) else decide (a = b))) := rfl
@[simp] theorem fIx_tup' (ds : List D) (i : Int) : fIx (.tup ds) (.int i) = atI ds i := rfl
@[simp] theorem fIx_ilst (ds : List D) (i : Int) : fIx (.ilst ds) (.int i) = atI ds i := rfl
@[simp] theorem fIx_str (z : Str) (i : Int) : fIx (.str z) (.int i) = if z.length ≤ 1000000 then (atI z.cps.toList i).map fun c => .str ⟨#[c]⟩ else none := rfl
@[simp] theorem fLen_tup (ds : List D) : fLen [.tup ds] = some (.int ds.length) := rfl
@[simp] theorem fLen_ilst (ds : List D) : fLen [.ilst ds] = some (.int ds.length) := rfl
@[simp] theorem fLen_str (z : Str) : fLen [.str z] = if z.length ≤ 1000000 then some (.int z.length) else none := rfl
@[simp] theorem fInt_int (i : Int) : fInt [.int i] = some (.int i) := rfl
@[simp] theorem fInt_bl (b : Bool) : fInt [.bl b] = some (.int (if b then 1 else 0)) := rfl
@[simp] theorem fMin_int (i j : Int) : fMin [.int i, .int j] = some (.int (if j < i then j else i)) := rfl
@[simp] theorem fMax_int (i j : Int) : fMax [.int i, .int j] = some (.int (if j > i then j else i)) := rfl
theorem rng1_ok {j : Int} (h0 : -1000000 ≤ j) (h : j ≤ 1000000) : rng1 [.int j] = some (DL.intsFrom 0 j.toNat) := by
  show (if _ then _ else none) = _
  rw [if_pos (by omega)]
theorem rng2_ok {i j : Int} (h0 : -1000000 ≤ i) (h1 : i ≤ 1000000) (h2 : -1000000 ≤ j) (h3 : j ≤ 1000000) : rng2 [.int i, .int j] = some (DL.intsFrom i (j - i).toNat) := by
  show (if _ then _ else none) = _
  rw [if_pos (by omega)]
@[simp] theorem enumT_tup (ds : List D) : enumT [.tup ds] = some (pairsFrom 0 ds) := rfl
@[simp] theorem atI_0 (a : D) (ds : List D) : atI (a :: ds) 0 = some a := atI_nat (xs := a :: ds) (j := 0) rfl
@[simp] theorem atI_1 (a b : D) (ds : List D) : atI (a :: b :: ds) 1 = some b := atI_nat (xs := a :: b :: ds) (j := 1) rfl
@[simp] theorem atI_2 (a b c : D) (ds : List D) : atI (a :: b :: c :: ds) 2 = some c := atI_nat (xs := a :: b :: c :: ds) (j := 2) rfl
@[simp] theorem atI_3 (a b c d : D) (ds : List D) : atI (a :: b :: c :: d :: ds) 3 = some d := atI_nat (xs := a :: b :: c :: d :: ds) (j := 3) rfl
@[simp] theorem atI_4 (a b c d e : D) (ds : List D) : atI (a :: b :: c :: d :: e :: ds) 4 = some e := atI_nat (xs := a :: b :: c :: d :: e :: ds) (j := 4) rfl
@[simp] theorem atI_5 (a b c d e f : D) (ds : List D) : atI (a :: b :: c :: d :: e :: f :: ds) 5 = some f := atI_nat (xs := a :: b :: c :: d :: e :: f :: ds) (j := 5) rfl
@[simp] theorem atI_6 (a b c d e f g : D) (ds : List D) : atI (a :: b :: c :: d :: e :: f :: g :: ds) 6 = some g := atI_nat (xs := a :: b :: c :: d :: e :: f :: g :: ds) (j := 6) rfl
@[simp] theorem atI_7 (a b c d e f g h : D) (ds : List D) : atI (a :: b :: c :: d :: e :: f :: g :: h :: ds) 7 = some h := atI_nat (xs := a :: b :: c :: d :: e :: f :: g :: h :: ds) (j := 7) rfl
theorem atI_get {α : Type} {xs : List α} {i : Int} {d : α} (h0 : 0 ≤ i) (h : xs[i.toNat]? = some d) : atI xs i = some d := by
  have := atI_nat h
  rwa [Int.toNat_of_nonneg h0] at this
theorem atI_lt {α : Type} {xs : List α} {i : Int} (h0 : 0 ≤ i) (h1 : i < xs.length) : ∃ x, atI xs i = some x ∧ x ∈ xs ∧ xs[i.toNat]? = some x := by
  have hl : i.toNat < xs.length := by omega
  exact ⟨_, atI_get h0 (List.getElem?_eq_getElem hl), List.getElem_mem hl, List.getElem?_eq_getElem hl⟩
@[simp] theorem ixN_0 (n : Nat) : ixN (n + 1) 0 = some 0 := by simp [ixN]
@[simp] theorem ixN_1 (n : Nat) : ixN (n + 1 + 1) 1 = some 1 := by
  unfold ixN
  simp
  omega
@[simp] theorem ixN_2 (n : Nat) : ixN (n + 1 + 1 + 1) 2 = some 2 := by
  unfold ixN
  simp
  omega
@[simp] theorem short_run (n : Nat) (ds : List D) : short n ds = if ds.length ≤ n then some ds else none := rfl
@[simp] theorem cat_run (xs ys : List D) : cat xs ys = if xs.length + ys.length ≤ 1000000 then some (xs ++ ys) else none := rfl
@[simp] theorem appL_run (x : D) (ds : List D) : appL x ds = if ds.length ≤ 1000000 then some (.non, ds ++ [x]) else none := rfl
@[simp] theorem extL_run (ys ds : List D) : extL ys ds = if ds.length + ys.length ≤ 1000000 then some (.non, ds ++ ys) else none := rfl
@[simp] theorem popL_snoc' (ds : List D) (d : D) : popL (ds ++ [d]) = some (d, ds) := popL_snoc
@[simp] theorem setL_int (i : Int) (v : D) (ds : List D) : setL (.int i) v ds = (ixN ds.length i).map fun j => ((), ds.set j v) := rfl
@[simp] theorem popAtL_int (i : Int) (ds : List D) : popAtL (.int i) ds = if 0 ≤ i ∧ ds.length ≤ 1000000 then (ds[i.toNat]?).map fun d => (d, ds.eraseIdx i.toNat) else none := rfl
@[simp] theorem rep_int (xs : List D) (i : Int) : rep xs (.int i) = if -1000 ≤ i ∧ i ≤ 1000 ∧ xs.length ≤ 1000 then some (List.replicate i.toNat xs).flatten else none := rfl
def Goes {α : Type} (r : Option (Out α × PEnv)) (P : α → PEnv → Prop) : Prop := match r with
  | some (.ok a, ε) => P a ε
  | _ => False
@[simp] theorem Goes_ok {α : Type} (a : α) (ε : PEnv) (P : α → PEnv → Prop) : Goes (some (.ok a, ε)) P = P a ε := rfl
theorem Goes.out {α : Type} {r : Option (Out α × PEnv)} {P : α → PEnv → Prop} (h : Goes r P) : ∃ a ε, r = some (.ok a, ε) ∧ P a ε := by
  unfold Goes at h
  split at h
  · exact ⟨_, _, rfl, h⟩
  · exact h.elim
def GoesG (r : Option PEnv) (P : PEnv → Prop) : Prop := match r with
  | some ε => P ε
  | none => False
@[simp] theorem GoesG_ok (ε : PEnv) (P : PEnv → Prop) : GoesG (some ε) P = P ε := rfl
theorem GoesG.out {r : Option PEnv} {P : PEnv → Prop} (h : GoesG r P) : ∃ ε, r = some ε ∧ P ε := by
  unfold GoesG at h
  split at h
  · exact ⟨_, rfl, h⟩
  · exact h.elim
theorem run_gen {α : Type} {toD : α → D} {c : PEnv → Bool} {g : GM} {b : M Res} (J : List α → PEnv → Prop) (P : Out Res → PEnv → Prop)
    (h0 : ∀ ε, J [] ε → c ε = true ∧ P (.ok .nx) ε)
    (h1 : ∀ x xs ε, J (x :: xs) ε → c ε = true ∧ ∃ ε1 o ε2, g (toD x) ε = some ε1 ∧ b ε1 = some (o, ε2) ∧ match o with
      | .ok .nx => J xs ε2
      | .ok .ct => J xs ε2
      | .ok .bk => P (.ok .nx) ε2
      | .ok (.rt v) => P (.ok (.rt v)) ε2
      | .ex e => P (.ex e) ε2) : ∀ (xs : List α) (ε : PEnv), J xs ε → ∃ o ε', mLoop c g b (xs.map toD) ε = some (o, ε') ∧ P o ε'
  | [], ε, h => by
    obtain ⟨hc, hp⟩ := h0 ε h
    exact ⟨_, ε, by simp only [List.map_nil, mLoop, hc, if_true], hp⟩
  | x :: xs, ε, h => by
    obtain ⟨hc, ε1, o, ε2, e1, e2, hm⟩ := h1 x xs ε h
    simp only [List.map_cons, mLoop, hc, if_true, e1, e2]
    cases o with
    | ex e => exact ⟨_, _, rfl, hm⟩
    | ok r =>
      cases r with
      | nx => exact run_gen J P h0 h1 xs ε2 hm
      | ct => exact run_gen J P h0 h1 xs ε2 hm
      | bk => exact ⟨_, _, rfl, hm⟩
      | rt v => exact ⟨_, _, rfl, hm⟩
/-- a loop that is never left early -/
theorem run_all {α : Type} {toD : α → D} {c : PEnv → Bool} {g : GM} {b : M Res} (J : List α → PEnv → Prop) (hc : ∀ xs ε, J xs ε → c ε = true)
    (h1 : ∀ x xs ε, J (x :: xs) ε → ∃ ε1 ε2, g (toD x) ε = some ε1 ∧ b ε1 = some (.ok .nx, ε2) ∧ J xs ε2) (xs : List α) (ε : PEnv) (h : J xs ε) : ∃ ε', mLoop c g b (xs.map toD) ε = some (.ok .nx, ε') ∧ J [] ε' := by
  obtain ⟨o, ε', e, p⟩ := run_gen (toD := toD) (c := c) (g := g) (b := b) J (fun o ε => o = .ok .nx ∧ J [] ε) (fun ε h => ⟨hc _ ε h, rfl, h⟩) (fun x xs ε h => by
    obtain ⟨ε1, ε2, e1, e2, hj⟩ := h1 x xs ε h
    exact ⟨hc _ ε h, ε1, .ok .nx, ε2, e1, e2, hj⟩) xs ε h
  obtain ⟨rfl, hj⟩ := p
  exact ⟨ε', e, hj⟩
theorem run_goes {α : Type} {toD : α → D} {c : PEnv → Bool} {g : GM} {b : M Res} (J : List α → PEnv → Prop) (hc : ∀ xs ε, J xs ε → c ε = true)
    (h1 : ∀ x xs ε, J (x :: xs) ε → GoesG (g (toD x) ε) fun ε1 => Goes (b ε1) fun r ε2 => r = .nx ∧ J xs ε2) (xs : List α) (ε : PEnv) (h : J xs ε) : ∃ ε', mLoop c g b (xs.map toD) ε = some (.ok .nx, ε') ∧ J [] ε' :=
  run_all J hc (fun x xs ε h => by
    obtain ⟨ε1, e1, h2⟩ := (h1 x xs ε h).out
    obtain ⟨r, ε2, e2, rfl, h3⟩ := h2.out
    exact ⟨ε1, ε2, e1, e2, h3⟩) xs ε h
/-- a loop that only looks: the first item of which something is so -/
theorem run_find {α : Type} {toD : α → D} {g : GM} {b : M Res} {ε : PEnv} (hit : α → Bool) (out : α → PV) (end_ : α → PEnv)
    (h : ∀ x ε0, (ε0 = ε ∨ ∃ y, ε0 = end_ y) → ∃ ε1, g (toD x) ε0 = some ε1 ∧ b ε1 = some (if hit x = true then .ok (.rt (out x)) else .ok .nx, end_ x)) :
    ∀ (xs : List α) (ε0 : PEnv), (ε0 = ε ∨ ∃ y, ε0 = end_ y) → ∃ ε', mLoop (fun _ => true) g b (xs.map toD) ε0 = some (match xs.find? hit with | some x => .ok (.rt (out x)) | none => .ok .nx, ε') ∧ (xs.find? hit = none → ε' = ε0 ∨ ∃ y, ε' = end_ y)
  | [], ε0, h0 => ⟨ε0, rfl, fun _ => .inl rfl⟩
  | x :: xs, ε0, h0 => by
    obtain ⟨ε1, e1, e2⟩ := h x ε0 h0
    simp only [List.map_cons, mLoop, if_true, e1, e2]
    by_cases hx : hit x = true
    · rw [if_pos hx, List.find?_cons_of_pos hx]
      exact ⟨_, rfl, fun z => nomatch z⟩
    · rw [if_neg hx, List.find?_cons_of_neg hx]
      obtain ⟨ε', e3, e4⟩ := run_find hit out end_ h xs (end_ x) (.inr ⟨x, rfl⟩)
      exact ⟨ε', e3, fun z => (e4 z).elim (fun q => .inr ⟨x, q⟩) .inr⟩
theorem comp_map {α : Type} {toD : α → D} {c : PEnv → Bool} {g : GM} {tt : M Bool} {te : M D} {vs : List Nat} {ε : PEnv} (keep : α → Bool) (fn : α → D) (hc : c ε = true) : ∀ (xs : List α) (acc : List D),
    (∀ x ∈ xs, ∃ ε1, g (toD x) (wipeP ε vs) = some ε1 ∧ tt ε1 = some (.ok (keep x), ε1) ∧ (keep x = true → te ε1 = some (.ok (fn x), ε1)) ∧ restore ε ε1 vs = ε) →
    mLcL c g tt te vs (xs.map toD) acc ε = some (.ok (acc ++ (xs.filter keep).map fn), ε)
  | [], acc, h => by simp [mLcL, hc]
  | x :: xs, acc, h => by
    obtain ⟨ε1, e1, e2, e3, e4⟩ := h x List.mem_cons_self
    have h' := fun y hy => h y (List.mem_cons_of_mem _ hy)
    simp only [List.map_cons, mLcL, hc, if_true, e1, e2]
    by_cases hk : keep x = true
    · have e5 := e3 hk
      simp only [hk, e5, e4]
      rw [comp_map keep fn hc xs _ h']
      simp [List.filter_cons, hk]
    · have hk' : keep x = false := by simpa using hk
      simp only [hk', e4]
      rw [comp_map keep fn hc xs _ h']
      simp [List.filter_cons, hk']
/-- a comprehension that changes the slots: by an invariant -/
theorem comp_inv {α : Type} {toD : α → D} {c : PEnv → Bool} {g : GM} {tt : M Bool} {te : M D} {vs : List Nat} (J : List α → List D → PEnv → Prop) (hc : ∀ xs acc ε, J xs acc ε → c ε = true)
    (h1 : ∀ x xs acc ε, J (x :: xs) acc ε → ∃ ε1 ε2 y ε3, g (toD x) (wipeP ε vs) = some ε1 ∧ tt ε1 = some (.ok true, ε2) ∧ te ε2 = some (.ok y, ε3) ∧ J xs (acc ++ [y]) (restore ε ε3 vs)) :
    ∀ (xs : List α) (acc : List D) (ε : PEnv), J xs acc ε → ∃ acc' ε', mLcL c g tt te vs (xs.map toD) acc ε = some (.ok acc', ε') ∧ J [] acc' ε'
  | [], acc, ε, h => ⟨acc, ε, by simp [mLcL, hc _ _ _ h], h⟩
  | x :: xs, acc, ε, h => by
    obtain ⟨ε1, ε2, y, ε3, e1, e2, e3, hj⟩ := h1 x xs acc ε h
    simp only [List.map_cons, mLcL, hc _ _ _ h, if_true, e1, e2, e3]
    exact comp_inv J hc h1 xs _ _ hj
theorem comp_goes {α : Type} {toD : α → D} {c : PEnv → Bool} {g : GM} {tt : M Bool} {te : M D} {vs : List Nat} (J : List α → List D → PEnv → Prop) (hc : ∀ xs acc ε, J xs acc ε → c ε = true)
    (h1 : ∀ x xs acc ε, J (x :: xs) acc ε → GoesG (g (toD x) (wipeP ε vs)) fun ε1 => Goes (tt ε1) fun k ε2 => k = true ∧ Goes (te ε2) fun y ε3 => J xs (acc ++ [y]) (restore ε ε3 vs)) (xs : List α) (acc : List D) (ε : PEnv) (h : J xs acc ε) :
    ∃ acc' ε', mLcL c g tt te vs (xs.map toD) acc ε = some (.ok acc', ε') ∧ J [] acc' ε' :=
  comp_inv J hc (fun x xs acc ε h => by
    obtain ⟨ε1, e1, h2⟩ := (h1 x xs acc ε h).out
    obtain ⟨k, ε2, e2, rfl, h3⟩ := h2.out
    obtain ⟨y, ε3, e3, h4⟩ := h3.out
    exact ⟨ε1, ε2, y, ε3, e1, e2, e3, h4⟩) xs acc ε h
/-- a comprehension that only looks -/
theorem comp_look {α : Type} {toD : α → D} {c : PEnv → Bool} {g : GM} {tt : M Bool} {te : M D} {vs : List Nat} {ε : PEnv} (keep : α → Bool) (fn : α → D) (hc : c ε = true) (xs : List α)
    (h : ∀ x ∈ xs, GoesG (g (toD x) (wipeP ε vs)) fun ε1 => tt ε1 = some (.ok (keep x), ε1) ∧ (keep x = true → te ε1 = some (.ok (fn x), ε1)) ∧ restore ε ε1 vs = ε) :
    mLcL c g tt te vs (xs.map toD) [] ε = some (.ok ((xs.filter keep).map fn), ε) := by
  have := comp_map (g := g) (tt := tt) (te := te) (vs := vs) keep fn hc xs [] fun x hx => by
    obtain ⟨ε1, e1, h2⟩ := (h x hx).out
    exact ⟨ε1, e1, h2⟩
  simpa using this
theorem range_drop {n i : Nat} (h : i < n) : (List.range n).drop i = i :: (List.range n).drop (i + 1) := by
  rw [List.drop_eq_getElem_cons (by simpa using h)]
  simp
theorem intsFrom_eq (n : Nat) : DL.intsFrom 0 n = (List.range n).map fun i => D.int (i : Nat) := by
  unfold DL.intsFrom
  congr 1
  funext i
  rw [Int.zero_add]
theorem run_range {c : PEnv → Bool} {g : GM} {b : M Res} {n : Nat} (J : Nat → PEnv → Prop) (hc : ∀ ε, c ε = true)
    (h1 : ∀ (i : Nat) ε, i < n → J i ε → GoesG (g (.int (i : Nat)) ε) fun ε1 => Goes (b ε1) fun r ε2 => r = .nx ∧ J (i + 1) ε2) {ε : PEnv} (h : J 0 ε) : ∃ ε', mLoop c g b (DL.intsFrom 0 n) ε = some (.ok .nx, ε') ∧ J n ε' := by
  rw [intsFrom_eq]
  obtain ⟨ε', e, i, hi, e2, hj⟩ := run_goes (toD := fun i : Nat => D.int (i : Nat)) (c := c) (g := g) (b := b) (fun xs ε => ∃ i, i ≤ n ∧ xs = (List.range n).drop i ∧ J i ε) (fun _ ε _ => hc ε) (fun x xs ε ⟨i, hi, e, hj⟩ => by
    have hlt : i < n := by
      rcases Nat.lt_or_ge i n with q | q
      · exact q
      · rw [List.drop_eq_nil_of_le (by simpa using q)] at e
        cases e
    rw [range_drop hlt] at e
    cases e
    obtain ⟨ε1, e1, h2⟩ := (h1 x ε hlt hj).out
    obtain ⟨r, ε2, e2, h3, h4⟩ := h2.out
    rw [e1, GoesG_ok, e2, Goes_ok]
    exact ⟨h3, x + 1, hlt, rfl, h4⟩) (List.range n) ε ⟨0, Nat.zero_le _, rfl, h⟩
  have : i = n := by
    have := congrArg List.length e2
    simp at this
    omega
  subst this
  exact ⟨ε', e, hj⟩
theorem comp_range {c : PEnv → Bool} {g : GM} {tt : M Bool} {te : M D} {vs : List Nat} {n : Nat} (J : Nat → List D → PEnv → Prop) (hc : ∀ ε, c ε = true)
    (h1 : ∀ (i : Nat) acc ε, i < n → J i acc ε → GoesG (g (.int (i : Nat)) (wipeP ε vs)) fun ε1 => Goes (tt ε1) fun k ε2 => k = true ∧ Goes (te ε2) fun y ε3 => J (i + 1) (acc ++ [y]) (restore ε ε3 vs)) {ε : PEnv} (h : J 0 [] ε) :
    ∃ acc' ε', mLcL c g tt te vs (DL.intsFrom 0 n) [] ε = some (.ok acc', ε') ∧ J n acc' ε' := by
  rw [intsFrom_eq]
  obtain ⟨acc', ε', e, i, hi, e2, hj⟩ := comp_goes (toD := fun i : Nat => D.int (i : Nat)) (c := c) (g := g) (tt := tt) (te := te) (vs := vs) (fun xs acc ε => ∃ i, i ≤ n ∧ xs = (List.range n).drop i ∧ J i acc ε) (fun _ _ ε _ => hc ε) (fun x xs acc ε ⟨i, hi, e, hj⟩ => by
    have hlt : i < n := by
      rcases Nat.lt_or_ge i n with q | q
      · exact q
      · rw [List.drop_eq_nil_of_le (by simpa using q)] at e
        cases e
    rw [range_drop hlt] at e
    cases e
    obtain ⟨ε1, e1, h2⟩ := (h1 x acc ε hlt hj).out
    obtain ⟨k, ε2, e2, h3, h4⟩ := h2.out
    obtain ⟨y, ε3, e3, h5⟩ := h4.out
    rw [e1, GoesG_ok, e2, Goes_ok]
    refine ⟨h3, ?_⟩
    rw [e3, Goes_ok]
    exact ⟨x + 1, hlt, rfl, h5⟩) (List.range n) [] ε ⟨0, Nat.zero_le _, rfl, h⟩
  have : i = n := by
    have := congrArg List.length e2
    simp at this
    omega
  subst this
  exact ⟨acc', ε', e, hj⟩
@[simp] theorem intsFrom_len (n : Nat) : (DL.intsFrom 0 n).length = n := DL.intsFrom_length 0 n
mutual
/-- leaves: texts, truths, None, small whole numbers -/
def tame : D → Bool
  | .non => true
  | .bl _ => true
  | .int i => decide (0 ≤ i) && decide (i < 1000)
  | .str x => x.cps.toList.all fun c => decide (c < 16 ^ 8)
  | .tup ds => tameL ds
  | .ilst ds => tameL ds
  | _ => false
def tameL : List D → Bool
  | [] => true
  | d :: ds => tame d && tameL ds
end
mutual
def wt : D → Nat
  | .int i => if i == 0 then 0 else i.natAbs.log2 + 1
  | .str x => x.cps.size
  | .tup ds => wtL ds
  | .ilst ds => wtL ds
  | _ => 0
def wtL : List D → Nat
  | [] => 0
  | d :: ds => wt d + 1 + wtL ds
end
mutual
def dp : D → Nat
  | .tup ds => dpL ds + 1
  | .ilst ds => dpL ds + 1
  | _ => 0
def dpL : List D → Nat
  | [] => 0
  | d :: ds => max (dp d) (dpL ds)
end
theorem int_short : ∀ n : Nat, n < 1000 → (PyData.shown (.int (n : Int))).length ≤ 8 := by decide +kernel
mutual
theorem tame_plain : ∀ d : D, tame d = true → d.plain = true ∧ d.py.showable = true ∧ d.py.hasDict = false ∧ d.py.leavesShort 8 = true ∧ d.py.weight = wt d ∧ d.py.depth = dp d
  | .non, h => by simp [D.plain, D.py, PyData.showable, PyData.hasDict, PyData.leavesShort, PyData.weight, PyData.depth, wt, dp]
  | .bl _, h => by simp [D.plain, D.py, PyData.showable, PyData.hasDict, PyData.leavesShort, PyData.weight, PyData.depth, wt, dp]
  | .int i, h => by
    simp only [tame, Bool.and_eq_true, decide_eq_true_eq] at h
    have q := int_short i.toNat (by omega)
    rw [Int.toNat_of_nonneg h.1] at q
    have l : i.natAbs.log2 < 1920 := by
      have : i.natAbs < 2 ^ 10 := by omega
      have := PySem.Flt.log2_lt_of (by decide) this
      omega
    simp [D.plain, D.py, PyData.showable, PyData.hasDict, PyData.leavesShort, PyData.weight, PyData.depth, wt, dp]
    exact ⟨l, q⟩
  | .str x, h => by
    simp only [tame] at h
    simp [D.plain, D.py, PyData.showable, PyData.hasDict, PyData.leavesShort, PyData.weight, PyData.depth, wt, dp]
    simpa using h
  | .ty _, h => by simp [tame] at h
  | .ref _, h => by simp [tame] at h
  | .edic, h => by simp [tame] at h
  | .tup ds, h => by
    obtain ⟨h1, h2, h3, h4, h5, h6⟩ := tame_plainL ds (by simpa [tame] using h)
    simp only [D.plain, D.py, PyData.showable, PyData.hasDict, PyData.leavesShort, PyData.weight, PyData.depth, wt, dp]
    exact ⟨h1, h2, h3, h4, h5, by rw [h6]⟩
  | .ilst ds, h => by
    obtain ⟨h1, h2, h3, h4, h5, h6⟩ := tame_plainL ds (by simpa [tame] using h)
    simp only [D.plain, D.py, PyData.showable, PyData.hasDict, PyData.leavesShort, PyData.weight, PyData.depth, wt, dp]
    exact ⟨h1, h2, h3, h4, h5, by rw [h6]⟩
theorem tame_plainL : ∀ ds : List D, tameL ds = true → plainL ds = true ∧ PyData.showableAll (pys ds) = true ∧ PyData.hasDictAll (pys ds) = false ∧ PyData.leavesShortAll 8 (pys ds) = true ∧ PyData.weightAll (pys ds) = wtL ds ∧ PyData.depthAll (pys ds) = dpL ds
  | [], h => by simp [plainL, pys, PyData.showableAll, PyData.hasDictAll, PyData.leavesShortAll, PyData.weightAll, PyData.depthAll, wtL, dpL]
  | d :: ds, h => by
    simp only [tameL, Bool.and_eq_true] at h
    obtain ⟨h1, h2, h3, h4, h5, h6⟩ := tame_plainL ds h.2
    obtain ⟨g1, g2, g3, g4, g5, g6⟩ := tame_plain d h.1
    simp only [plainL, pys, PyData.showableAll, PyData.hasDictAll, PyData.leavesShortAll, PyData.weightAll, PyData.depthAll, wtL, dpL, h1, h2, h3, h4, h5, h6, g1, g2, g3, g4, g5, g6, Bool.and_self, Bool.or_self]
    exact ⟨trivial, trivial, trivial, trivial, trivial, trivial⟩
end
theorem repr_tame {ds : List D} (h : tameL ds = true) (hw : wtL ds ≤ 1000000) (hd : dpL ds ≤ 60) : fRepr [.tup ds] = some (.str (PyData.tuple (pys ds)).shown) := by
  obtain ⟨h1, h2, h3, h4, h5, h6⟩ := tame_plainL ds h
  have hs : (PyData.tuple (pys ds)).shown.length ≤ sizeLine := by
    refine PyData.shown_fits (B := 8) (by decide) (by decide) ?_ ?_
    · simpa only [PyData.leavesShort] using h4
    · simp only [PyData.weight, h5]
      have : (2 : Nat) ^ 20 = 1048576 := by decide
      omega
  show (if _ then _ else none) = _
  rw [if_pos]
  refine ⟨h1, by simpa only [PyData.showable] using h2, by simpa only [PyData.hasDict] using h3, ?_, hs⟩
  simp only [PyData.depth, h6]
  omega
end FL

namespace FL
open PySem PySem.Spec PyProof.Rows L2 DL NdefX LamX
variable [Amb] [Cbs]

def mIsCb (i k : Nat) : M Unit := fun ε => match ε[i]? with
  | some (some (.cb n)) => if n = k then some (.ok (), ε) else none
  | _ => none
section
variable {XD : XT} {ε : ED} {S : SD}
theorem wM_isCb {i k : Nat} {Q : Unit → SD → Prop} (h : wM XD (mIsCb i k) ε S Q) : ∃ a F, ε[i]? = some (some (.ref a)) ∧ S a = some (.fn F) ∧ Cbs.cb k a F ∧ Q () S := by
  obtain ⟨εp, fp, o, εp', st, e, q⟩ := h
  unfold mIsCb at e
  split at e
  · rename_i n hn
    split at e
    · rename_i hk
      subst hk
      cases e
      obtain ⟨d, fq, e1, ov, _⟩ := st.slot hn
      obtain ⟨a, F, rfl, _, h1, h2⟩ := ov.cb
      exact ⟨a, F, e1, h1, h2, q S fp st Nx.refl⟩
    · cases e
  · cases e
theorem wM_liftX {α : Type} {o : Option α} {Q : α → SD → Prop} (h : wM XD (mLift o) ε S Q) : ∃ a, o = some a ∧ ∀ S', Ext [] S S' → Q a S' := by
  obtain ⟨εp, fp, x, εp', st, e, k⟩ := h
  unfold mLift at e
  split at e
  · cases e
  · cases e
    refine ⟨_, rfl, fun S' x => k S' fp ⟨st.own.frame fun a ha => ?_, st.nd⟩ ⟨fun a h => .inl h, fun q c hq hc => x q c (by simp) hc⟩⟩
    obtain ⟨c, hc⟩ := st.own.dom a ha
    rw [hc]
    exact x a c (by simp) hc
end
section
variable {X : Cx} {XD : XT} {i j k : Nat} {x : Str} {p pos : Pos} {e e2 : Expr} {es : List Expr} {pas : M (List D)} {pa : M D} {pf : M (List D)} {g : List D → Option D} {g2 : D → List D → Option D}
def mCbP (i k : Nat) (g : List D → Option D) (pas : M (List D)) : M D := mBind (mIsCb i k) fun _ => mBind pas fun ds => mBind (mIsCb i k) fun _ => mLift (g ds)
theorem fe_cbP (hcb : ∀ a F, Cbs.cb k a F → CbX X j a F (spP g)) (hr : RoomG j X.A) (ha : FA X XD (e :: es) pas)
    (hN : X.N[i]? = some x := by rfl) (hv : Vis X.env.scope x := by first | exact Or.inl rfl | exact Or.inr (Or.inl rfl) | exact Or.inr (Or.inr rfl)) (hd : (x == ("__debug__" : Str)) = false := by decide) (hcd : (x == ("__classdict__" : Str)) = false := by decide)
    (he : starEach (e :: es) X.env = (false, eval e X.env) :: starEach es X.env := by rfl) (hpl : (backTo pos (starEach es X.env)).any (·.1) = false := by rfl) :
    FE X XD (.Call (.Name x p) (e :: es) [] pos) (mCbP i k g pas) :=
  DE_imp (de_cb (CB := Cbs.cb k) hcb hr ha hN hv hd hcd he hpl) fun ε S Q h => by
    obtain ⟨a, F, e1, h1, h2, h⟩ := wM_isCb (wM_bind h)
    refine ⟨a, F, e1, h1, wM_imp (wM_bind h) fun ds S1 h => ?_⟩
    obtain ⟨a', F', e1', h1', h2', h⟩ := wM_isCb (wM_bind h)
    rw [e1] at e1'
    cases e1'
    obtain ⟨d, e3, h'⟩ := wM_lift h
    exact ⟨F', h1', h2', d, e3, h'⟩
/-- a value and a list just made -/
def sp2 (g : D → List D → Option D) : DSp := fun ds S Q => ∃ w a parts r, ds = [w, .ref a] ∧ S a = some (.lst parts) ∧ g w parts = some r ∧ ∀ S', Ext [a] S S' → Q r S'
def mCb2 (i k : Nat) (g : D → List D → Option D) (pa : M D) (pf : M (List D)) : M D := mBind (mIsCb i k) fun _ => mBind pa fun w => mBind pf fun ds => mBind (mIsCb i k) fun _ => mLift (g w ds)
theorem fe_cb2 (hcb : ∀ a F, Cbs.cb k a F → CbX X j a F (sp2 g2)) (hr : RoomG j X.A) (ha : FE X XD e pa) (hf : FF X XD e2 pf)
    (hN : X.N[i]? = some x := by rfl) (hv : Vis X.env.scope x := by first | exact Or.inl rfl | exact Or.inr (Or.inl rfl) | exact Or.inr (Or.inr rfl)) (hd : (x == ("__debug__" : Str)) = false := by decide) (hcd : (x == ("__classdict__" : Str)) = false := by decide)
    (he : starEach [e, e2] X.env = (false, eval e X.env) :: starEach [e2] X.env := by rfl) (he2 : starEach [e2] X.env = (false, eval e2 X.env) :: starEach [] X.env := by rfl) (hpl : (backTo pos (starEach [e2] X.env)).any (·.1) = false := by rfl) :
    FE X XD (.Call (.Name x p) [e, e2] [] pos) (mCb2 i k g2 pa pf) :=
  DE_imp (de_cb (CB := Cbs.cb k) hcb hr (da_cons ha (da_cons (de_new hf) da_nil he2) he) hN hv hd hcd he hpl) fun ε S Q h => by
    obtain ⟨a, F, e1, h1, h2, h⟩ := wM_isCb (wM_bind h)
    refine ⟨a, F, e1, h1, wM_imp (wM_bind h) fun w S1 h => wM_imp (wM_bind h) fun ds S2 h => fun q hq => ?_⟩
    obtain ⟨a', F', e1', h1', h2', h⟩ := wM_isCb (wM_bind h)
    rw [e1] at e1'
    cases e1'
    obtain ⟨r, e3, h'⟩ := wM_liftX h
    have ne : a ≠ q := by
      rintro rfl
      rw [hq] at h1'
      cases h1'
    refine ⟨F', by rw [put_ne ne]; exact h1', h2', w, q, ds, r, rfl, put_same, e3, fun S' x => h' S' fun b c _ hb => ?_⟩
    have nb : b ≠ q := by
      rintro rfl
      rw [hq] at hb
      cases hb
    exact x b c (by simpa using nb) (by rw [put_ne nb]; exact hb)
end
theorem startN_eq {N : List Str} {ds cs : List D} : startN N ds cs = startD N (ds ++ cs) := by
  unfold startN startD
  rw [List.map_append, List.append_assoc, List.length_append, Nat.sub_sub]
section
variable {P : Program} {w : World} {K : PySem.W.Frag} {mg : Str → Option Value} {base : Heap} {N ps fr : List Str} {F : NF} {f : Addr} {k : Nat} {cs : List D} {ms : List Nat} {body : M Res}
def nestP (np n : Nat) (body : M Res) (cs : List D) : List D → Option D := fun ds => if ds.length = np then runP n body (ds ++ cs) else none
theorem nfnP (S : NScope N ps fr F.scope) (hb : ∀ (doc pm ctv : Value) (us : List Value), us.length = ps.length → bindArgs (F.fd doc pm ctv) ⟨us, []⟩ = pure (ps.zip us))
    (hbody : ∀ (A : Around) (outer : List Env) (s : Shared) (H : Hp) (E : XK), RoomG k (A.deeper (envF F f s.heap.objs.size)) → FSs (ncx CX0 P w K mg base N F f A outer s H E).nox NoX F.body ms body) : NFn P w K mg base (k + 1) f (FK.of F) fr cs (spP (nestP ps.length N.length body cs)) := by
  refine nfn_of S hb (fun ds S Q ⟨d, e, _⟩ => ?_) (wS NoX ms body) hbody (fun ds S1 Q ⟨d, e, q⟩ => ?_)
  · unfold nestP at e
    split at e
    · assumption
    · cases e
  · unfold nestP at e
    split at e
    · rw [startN_eq]
      have st0 : St S1 (startP N.length ((ds ++ cs).map .val)) (startD N (ds ++ cs)) [] := ⟨by
        unfold startP startD
        rw [List.length_map]
        exact own_start _ (own_vals (ds ++ cs)), List.nodup_nil⟩
      have sub : ∀ {S' : SD} {fp' : List Addr}, Nx S1 [] S' fp' → Sub S1 S' := fun n a c h => ⟨c, n.ext a c (by simp) h, Cell.le_refl c⟩
      unfold runP at e
      split at e
      · rename_i d1 ε1 e1
        cases e
        exact ⟨_, [], _, ε1, st0, e1, fun S' fp' ε'' own ag fq d ov nd2 n2 => by
          cases ov.val.1
          exact ⟨S1, sub n2, q⟩⟩
      · rename_i ε1 e1
        cases e
        exact ⟨_, [], _, ε1, st0, e1, fun S' fp' ε'' own ag nd2 n2 => ⟨S1, sub n2, q⟩⟩
      · cases e
    · cases e
def runJ (n : Nat) (body : M Res) (cs : List D) : D → List D → Option D := fun w parts => match body (startP n (.val w :: .lst parts :: cs.map .val)) with
  | some (.ok (.rt (.val d)), _) => some d
  | some (.ok .nx, _) => some .non
  | _ => none
theorem nfn2 (hps : ps.length = 2) (S : NScope N ps fr F.scope) (hb : ∀ (doc pm ctv : Value) (us : List Value), us.length = ps.length → bindArgs (F.fd doc pm ctv) ⟨us, []⟩ = pure (ps.zip us))
    (hbody : ∀ (A : Around) (outer : List Env) (s : Shared) (H : Hp) (E : XK), RoomG k (A.deeper (envF F f s.heap.objs.size)) → FSs (ncx CX0 P w K mg base N F f A outer s H E).nox NoX F.body ms body) : NFn P w K mg base (k + 1) f (FK.of F) fr cs (sp2 (runJ N.length body cs)) := by
  refine nfn_of S hb (fun ds S Q ⟨w, a, parts, r, e, _⟩ => by rw [e, hps]; rfl) (wS NoX ms body) hbody (fun ds S1 Q ⟨w, a, parts, r, e0, ha, e, q⟩ => ?_)
  subst e0
  rw [startN_eq]
  have ol : OwnL S1 (.val w :: .lst parts :: cs.map .val) ([w, .ref a] ++ cs) [a] :=
    ownL_cons (f1 := []) (f2 := [a]) own_val (ownL_cons (f1 := [a]) (f2 := []) (own_lst ha) (own_vals cs))
  have st0 : St S1 (startP N.length (.val w :: .lst parts :: cs.map .val)) (startD N ([w, .ref a] ++ cs)) [a] := ⟨by
    unfold startP startD
    have h1 : ([w, D.ref a] ++ cs).length = (PV.val w :: .lst parts :: cs.map .val).length := by simp
    rw [h1]
    exact own_start _ ol, by simp⟩
  have go : ∀ {S' : SD} {fp' : List Addr}, Nx S1 [a] S' fp' → Q r S' := fun n => q _ n.ext
  unfold runJ at e
  split at e
  · rename_i d1 ε1 e1
    cases e
    exact ⟨_, [a], _, ε1, st0, e1, fun S' fp' ε'' own ag fq d ov nd2 n2 => by
      cases ov.val.1
      exact .of (go n2)⟩
  · rename_i ε1 e1
    cases e
    exact ⟨_, [a], _, ε1, st0, e1, fun S' fp' ε'' own ag nd2 n2 => .of (go n2)⟩
  · cases e
end
end FL

namespace FL
open PySem PySem.Spec PyProof.Rows L2 DL NdefX LamX
section
variable [Amb]
abbrev cbs2 (a1 : Addr) (F1 : FK) (a2 : Addr) (F2 : FK) : Cbs := ⟨fun n a F => (n = 0 ∧ a = a1 ∧ F = F1) ∨ (n = 1 ∧ a = a2 ∧ F = F2)⟩
/-- the promise of a def that gets a value and two functions -/
def spFold (m : D → Option D) : Addr → FK → Addr → FK → DSp := fun a1 F1 a2 F2 ds S Q => ∃ d r, ds = [d, .ref a1, .ref a2] ∧ S a1 = some (.fn F1) ∧ S a2 = some (.fn F2) ∧ a1 ≠ a2 ∧ m d = some r ∧ ∀ S', Ext [a1, a2] S S' → Q r S'
def runC (n : Nat) (body : M Res) : D → Option D := fun d => match body (startP n [.val d, .cb 0, .cb 1]) with
  | some (.ok (.rt (.val r)), _) => some r
  | some (.ok .nx, _) => some .non
  | _ => none
section
variable {P : Program} {w : World} {K : PySem.W.Frag} {mg : Str → Option Value} {base : Heap}
theorem fn2F {x qual : Str} {st : Stmt} {f : Addr} {fd : FuncData} {N ps : List Str} {k j : Nat} {ms : List Nat} {body : M Res} {g1 : List D → Option D} {g2 : D → List D → Option D} (hps : ps.length = 3) (F : Fun K x qual st f fd) (S : FnScope N ps (defScope st))
    (hbody : ∀ (C : Cbs) (cdv : Value) (A : Around) (outer : List Env) (s : Shared) (H : Hp) (E : XK), (∀ a F, C.cb 0 a F → CbX (cxOf CX0 P w K mg base N qual (defScope st) f cdv A outer s H E).nox j a F (spP g1)) → (∀ a F, C.cb 1 a F → CbX (cxOf CX0 P w K mg base N qual (defScope st) f cdv A outer s H E).nox j a F (sp2 g2)) →
      RoomG k (A.deeper (envOfC qual (defScope st) s.heap.objs.size f cdv)) → @FSs _ C (cxOf CX0 P w K mg base N qual (defScope st) f cdv A outer s H E).nox NoX (defBody st) ms body) : Fn2 P w K mg base (k + 1) j f fd ps (spP g1) (sp2 g2) (spFold (runC N.length body)) := by
  refine fn2_of F S (fun a1 F1 a2 F2 ds S Q ⟨d, r, e, _⟩ => by rw [e, hps]; rfl) (fun a1 F1 a2 F2 => @wS (cbs2 a1 F1 a2 F2) NoX ms body) (fun cdv A outer s H E a1 a2 F1 F2 c1 c2 hr => hbody (cbs2 a1 F1 a2 F2) cdv A outer s H E (fun a F h => ?_) (fun a F h => ?_) hr) fun a1 F1 a2 F2 ds S1 Q h => ?_
  · rcases h with ⟨_, rfl, rfl⟩ | ⟨z, _⟩
    · exact c1
    · cases z
  · rcases h with ⟨z, _⟩ | ⟨_, rfl, rfl⟩
    · cases z
    · exact c2
  · obtain ⟨d, r, rfl, h1, h2, ne, e, q⟩ := h
    letI : Cbs := cbs2 a1 F1 a2 F2
    have ol : OwnL S1 [.val d, .cb 0, .cb 1] [d, .ref a1, .ref a2] [a1, a2] :=
      ownL_cons (f1 := []) (f2 := [a1, a2]) own_val (ownL_cons (f1 := [a1]) (f2 := [a2]) (own_cb h1 (.inl ⟨rfl, rfl, rfl⟩)) (ownL_cons (f1 := [a2]) (f2 := []) (own_cb h2 (.inr ⟨rfl, rfl, rfl⟩)) ownL_nil))
    have st0 : St S1 (startP N.length [.val d, .cb 0, .cb 1]) (startD N [d, .ref a1, .ref a2]) [a1, a2] := ⟨own_start _ ol, by simp [ne]⟩
    unfold runC at e
    split at e
    · rename_i d1 ε1 e1
      cases e
      exact ⟨_, _, _, ε1, st0, e1, fun S' fp' ε'' own ag fq d ov nd2 n2 => by
        cases ov.val.1
        exact .of (q _ n2.ext)⟩
    · rename_i ε1 e1
      cases e
      exact ⟨_, _, _, ε1, st0, e1, fun S' fp' ε'' own ag nd2 n2 => .of (q _ n2.ext)⟩
    · cases e
end
variable [Cbs]
def capsP (ε : PEnv) : List Nat → Option (List D)
  | [] => some []
  | j :: js => match ε[j]? with
    | some (some (.val d)) => (capsP ε js).map (d :: ·)
    | _ => none
def mFold (i0 i j : Nat) (js1 js2 : List Nat) (g : List D → List D → D → Option D) (h : D → Option D) : M D := fun ε => match ε[i0]?, capsP ε js1, capsP ε js2 with
  | some (some (.val d)), some c1, some c2 => if i < ε.length ∧ j < ε.length then (match (g c1 c2 d).bind h with
    | some r => some (.ok r, ε)
    | none => none) else none
  | _, _, _ => none
theorem caps_holds {S : SD} {εp : PEnv} {ε : ED} {fp : List Addr} (own : OwnE S εp ε fp) : ∀ {js : List Nat} {cs : List D}, capsP εp js = some cs → ∀ j ∈ js, ∃ d, ε[j]? = some (some d) ∧ True
  | [], cs, h, j, hj => nomatch hj
  | i :: js, cs, h, j, hj => by
    unfold capsP at h
    split at h
    · rename_i d hd
      obtain ⟨cs', e, rfl⟩ := Option.map_eq_some_iff.mp h
      rcases List.mem_cons.mp hj with rfl | hj
      · obtain ⟨d', fq, fr, e1, _⟩ := own.take hd
        exact ⟨d', e1, trivial⟩
      · exact caps_holds own e j hj
    · cases h
theorem caps_eq {S : SD} {εp : PEnv} {ε ε' : ED} {fp : List Addr} (own : OwnE S εp ε fp) : ∀ {js : List Nat} {cs : List D}, capsP εp js = some cs → (∀ j ∈ js, ε'[j]? = ε[j]?) → Holds js ε' cs
  | [], cs, h, _ => by cases h; rfl
  | i :: js, cs, h, k => by
    unfold capsP at h
    split at h
    · rename_i d hd
      obtain ⟨cs', e, rfl⟩ := Option.map_eq_some_iff.mp h
      obtain ⟨d', fq, fr, e1, ov, _⟩ := own.take hd
      cases ov.val.1
      have r := caps_eq own e fun j hj => k j (List.mem_cons_of_mem _ hj)
      unfold Holds at r ⊢
      rw [List.map_cons, List.map_cons, r, k i List.mem_cons_self, e1]
    · cases h
/-- the reading of a return behind two defs -/
theorem fss_fold {X : Cx} {XD : XT} {st1 st2 : Stmt} {e : Expr} {pos : Pos} {i0 i j : Nat} {js1 js2 : List Nat} {mk1 mk2 : Addr → NF} {sc1 sc2 : FK → Prop} {g : List D → List D → D → Option D} {h : D → Option D} {tw : DTE}
    (h1 : DS X st1 (dNdef i mk1)) (h2 : DS X st2 (dNdef j mk2)) (he : DE X e tw)
    (iw : ∀ ε S Q, dCall2 sc1 sc2 js1 js2 (fun c1 c2 => spFold (g c1 c2)) (fun ε S Q => ∃ x y z, ε[i0]? = some (some x) ∧ ε[i]? = some (some y) ∧ ε[j]? = some (some z) ∧ Q [x, y, z] S) ε S (fun r S1 => ∃ d, h r = some d ∧ Q d S1) → tw ε S Q)
    (m1 : ∀ c, sc1 (FK.of (mk1 c))) (m2 : ∀ c, sc2 (FK.of (mk2 c))) (n1 : i ≠ j) (n2 : i0 ≠ i ∧ i0 ≠ j) (n3 : ∀ k ∈ js1, k ≠ i ∧ k ≠ j) (n4 : ∀ k ∈ js2, k ≠ i ∧ k ≠ j) :
    FSs X XD [st1, st2, .Return (some e) pos] [i, j] (mRet (mFold i0 i j js1 js2 g h)) :=
  DSs_imp (dss_cons h1 (dss_cons h2 (dss_one (ds_ret he)))) fun Dn ε S hw => by
    obtain ⟨εp, fp, o, εp', st, e0, k⟩ := hw
    intro f c hf f2 c2 hf2
    refine iw _ _ _ ?_
    have e1 : ∃ d cs1 cs2 r r', εp[i0]? = some (some (.val d)) ∧ capsP εp js1 = some cs1 ∧ capsP εp js2 = some cs2 ∧ i < εp.length ∧ j < εp.length ∧ g cs1 cs2 d = some r ∧ h r = some r' ∧ o = .ok (.rt (.val r')) ∧ εp' = εp := by
      unfold mRet mMap mBind mFold at e0
      split at e0
      · cases e0
      · rename_i a ε1 q
        split at q
        · rename_i d cs1 cs2 a1 a2 a3
          split at q
          · rename_i hl
            split at q
            · rename_i r hr
              cases q
              obtain ⟨r0, q1, q2⟩ := Option.bind_eq_some_iff.mp hr
              cases e0
              exact ⟨d, cs1, cs2, r0, _, a1, a2, a3, hl.1, hl.2, q1, q2, rfl, rfl⟩
            · cases q
          · cases q
        · cases q
      · rename_i a ε1 q
        split at q
        · split at q
          · split at q <;> cases q
          · cases q
        · cases q
    obtain ⟨d, cs1, cs2, r, r', a1, a2, a3, l1, l2, q1, q2, rfl, rfl⟩ := e1
    have ln := st.own.length
    obtain ⟨d', fq, fr, b1, ov, _⟩ := st.own.take a1
    cases ov.val.1
    have ne : f ≠ f2 := by
      rintro rfl
      rw [put_same] at hf2
      cases hf2
    have nf : S f2 = none := by rw [put_ne ne.symm] at hf2; exact hf2
    have s1 : ∀ k, k ≠ i → k ≠ j → ((ε.set i (some (.ref f))).set j (some (.ref f2)))[k]? = ε[k]? := fun k ki kj => by
      rw [List.getElem?_set_ne (Ne.symm kj), List.getElem?_set_ne (Ne.symm ki)]
    refine ⟨_, _, _, (s1 i0 n2.1 n2.2).trans b1, (by rw [List.getElem?_set_ne (Ne.symm n1), List.getElem?_set_self (by omega)]), (by rw [List.getElem?_set_self (by rw [List.length_set]; omega)]), f, FK.of (mk1 c), f2, FK.of (mk2 c2), cs1, cs2, ?_, m1 c, ?_, put_same, m2 c2, ?_, d, r, rfl, ?_, put_same, ne, q1, fun S' x => ⟨r', q2, ?_⟩⟩
    · rw [put_ne ne, put_same]
    · exact caps_eq st.own a2 fun k hk => s1 k (n3 k hk).1 (n3 k hk).2
    · exact caps_eq st.own a3 fun k hk => s1 k (n4 k hk).1 (n4 k hk).2
    · rw [put_ne ne, put_same]
    · have kp : ∀ b c, S b = some c → S' b = some c := fun b c hb => by
        have b1 : b ≠ f := fun z => by rw [z, hf] at hb; cases hb
        have b2 : b ≠ f2 := fun z => by rw [z, nf] at hb; cases hb
        exact x b c (by simp [b1, b2]) (by rw [put_ne b2, put_ne b1]; exact hb)
      have own' : OwnE S' _ ε fp := st.own.frame fun a ha => by
        obtain ⟨c, hc⟩ := st.own.dom a ha
        rw [hc]
        exact kp a c hc
      exact k S' fp ε own' Agree.refl [] r' own_val (by rw [List.append_nil]; exact st.nd) (by rw [List.append_nil]; exact ⟨fun a ha => .inl ha, fun q c _ hc => kp q c hc⟩)
end
end FL

namespace FL
open PySem PySem.Spec PyProof.Rows L2 DL
variable [Amb] [Cbs]
section
variable {X : Cx} {XD : XT} {a b e tg : Expr} {rest : List Expr} {pa pb : M D} {p pos : Pos} {ms : List Nat}
/-- xs.extend(a tuple) -/
def mExtT (i : Nat) (pa : M D) : M D := mBind (mGetL i) fun _ => mBind pa fun x => mBind (mLift (toT x)) fun ys => mModL i (extL ys)
theorem toT_eq' {d : D} {ds : List D} (h : toT d = some ds) : d = .tup ds ∨ d = .ilst ds := by
  cases d <;> simp [toT] at h <;> subst h <;> simp
theorem fe_extT {apos cpos : Pos} {o : Expr} {i : Nat} (ho : DE X o (dVar i)) (ha : FE X XD e pa) (hbase : attributeBase o "extend" X.env (eval o X.env) = eval o X.env := by rfl)
    (hfew : ((backTo cpos (starEach [e] X.env)).all (fun x => !x.1) && (backToKw cpos (keywordEach [] X.env)).all (fun x => x.1.isSome)
      && decide (([e] : List Expr).length + ([] : List Keyword).length + (if ([] : List Keyword).isEmpty then 0 else 1) < 30)) = true := by rfl)
    (hline : (apos.endLine == cpos.line) = true := by rfl) (hs : starEach [e] X.env = (false, eval e X.env) :: starEach [] X.env := by rfl) (hplain : (backTo cpos (starEach [] X.env)).any (·.1) = false := by rfl) :
    FE X XD (.Call (.Attribute o "extend" apos) [e] [] cpos) (mExtT i pa) :=
  DE_imp (de_lm PySem.F.slot_list_extend PySem.F.type_list_extend dm_extT ho (da_cons ha da_nil hs) hbase hfew hline hs hplain) fun ε S Q h => by
    obtain ⟨q, ds0, e1, e2, h⟩ := wM_getL (wM_bind h)
    refine ⟨.ref q, e1, ⟨q, ds0, rfl, e2⟩, wM_imp (wM_bind h) fun x S1 h => ?_⟩
    obtain ⟨ys, ey, h⟩ := wM_lift (wM_bind h)
    obtain ⟨q', ds, b, ds', e3, e4, e5, h⟩ := wM_modL h
    cases slot_eq e1 e3
    have hx : x = .tup ys := by
      cases x <;> simp [toT] at ey
      rw [ey]
    subst hx
    unfold extL at e5
    split at e5
    · cases e5
      exact ⟨q, ds, ys, rfl, rfl, e4, by assumption, h⟩
    · cases e5
/-- x or y -/
def mOrT (pa pb : M D) : M D := mBind pa fun x => mBind (mLift (truD x)) fun k => if k = true then mPure x else pb
theorem fe_orT (ha : FE X XD a pa) (hb : FE X XD (.BoolOp .Or (b :: rest) pos) pb) : FE X XD (.BoolOp .Or (a :: b :: rest) pos) (mOrT pa pb) :=
  DE_imp (de_orT ha hb) fun ε S Q h => wM_imp (wM_bind h) fun x S1 h => by
    obtain ⟨k, e, h⟩ := wM_lift (wM_bind h)
    refine ⟨k, e, ?_⟩
    cases k with
    | true => exact wM_pure h
    | false => exact h
/-- for .. in reversed(xs) -/
def mRevI (i : Nat) : M (List D) := mBind (mGetL i) fun ds => mPure ds.reverse
def cRevL (i : Nat) : List D → PEnv → Bool := fun ds ε => match ε[i]? with
  | some (some (.lst es)) => sameL ds es.reverse
  | _ => false
theorem fi_rev {i : Nat} (hg : Gl X "reversed") (hm : X.mg "reversed" = none) (ha : DE X e (dVar i)) (hi : i ∉ ms := by decide) (hs : starEach [e] X.env = [(false, eval e X.env)] := by rfl) :
    FI X XD tg (.Call (.Name "reversed" p) [e] [] pos) ms (mRevI i) (cRevL i) :=
  DI_imp (di_rev hg hm (da_cons ha da_nil hs) hs) fun ε S R h => by
    obtain ⟨εp, fp, o, εp', st, e, k⟩ := h
    unfold mRevI mBind mGetL at e
    split at e
    · cases e
    · rename_i ds ε1 e0
      split at e0
      · rename_i ds' hd
        cases e0
        cases e
        obtain ⟨d', fq, e1, ow, _⟩ := st.slot hd
        obtain ⟨q, rfl, rfl, ha⟩ := ow.lst
        refine ⟨.ref q, e1, q, ds, rfl, ha, k S fp st Nx.refl _ fun S2 εp2 ε2 fp2 st2 _ ag hc => ?_⟩
        unfold cRevL at hc
        split at hc
        · rename_i es he
          cases List.reverse_inj.mp (sameL_eq hc)
          obtain ⟨d2, fq2, e2, ow2, _⟩ := st2.slot he
          obtain ⟨b, rfl, rfl, hb⟩ := ow2.lst
          have e3 := ag i hi
          rw [e2, e1] at e3
          cases e3
          exact hb
        · cases hc
      · cases e0
    · rename_i x ε1 e0
      split at e0
      · cases e0
      · cases e0
/-- [..] == xs -/
def fEqL (ds es : List D) : Option D := if plainL ds = true ∧ plainL es = true ∧ min (D.ilst ds).py.depth (D.ilst es).py.depth ≤ 60 then some (.bl (PyData.eqv (D.ilst ds).py (D.ilst es).py)) else none
def mEqFL (pf : M (List D)) (i : Nat) : M D := mBind pf fun ds => mBind (mGetL i) fun es => mLift (fEqL ds es)
theorem wM_eqFL {pf : M (List D)} {i : Nat} {ε : ED} {S : SD} {Q : DK} (h : wM XD (mEqFL pf i) ε S Q) : dEqFL (wM XD pf) (dVar i) ε S Q := wM_imp (wM_bind h) fun ds S1 h => by
  obtain ⟨q, es, e1, e2, h⟩ := wM_getL (wM_bind h)
  obtain ⟨r, e3, h⟩ := wM_lift h
  unfold fEqL at e3
  split at e3
  · rename_i hc
    cases e3
    exact ⟨.ref q, e1, q, es, rfl, e2, hc.1, hc.2.1, hc.2.2, h⟩
  · cases e3
theorem fe_eqFL {pf : M (List D)} {i : Nat} (hv : X.A.units + 64 < cLine) (ha : FF X XD a pf) (hb : DE X b (dVar i)) (hm : behindInMarks .Eq b = false := by first | exact nomark _ | with_unfolding_all rfl) : FE X XD (.Compare a [.Eq] [b] pos) (mEqFL pf i) := DE_imp (de_eqFL hv ha hb hm) fun _ _ _ => wM_eqFL
theorem ft_eqFL {pf : M (List D)} {i : Nat} (hv : X.A.units + 64 < cLine) (ha : FF X XD a pf) (hb : DE X b (dVar i)) (hm : behindInMarks .Eq b = false := by first | exact nomark _ | with_unfolding_all rfl) : FT X XD (.Compare a [.Eq] [b] pos) (mB (mEqFL pf i)) := DT_imp (dt_eqFL hv ha hb hm) fun _ _ _ h => dB_imp (fun _ _ _ => wM_eqFL) (wM_B h)
end
end FL

namespace FL
open PySem PySem.Spec PyProof.Rows L2 DL NdefX LamX
section
variable [Amb] [Cbs]
def mFoldL (i0 : Nat) (js1 js2 : List Nat) (g : List D → List D → D → Option D) (h : D → Option D) : M D := fun ε => match ε[i0]?, capsP ε js1, capsP ε js2 with
  | some (some (.val d)), some c1, some c2 => match (g c1 c2 d).bind h with
    | some r => some (.ok r, ε)
    | none => none
  | _, _, _ => none
/-- the arguments: a name, two lambdas -/
def dArgsLL (i0 : Nat) (mk1 mk2 : Addr → FK) : DTA := fun ε S Q => ∃ x, ε[i0]? = some (some x) ∧ ∀ f c, S f = none → ∀ f2 c2, put S f (.fn (mk1 c)) f2 = none → Q [x, .ref f, .ref f2] (put (put S f (.fn (mk1 c))) f2 (.fn (mk2 c2)))
/-- a return with two lambdas -/
theorem fs_foldL {X : Cx} {XD : XT} {e : Expr} {pos : Pos} {i0 : Nat} {js1 js2 ms : List Nat} {mk1 mk2 : Addr → FK} {sc1 sc2 : FK → Prop} {g : List D → List D → D → Option D} {h : D → Option D} {tw : DTE} (he : DE X e tw)
    (iw : ∀ ε S Q, dCall2 sc1 sc2 js1 js2 (fun c1 c2 => spFold (g c1 c2)) (dArgsLL i0 mk1 mk2) ε S (fun r S1 => ∃ d, h r = some d ∧ Q d S1) → tw ε S Q)
    (m1 : ∀ c, sc1 (mk1 c)) (m2 : ∀ c, sc2 (mk2 c)) : FS X XD (.Return (some e) pos) ms (mRet (mFoldL i0 js1 js2 g h)) :=
  DS_imp (ds_ret he) fun Dn ε S hw => by
    obtain ⟨εp, fp, o, εp', st, e0, k⟩ := hw
    refine iw _ _ _ ?_
    have e1 : ∃ d cs1 cs2 r r', εp[i0]? = some (some (.val d)) ∧ capsP εp js1 = some cs1 ∧ capsP εp js2 = some cs2 ∧ g cs1 cs2 d = some r ∧ h r = some r' ∧ o = .ok (.rt (.val r')) ∧ εp' = εp := by
      unfold mRet mMap mBind mFoldL at e0
      split at e0
      · cases e0
      · rename_i a ε1 q
        split at q
        · rename_i d cs1 cs2 a1 a2 a3
          split at q
          · rename_i r hr
            cases q
            obtain ⟨r0, q1, q2⟩ := Option.bind_eq_some_iff.mp hr
            cases e0
            exact ⟨d, cs1, cs2, r0, _, a1, a2, a3, q1, q2, rfl, rfl⟩
          · cases q
        · cases q
      · rename_i a ε1 q
        split at q
        · split at q <;> cases q
        · cases q
    obtain ⟨d, cs1, cs2, r, r', a1, a2, a3, q1, q2, rfl, rfl⟩ := e1
    obtain ⟨d', fq, fr, b1, ov, _⟩ := st.own.take a1
    cases ov.val.1
    refine ⟨_, b1, fun f c hf f2 c2 hf2 => ?_⟩
    have ne : f ≠ f2 := by
      rintro rfl
      rw [put_same] at hf2
      cases hf2
    have nf : S f2 = none := by rw [put_ne ne.symm] at hf2; exact hf2
    refine ⟨f, mk1 c, f2, mk2 c2, cs1, cs2, ?_, m1 c, caps_eq st.own a2 (fun _ _ => rfl), put_same, m2 c2, caps_eq st.own a3 (fun _ _ => rfl), d, r, rfl, ?_, put_same, ne, q1, fun S' x => ⟨r', q2, ?_⟩⟩
    · rw [put_ne ne, put_same]
    · rw [put_ne ne, put_same]
    · have kp : ∀ b c, S b = some c → S' b = some c := fun b c hb => by
        have b1 : b ≠ f := fun z => by rw [z, hf] at hb; cases hb
        have b2 : b ≠ f2 := fun z => by rw [z, nf] at hb; cases hb
        exact x b c (by simp [b1, b2]) (by rw [put_ne b2, put_ne b1]; exact hb)
      have own' : OwnE S' _ ε fp := OwnE.frame st.own fun a ha => by
        obtain ⟨c, hc⟩ := st.own.dom a ha
        rw [hc]
        exact kp a c hc
      exact k S' fp ε own' Agree.refl [] r' own_val (by rw [List.append_nil]; exact st.nd) (by rw [List.append_nil]; exact ⟨fun a ha => .inl ha, fun q c _ hc => kp q c hc⟩)
end
end FL

namespace FL
open PySem PySem.Spec PyProof.Rows L2 DL NdefX LamX
section
variable [Amb] [Cbs] {P : Program} {w : World} {K : PySem.W.Frag} {mg : Str → Option Value} {base : Heap} {N ps fr : List Str} {qual : Str} {params : Arguments} {body : Expr} {scope : Scope} {cl : List (Str × Addr)} {c f : Addr} {k : Nat} {cs : List D} {p : M D}
/-- a lambda of one value -/
def lamP (np n : Nat) (p : M D) (cs : List D) : List D → Option D := fun ds => if ds.length = np then (match p (startP n ((ds ++ cs).map .val)) with
  | some (.ok d, _) => some d
  | _ => none) else none
theorem nlamP (S : NScope N ps fr scope) (hb : ∀ (pm ctv : Value) (us : List Value), us.length = ps.length → bindArgs (PySem.W.kla_fn "<lambda>" qual params body scope cl pm (.ref c) ctv) ⟨us, []⟩ = pure (ps.zip us))
    (hbody : ∀ (A : Around) (outer : List Env) (s : Shared) (H : Hp) (E : XK), RoomG k (A.deeper (envF ⟨"<lambda>", qual, params, [], scope, cl, c⟩ f s.heap.objs.size)) → FE (ncx CX0 P w K mg base N ⟨"<lambda>", qual, params, [], scope, cl, c⟩ f A outer s H E).nox NoX body p) :
    NFn P w K mg base (k + 1) f (FK.lam qual params body scope cl c) fr cs (spP (lamP ps.length N.length p cs)) := by
  refine nfn_lam S hb (fun ds S Q ⟨d, e, _⟩ => ?_) (wM NoX p) hbody (fun ds S1 Q ⟨d, e, q⟩ => ?_)
  · unfold lamP at e
    split at e
    · assumption
    · cases e
  · unfold lamP at e
    split at e
    · rw [startN_eq]
      have st0 : St S1 (startP N.length ((ds ++ cs).map .val)) (startD N (ds ++ cs)) [] := ⟨by
        unfold startP startD
        rw [List.length_map]
        exact own_start _ (own_vals (ds ++ cs)), List.nodup_nil⟩
      split at e
      · rename_i d1 ε1 e1
        cases e
        exact ⟨_, [], _, ε1, st0, e1, fun S' fp' st' n2 => ⟨S1, fun a c h => ⟨c, n2.ext a c (by simp) h, Cell.le_refl c⟩, q⟩⟩
      · cases e
    · cases e
def lamJ (n : Nat) (p : M D) (cs : List D) : D → List D → Option D := fun w parts => match p (startP n (.val w :: .lst parts :: cs.map .val)) with
  | some (.ok d, _) => some d
  | _ => none
theorem nlam2 (hps : ps.length = 2) (S : NScope N ps fr scope) (hb : ∀ (pm ctv : Value) (us : List Value), us.length = ps.length → bindArgs (PySem.W.kla_fn "<lambda>" qual params body scope cl pm (.ref c) ctv) ⟨us, []⟩ = pure (ps.zip us))
    (hbody : ∀ (A : Around) (outer : List Env) (s : Shared) (H : Hp) (E : XK), RoomG k (A.deeper (envF ⟨"<lambda>", qual, params, [], scope, cl, c⟩ f s.heap.objs.size)) → FE (ncx CX0 P w K mg base N ⟨"<lambda>", qual, params, [], scope, cl, c⟩ f A outer s H E).nox NoX body p) :
    NFn P w K mg base (k + 1) f (FK.lam qual params body scope cl c) fr cs (sp2 (lamJ N.length p cs)) := by
  refine nfn_lam S hb (fun ds S Q ⟨w, a, parts, r, e, _⟩ => by rw [e, hps]; rfl) (wM NoX p) hbody (fun ds S1 Q ⟨w, a, parts, r, e0, ha, e, q⟩ => ?_)
  subst e0
  rw [startN_eq]
  have ol : OwnL S1 (.val w :: .lst parts :: cs.map .val) ([w, .ref a] ++ cs) [a] :=
    ownL_cons (f1 := []) (f2 := [a]) own_val (ownL_cons (f1 := [a]) (f2 := []) (own_lst ha) (own_vals cs))
  have st0 : St S1 (startP N.length (.val w :: .lst parts :: cs.map .val)) (startD N ([w, .ref a] ++ cs)) [a] := ⟨by
    unfold startP startD
    have h1 : ([w, D.ref a] ++ cs).length = (PV.val w :: .lst parts :: cs.map .val).length := by simp
    rw [h1]
    exact own_start _ ol, by simp⟩
  unfold lamJ at e
  split at e
  · rename_i d1 ε1 e1
    cases e
    exact ⟨_, [a], _, ε1, st0, e1, fun S' fp' st' n2 => .of (q _ n2.ext)⟩
  · cases e
end
section
variable [Amb] [Cbs]
/-- the arguments: two names, a lambda -/
def dArgsDL (i0 i : Nat) (mk2 : Addr → FK) : DTA := fun ε S Q => ∃ x y, ε[i0]? = some (some x) ∧ ε[i]? = some (some y) ∧ ∀ f2 c2, S f2 = none → Q [x, y, .ref f2] (put S f2 (.fn (mk2 c2)))
/-- a def, then a return with it and a lambda -/
theorem fss_foldDL {X : Cx} {XD : XT} {st1 : Stmt} {e : Expr} {pos : Pos} {i0 i : Nat} {js1 js2 : List Nat} {mk1 : Addr → NF} {mk2 : Addr → FK} {sc1 sc2 : FK → Prop} {g : List D → List D → D → Option D} {h : D → Option D} {tw : DTE} (h1 : DS X st1 (dNdef i mk1)) (he : DE X e tw)
    (iw : ∀ ε S Q, dCall2 sc1 sc2 js1 js2 (fun c1 c2 => spFold (g c1 c2)) (dArgsDL i0 i mk2) ε S (fun r S1 => ∃ d, h r = some d ∧ Q d S1) → tw ε S Q)
    (m1 : ∀ c, sc1 (FK.of (mk1 c))) (m2 : ∀ c, sc2 (mk2 c)) (n2 : i0 ≠ i) (n3 : ∀ k ∈ js1, k ≠ i) (n4 : ∀ k ∈ js2, k ≠ i) : FSs X XD [st1, .Return (some e) pos] [i] (mRet (mFold i0 i i js1 js2 g h)) :=
  DSs_imp (dss_cons h1 (dss_one (ds_ret he))) fun Dn ε S hw => by
    obtain ⟨εp, fp, o, εp', st, e0, k⟩ := hw
    intro f c hf
    refine iw _ _ _ ?_
    have e1 : ∃ d cs1 cs2 r r', εp[i0]? = some (some (.val d)) ∧ capsP εp js1 = some cs1 ∧ capsP εp js2 = some cs2 ∧ i < εp.length ∧ g cs1 cs2 d = some r ∧ h r = some r' ∧ o = .ok (.rt (.val r')) ∧ εp' = εp := by
      unfold mRet mMap mBind mFold at e0
      split at e0
      · cases e0
      · rename_i a ε1 q
        split at q
        · rename_i d cs1 cs2 a1 a2 a3
          split at q
          · rename_i hl
            split at q
            · rename_i r hr
              cases q
              obtain ⟨r0, q1, q2⟩ := Option.bind_eq_some_iff.mp hr
              cases e0
              exact ⟨d, cs1, cs2, r0, _, a1, a2, a3, hl.1, q1, q2, rfl, rfl⟩
            · cases q
          · cases q
        · cases q
      · rename_i a ε1 q
        split at q
        · split at q
          · split at q <;> cases q
          · cases q
        · cases q
    obtain ⟨d, cs1, cs2, r, r', a1, a2, a3, l1, q1, q2, rfl, rfl⟩ := e1
    have ln := st.own.length
    have s1 : ∀ k, k ≠ i → (ε.set i (some (.ref f)))[k]? = ε[k]? := fun k ki => List.getElem?_set_ne (Ne.symm ki)
    obtain ⟨d', fq, fr, b1, ov, _⟩ := st.own.take a1
    cases ov.val.1
    refine ⟨_, _, (s1 i0 n2).trans b1, List.getElem?_set_self (by omega), fun f2 c2 hf2 => ?_⟩
    have ne : f ≠ f2 := by
      rintro rfl
      rw [put_same] at hf2
      cases hf2
    have nf : S f2 = none := by rw [put_ne ne.symm] at hf2; exact hf2
    refine ⟨f, FK.of (mk1 c), f2, mk2 c2, cs1, cs2, ?_, m1 c, caps_eq st.own a2 (fun k hk => s1 k (n3 k hk)), put_same, m2 c2, caps_eq st.own a3 (fun k hk => s1 k (n4 k hk)), d, r, rfl, ?_, put_same, ne, q1, fun S' x => ⟨r', q2, ?_⟩⟩
    · rw [put_ne ne, put_same]
    · rw [put_ne ne, put_same]
    · have kp : ∀ b c, S b = some c → S' b = some c := fun b c hb => by
        have b1 : b ≠ f := fun z => by rw [z, hf] at hb; cases hb
        have b2 : b ≠ f2 := fun z => by rw [z, nf] at hb; cases hb
        exact x b c (by simp [b1, b2]) (by rw [put_ne b2, put_ne b1]; exact hb)
      have own' : OwnE S' _ ε fp := OwnE.frame st.own fun a ha => by
        obtain ⟨c, hc⟩ := st.own.dom a ha
        rw [hc]
        exact kp a c hc
      exact k S' fp ε own' Agree.refl [] r' own_val (by rw [List.append_nil]; exact st.nd) (by rw [List.append_nil]; exact ⟨fun a ha => .inl ha, fun q c _ hc => kp q c hc⟩)
end
end FL

namespace FL
open PySem PySem.Spec PyProof.Rows L2 DL NdefX LamX
variable [Amb]
/-- the table of the code objects that a def makes -/
structure MkT (base : Heap) (mg : Str → Option Value) (nm : Nat → Nat → Str) (fd : FuncData) : Prop where
  ex : ∃ c P, fd.code = .ref c ∧ TabB base mg c P ∧ (P, nm) ∈ Amb.tabs ∧ ∀ p ∈ Amb.tabs, p.1 = P → p.2 = nm
section
variable {P : Program} {w : World} {K : PySem.W.Frag} {mg : Str → Option Value} {base : Heap}
theorem fnDc {x qual : Str} {st : Stmt} {f : Addr} {fd : FuncData} {N ps : List Str} {k : Nat} {sp : DSp} (F : Fun K x qual st f fd) (S : FnScope N ps (defScope st)) (len : ∀ ds S Q, sp ds S Q → ds.length = ps.length) (t : DTS)
    (hbody : ∀ (cdv : Value) (A : Around) (outer : List Env) (s : Shared) (H : Hp) (E : XK), fd.code = cdv → RoomG k (A.deeper (envOfC qual (defScope st) s.heap.objs.size f cdv)) → DSs (cxOf CX0 P w K mg base N qual (defScope st) f cdv A outer s H E).nox (defBody st) t)
    (hsp : ∀ ds S Q, sp ds S Q → t (endsD Q) (startD N ds) S) : FnD P w K mg base (k + 1) f fd ps sp := by
  obtain ⟨oc, od, kV, doc, pm, an, cdv, ct, osl, rfl, lk, hcd⟩ := F.ex
  refine fnG_of lk hcd S (fun vs H Q E ⟨ds, S1, Q0, a, _, c, _⟩ => by rw [a.length]; exact len ds S1 Q0 c) fun A outer s H vs Q E hr h => ?_
  obtain ⟨ds, S1, Q0, den, rS, c, wk⟩ := h
  refine ⟨_, PSs.nox (hbody cdv A outer s H E rfl hr), startD N ds, S1, endsD Q0, rel_start den, rS, hsp ds S1 Q0 c, ?_⟩
  refine ⟨fun ε' S' σ' H' q _ r f => ?_, fun d S' v H' q dd r f => ?_, fun _ _ _ _ q => q.elim, fun _ _ _ _ q => q.elim⟩
  · obtain ⟨S3, sub, q⟩ := q
    exact wk .non S3 .non H' q rfl (r.sub sub) (f.sub sub)
  · obtain ⟨S3, sub, q⟩ := q
    exact wk d S3 v H' q dd (r.sub sub) (f.sub sub)
variable [Cbs]
theorem fdPc {x qual : Str} {st : Stmt} {f : Addr} {fd : FuncData} {N ps : List Str} {k : Nat} {ms : List Nat} {body : M Res} (F : Fun K x qual st f fd) (S : FnScope N ps (defScope st))
    (hbody : ∀ (cdv : Value) (A : Around) (outer : List Env) (s : Shared) (H : Hp) (E : XK), fd.code = cdv → RoomG k (A.deeper (envOfC qual (defScope st) s.heap.objs.size f cdv)) → FSs (cxOf CX0 P w K mg base N qual (defScope st) f cdv A outer s H E).nox NoX (defBody st) ms body) :
    FnD P w K mg base (k + 1) f fd ps (spP (fnP ps.length N.length body)) := by
  refine fnDc F S (fun ds S Q ⟨d, e, _⟩ => ?_) (wS NoX ms body) hbody (fun ds S1 Q ⟨d, e, q⟩ => ?_)
  · unfold fnP at e
    split at e
    · assumption
    · cases e
  · unfold fnP at e
    split at e
    · have st0 : St S1 (startP N.length (ds.map .val)) (startD N ds) [] := ⟨by
        unfold startP startD
        rw [List.length_map]
        exact own_start _ (own_vals ds), List.nodup_nil⟩
      have sub : ∀ {S' : SD} {fp' : List Addr}, Nx S1 [] S' fp' → Sub S1 S' := fun n a c h => ⟨c, n.ext a c (by simp) h, Cell.le_refl c⟩
      unfold runP at e
      split at e
      · rename_i d1 ε1 e1
        cases e
        exact ⟨_, [], _, ε1, st0, e1, fun S' fp' ε'' own ag fq d ov nd2 n2 => by
          cases ov.val.1
          exact ⟨S1, sub n2, q⟩⟩
      · rename_i ε1 e1
        cases e
        exact ⟨_, [], _, ε1, st0, e1, fun S' fp' ε'' own ag nd2 n2 => ⟨S1, sub n2, q⟩⟩
      · cases e
    · cases e
theorem dcPc {x qual : Str} {st : Stmt} {f : Addr} {fd : FuncData} {N ps : List Str} {k : Nat} {ms : List Nat} {body : M Res} (F : Fun K x qual st f fd) (g : mg x = some (.ref f)) (bd : Binds K fd ps []) (S : FnScope N ps (defScope st))
    (hbody : ∀ (cdv : Value) (A : Around) (outer : List Env) (s : Shared) (H : Hp) (E : XK), fd.code = cdv → RoomG k (A.deeper (envOfC qual (defScope st) s.heap.objs.size f cdv)) → FSs (cxOf CX0 P w K mg base N qual (defScope st) f cdv A outer s H E).nox NoX (defBody st) ms body) :
    DC P w K mg base (k + 1) x ps (spP (fnP ps.length N.length body)) := ⟨f, fd, fdPc F S hbody, g, F.kp, bd⟩
end
/-- a def that gets a value and two functions -/
structure C2 (P : Program) (w : World) (K : PySem.W.Frag) (mg : Str → Option Value) (base : Heap) (k j : Nat) (x : Str) (ps : List Str) (m : (List D → Option D) → (D → List D → Option D) → D → Option D) : Prop where
  ex : ∃ f fd, (∀ g1 g2, Fn2 P w K mg base k j f fd ps (spP g1) (sp2 g2) (spFold (m g1 g2))) ∧ mg x = some (.ref f) ∧ PySem.W.keepIn K (.ref f) = true ∧ Binds K fd ps []
theorem ds_ndefS {X : Cx} {nm : Nat → Nat → Str} {c P : Addr} {st : Stmt} {name : Str} {pos : Pos} {i : Nat} (hst : st = .FunctionDef name (C8.fnArgs st) (C8.fnBody st) [] none [] (C8.fnScope st) none name pos) (TB : TabB X.base X.mg c P) (hcode : X.env.code = .ref c) (hm : (P, nm) ∈ Amb.tabs) (hn : nm pos.line pos.col = X.env.qual ++ name) (hu : ∀ p ∈ Amb.tabs, p.1 = P → p.2 = nm)
    (hfree : ∀ y ∈ (C8.fnScope st).names, y.2 = .free → X.env.scope.names.lookup y.1 = some .cell ∨ X.env.scope.names.lookup y.1 = some .free) (hd0 : (C8.fnArgs st).defaults = []) (hk0 : (C8.fnArgs st).kw_defaults = []) (ha : annTrees (C8.fnArgs st) none X.env = [])
    (hN : X.N.Nodup) (hi : X.N[i]? = some name) (hx : Loc X.env.scope name) (hf : X.fn name = true ∨ X.env.scope.names.lookup name = some .local) :
    DS X st (dNdef i (NF.of st name (X.env.qual ++ name) (cloFrom X.env.cells (C8.fnScope st).names []))) := by
  have q := ds_ndef (X := X) (body := C8.fnBody st) (pos := pos) TB hcode hm hn hu hfree hd0 hk0 ha hN hi hx hf
  rw [← hst] at q
  exact q
/-- how a function made here lies to the frame, by a look -/
def madeB (out sc : Scope) (N fr : List Str) (js : List Nat) : Bool :=
  sc.names.all (fun y => !decide (y.2 = .free) || decide (out.names.lookup y.1 = some .cell) || decide (out.names.lookup y.1 = some .free)) && fr.all (fun y => decide ((y, NameKind.free) ∈ sc.names)) && decide (js.map (fun j => N[j]?) = fr.map some)
theorem made_by {X : Cx} {scope : Scope} {fr : List Str} {js : List Nat} (h : madeB X.env.scope scope X.N fr js = true) (hf : ∀ y, X.fn y = true) : Made X scope fr js := by
  unfold madeB at h
  simp only [Bool.and_eq_true, Bool.not_eq_true', decide_eq_true_eq, List.all_eq_true, Bool.or_eq_true, decide_eq_false_iff_not] at h
  obtain ⟨⟨h1, h2⟩, h3⟩ := h
  exact ⟨fun y hy e => by
    rcases h1 y hy with (z | z) | z
    · exact absurd e z
    · exact .inl z
    · exact .inr z, h2, h3, hf⟩
section
variable {X : Cx} {XD : XT} {k j : Nat} {ps : List Str} {m : (List D → Option D) → (D → List D → Option D) → D → Option D} {x : Str} {p pos : Pos} {e : Expr} {es : List Expr} {ta : DTA} {sc1 sc2 : FK → Prop} {scope1 scope2 : Scope} {fr1 fr2 : List Str} {js1 js2 : List Nat} {g1 : List D → List D → Option D} {g2 : List D → D → List D → Option D}
theorem de_fold (C : C2 X.prog X.w X.K X.mg X.base k j x ps m) (M1 : Made X scope1 fr1 js1) (M2 : Made X scope2 fr2 js2) (c1 : ∀ F, sc1 F → F.cl = cloFrom X.env.cells scope1.names []) (c2 : ∀ F, sc2 F → F.cl = cloFrom X.env.cells scope2.names [])
    (n1 : ∀ a F cs, sc1 F → NFn X.prog X.w X.K X.mg X.base j a F fr1 cs (spP (g1 cs))) (n2 : ∀ a F cs, sc2 F → NFn X.prog X.w X.K X.mg X.base j a F fr2 cs (sp2 (g2 cs)))
    (hr : RoomG k X.A) (hg : Gl X x) (ha : DA X (e :: es) ta)
    (hdb : (x == ("__debug__" : Str)) = false := by decide) (he : starEach (e :: es) X.env = (false, eval e X.env) :: starEach es X.env := by rfl) (hpl : (backTo pos (starEach es X.env)).any (·.1) = false := by rfl) :
    DE X (.Call (.Name x p) (e :: es) [] pos) (dCall2 sc1 sc2 js1 js2 (fun c1 c2 => spFold (m (g1 c1) (g2 c2))) ta) := by
  obtain ⟨f, fd, F, hm, hk, hb⟩ := C.ex
  exact de_call2 (s1 := fun cs => spP (g1 cs)) (s2 := fun cs => sp2 (g2 cs)) (sp := fun c1 c2 => spFold (m (g1 c1) (g2 c2))) (fun cs1 cs2 => F _ _) M1 M2 c1 c2 n1 n2 hr hg hm hk hb ha hdb he hpl
end
section
variable [Cbs] {X : Cx} {XD : XT} {st1 st2 : Stmt} {e : Expr} {pos : Pos} {i0 i j : Nat} {js1 js2 : List Nat} {mk1 mk2 : Addr → NF} {lk1 lk2 : Addr → FK} {g : List D → List D → D → Option D} {f : D → D → Option D} {d0 : D}
theorem spFold_imp {m : D → Option D} {a1 a2 : Addr} {F1 F2 : FK} {ds : List D} {S : SD} {Q Q' : DK} (h : spFold m a1 F1 a2 F2 ds S Q) (i : ∀ r S, Q r S → Q' r S) : spFold m a1 F1 a2 F2 ds S Q' := by
  obtain ⟨d, r, e, h1, h2, ne, e2, q⟩ := h
  exact ⟨d, r, e, h1, h2, ne, e2, fun S' x => i _ _ (q S' x)⟩
abbrev scD (mk : Addr → NF) : FK → Prop := fun F => ∃ c, F = FK.of (mk c)
abbrev scL (mk : Addr → FK) : FK → Prop := fun F => ∃ c, F = mk c
/-- two defs, a return with both -/
theorem fss_A (h1 : DS X st1 (dNdef i mk1)) (h2 : DS X st2 (dNdef j mk2)) (he : DE X e (dCall2 (scD mk1) (scD mk2) js1 js2 (fun c1 c2 => spFold (g c1 c2)) (dCons (dVar i0) (dCons (dVar i) (dCons (dVar j) dNil)))))
    (n1 : i ≠ j) (n2 : i0 ≠ i ∧ i0 ≠ j) (n3 : ∀ k ∈ js1, k ≠ i ∧ k ≠ j) (n4 : ∀ k ∈ js2, k ≠ i ∧ k ≠ j) : FSs X XD [st1, st2, .Return (some e) pos] [i, j] (mRet (mFold i0 i j js1 js2 g some)) :=
  fss_fold (sc1 := scD mk1) (sc2 := scD mk2) h1 h2 he (fun ε S Q ⟨x, y, z, e1, e2, e3, a1, F1, a2, F2, c1, c2, q1, q2, q3, q4, q5, q6, q7⟩ => ⟨x, e1, y, e2, z, e3, a1, F1, a2, F2, c1, c2, q1, q2, q3, q4, q5, q6, spFold_imp q7 fun r S ⟨d, e, q⟩ => by
    cases e
    exact q⟩) (fun c => ⟨c, rfl⟩) (fun c => ⟨c, rfl⟩) n1 n2 n3 n4
/-- the same, what comes is compared -/
theorem fss_Ac (h1 : DS X st1 (dNdef i mk1)) (h2 : DS X st2 (dNdef j mk2)) (he : DE X e (dOp (rF f) (dCall2 (scD mk1) (scD mk2) js1 js2 (fun c1 c2 => spFold (g c1 c2)) (dCons (dVar i0) (dCons (dVar i) (dCons (dVar j) dNil)))) (dC d0)))
    (n1 : i ≠ j) (n2 : i0 ≠ i ∧ i0 ≠ j) (n3 : ∀ k ∈ js1, k ≠ i ∧ k ≠ j) (n4 : ∀ k ∈ js2, k ≠ i ∧ k ≠ j) : FSs X XD [st1, st2, .Return (some e) pos] [i, j] (mRet (mFold i0 i j js1 js2 g fun r => f r d0)) :=
  fss_fold (sc1 := scD mk1) (sc2 := scD mk2) h1 h2 he (fun ε S Q ⟨x, y, z, e1, e2, e3, a1, F1, a2, F2, c1, c2, q1, q2, q3, q4, q5, q6, q7⟩ => ⟨x, e1, y, e2, z, e3, a1, F1, a2, F2, c1, c2, q1, q2, q3, q4, q5, q6, spFold_imp q7 fun r S ⟨d, e, q⟩ => ⟨d, e, q⟩⟩) (fun c => ⟨c, rfl⟩) (fun c => ⟨c, rfl⟩) n1 n2 n3 n4
/-- a def, a return with it and a lambda -/
theorem fss_B (h1 : DS X st1 (dNdef i mk1)) (he : DE X e (dCall2 (scD mk1) (scL lk2) js1 js2 (fun c1 c2 => spFold (g c1 c2)) (dCons (dVar i0) (dCons (dVar i) (dCons (dLam lk2) dNil)))))
    (n2 : i0 ≠ i) (n3 : ∀ k ∈ js1, k ≠ i) (n4 : ∀ k ∈ js2, k ≠ i) : FSs X XD [st1, .Return (some e) pos] [i] (mRet (mFold i0 i i js1 js2 g some)) :=
  fss_foldDL (sc1 := scD mk1) (sc2 := scL lk2) h1 he (fun ε S Q ⟨x, y, e1, e2, h⟩ => ⟨x, e1, y, e2, fun f2 c2 hf => by
    obtain ⟨a1, F1, a2, F2, c1, c2, q1, q2, q3, q4, q5, q6, q7⟩ := h f2 c2 hf
    exact ⟨a1, F1, a2, F2, c1, c2, q1, q2, q3, q4, q5, q6, spFold_imp q7 fun r S ⟨d, e, q⟩ => by
      cases e
      exact q⟩⟩) (fun c => ⟨c, rfl⟩) (fun c => ⟨c, rfl⟩) n2 n3 n4
/-- a return with two lambdas -/
theorem fs_C {ms : List Nat} (he : DE X e (dCall2 (scL lk1) (scL lk2) js1 js2 (fun c1 c2 => spFold (g c1 c2)) (dCons (dVar i0) (dCons (dLam lk1) (dCons (dLam lk2) dNil))))) : FS X XD (.Return (some e) pos) ms (mRet (mFoldL i0 js1 js2 g some)) :=
  fs_foldL (sc1 := scL lk1) (sc2 := scL lk2) he (fun ε S Q ⟨x, e1, h⟩ => ⟨x, e1, fun f c hf f2 c2 hf2 => by
    obtain ⟨a1, F1, a2, F2, c1, c2, q1, q2, q3, q4, q5, q6, q7⟩ := h f c hf f2 c2 hf2
    exact ⟨a1, F1, a2, F2, c1, c2, q1, q2, q3, q4, q5, q6, spFold_imp q7 fun r S ⟨d, e, q⟩ => by
      cases e
      exact q⟩⟩) (fun c => ⟨c, rfl⟩) (fun c => ⟨c, rfl⟩)
end
end FL

namespace FL
open PySem PySem.Spec PyProof.Rows L2 DL NdefX LamX
/-- a comprehension's block, by a look -/
def blkB (N : List Str) (sc scope : Scope) (own : List (Str × Nat)) : Bool :=
  decide (scope.kind = .function) && scope.names.all (fun y => decide (scope.names.lookup y.1 = some y.2)) && own.all (fun p => decide (N[p.2]? = some p.1)) && scope.names.all (fun y => !decide (y.2 = .free) || decide (sc.names.lookup y.1 = some .cell) || decide (sc.names.lookup y.1 = some .free)) &&
    scope.names.all (fun y => !(decide (y.2 = .local) || decide (y.2 = .cell)) || decide (y.1 ∈ own.map (·.1)) || !decide (y.1 ∈ N))
theorem blk_by {N : List Str} {sc scope : Scope} {own : List (Str × Nat)} (h : blkB N sc scope own = true) : BlkOk N sc scope own := by
  unfold blkB at h
  simp only [Bool.and_eq_true, Bool.not_eq_true', decide_eq_true_eq, List.all_eq_true, Bool.or_eq_true, decide_eq_false_iff_not, Bool.or_eq_false_iff] at h
  obtain ⟨⟨⟨⟨h1, h2⟩, h3⟩, h4⟩, h5⟩ := h
  refine ⟨h1, h2, h3, fun y hy e => ?_, fun y hy e => ?_⟩
  · rcases h4 y hy with (z | z) | z
    · exact absurd e z
    · exact .inl z
    · exact .inr z
  · rcases h5 y hy with (z | z) | z
    · rcases e with e | e
      · exact absurd e z.1
      · exact absurd e z.2
    · exact .inl z
    · exact .inr z
section
variable [Amb] [Cbs] {X : Cx} {XD : XT} {a : Expr} {p pos : Pos}
def mSumL (i : Nat) : M D := mBind (mGetL i) fun ds => mBind (mLift (intsL ds)) fun ns => mPure (.int ns.sum)
theorem fe_sumL (hc : X.calm = true) (hg : Gl X "sum") (hm : X.mg "sum" = none) {i : Nat} (ha : DE X a (dVar i)) (he : starEach [a] X.env = (false, eval a X.env) :: starEach [] X.env := by rfl) (hpl : (backTo pos (starEach [] X.env)).any (·.1) = false := by rfl) : FE X XD (.Call (.Name "sum" p) [a] [] pos) (mSumL i) :=
  DE_imp (de_sumL hc hg hm ha he hpl) fun ε S Q h => by
    obtain ⟨q, ds, e1, e2, h⟩ := wM_getL (wM_bind h)
    obtain ⟨ns, e3, h'⟩ := wM_lift (wM_bind h)
    exact ⟨.ref q, e1, q, ns, rfl, by rw [← intsL_eq e3]; exact e2, wM_pure h'⟩
def mTupR (pa : M D) : M D := mBind pa fun x => match x with
  | .int j => if 0 ≤ j ∧ j ≤ 1000000 then mPure (.tup (intsFrom 0 j.toNat)) else mLift none
  | _ => mLift none
theorem fe_tupR {pa : M D} {p2 pos2 : Pos} (hc : X.calm = true) (hg : Gl X "tuple") (hm : X.mg "tuple" = none) (hg2 : Gl X "range") (hm2 : X.mg "range" = none) (ha : FE X XD a pa) (na : starEach [a] X.env = (false, eval a X.env) :: starEach [] X.env := by rfl)
    (na2 : starEach [Expr.Call (.Name "range" p2) [a] [] pos2] X.env = (false, eval (.Call (.Name "range" p2) [a] [] pos2) X.env) :: starEach [] X.env := by rfl) : FE X XD (.Call (.Name "tuple" p) [.Call (.Name "range" p2) [a] [] pos2] [] pos) (mTupR pa) :=
  DE_imp (de_tupR hc hg hm hg2 hm2 ha na na2) fun ε S Q h => wM_imp (wM_bind h) fun x S1 h => by
    cases x with
    | int j =>
      by_cases c : 0 ≤ j ∧ j ≤ 1000000
      · simp only [if_pos c] at h
        exact ⟨j, rfl, c.1, c.2, wM_pure h⟩
      · simp only [if_neg c] at h
        obtain ⟨_, e, _⟩ := wM_lift h
        cases e
    | _ =>
      obtain ⟨_, e, _⟩ := wM_lift h
      cases e
end
end FL

namespace FL
open PySem PySem.Spec PyProof.Rows L2 DL NdefX LamX
@[simp] theorem mIsCb_run (i k : Nat) (ε : PEnv) : mIsCb i k ε = (fun ε => match ε[i]? with
  | some (some (.cb n)) => if n = k then some (.ok (), ε) else none
  | _ => none) ε := rfl
@[simp] theorem mCbP_run (i k : Nat) (g : List D → Option D) (pas : M (List D)) (ε : PEnv) : mCbP i k g pas ε = (mBind (mIsCb i k) fun _ => mBind pas fun ds => mBind (mIsCb i k) fun _ => mLift (g ds)) ε := rfl
@[simp] theorem mCb2_run (i k : Nat) (g : D → List D → Option D) (pa : M D) (pf : M (List D)) (ε : PEnv) : mCb2 i k g pa pf ε = (mBind (mIsCb i k) fun _ => mBind pa fun w => mBind pf fun ds => mBind (mIsCb i k) fun _ => mLift (g w ds)) ε := rfl
@[simp] theorem mFold_run (i0 i j : Nat) (js1 js2 : List Nat) (g : List D → List D → D → Option D) (h : D → Option D) (ε : PEnv) : mFold i0 i j js1 js2 g h ε = (fun ε => match ε[i0]?, capsP ε js1, capsP ε js2 with
  | some (some (.val d)), some c1, some c2 => if i < ε.length ∧ j < ε.length then (match (g c1 c2 d).bind h with
    | some r => some (.ok r, ε)
    | none => none) else none
  | _, _, _ => none) ε := rfl
@[simp] theorem mExtT_run (i : Nat) (pa : M D) (ε : PEnv) : mExtT i pa ε = (mBind (mGetL i) fun _ => mBind pa fun x => mBind (mLift (toT x)) fun ys => mModL i (extL ys)) ε := rfl
@[simp] theorem mOrT_run (pa pb : M D) (ε : PEnv) : mOrT pa pb ε = (mBind pa fun x => mBind (mLift (truD x)) fun k => if k = true then mPure x else pb) ε := rfl
@[simp] theorem mRevI_run (i : Nat) (ε : PEnv) : mRevI i ε = (mBind (mGetL i) fun ds => mPure ds.reverse) ε := rfl
@[simp] theorem mEqFL_run (pf : M (List D)) (i : Nat) (ε : PEnv) : mEqFL pf i ε = (mBind pf fun ds => mBind (mGetL i) fun es => mLift (fEqL ds es)) ε := rfl
@[simp] theorem mFoldL_run (i0 : Nat) (js1 js2 : List Nat) (g : List D → List D → D → Option D) (h : D → Option D) (ε : PEnv) : mFoldL i0 js1 js2 g h ε = (fun ε => match ε[i0]?, capsP ε js1, capsP ε js2 with
  | some (some (.val d)), some c1, some c2 => match (g c1 c2 d).bind h with
    | some r => some (.ok r, ε)
    | none => none
  | _, _, _ => none) ε := rfl
@[simp] theorem mSumL_run (i : Nat) (ε : PEnv) : mSumL i ε = (mBind (mGetL i) fun ds => mBind (mLift (intsL ds)) fun ns => mPure (.int ns.sum)) ε := rfl
@[simp] theorem mTupR_run (pa : M D) (ε : PEnv) : mTupR pa ε = (mBind pa fun x => match x with
  | .int j => if 0 ≤ j ∧ j ≤ 1000000 then mPure (.tup (intsFrom 0 j.toNat)) else mLift none
  | _ => mLift none) ε := rfl
@[simp] theorem capsP_nil (ε : PEnv) : capsP ε [] = some [] := rfl
@[simp] theorem capsP_cons (ε : PEnv) (j : Nat) (js : List Nat) : capsP ε (j :: js) = match ε[j]? with
    | some (some (.val d)) => (capsP ε js).map (d :: ·)
    | _ => none := rfl
@[simp] theorem cRevL_eq (i : Nat) (ds : List D) (ε : PEnv) : cRevL i ds ε = match ε[i]? with
  | some (some (.lst es)) => sameL ds es.reverse
  | _ => false := rfl
@[simp] theorem lamP_run (np n : Nat) (p : M D) (cs ds : List D) : lamP np n p cs ds = if ds.length = np then (match p (startP n ((ds ++ cs).map .val)) with
  | some (.ok d, _) => some d
  | _ => none) else none := rfl
@[simp] theorem lamJ_run (n : Nat) (p : M D) (cs : List D) (w : D) (parts : List D) : lamJ n p cs w parts = match p (startP n (.val w :: .lst parts :: cs.map .val)) with
  | some (.ok d, _) => some d
  | _ => none := rfl
@[simp] theorem nestP_run (np n : Nat) (body : M Res) (cs ds : List D) : nestP np n body cs ds = if ds.length = np then runP n body (ds ++ cs) else none := rfl
@[simp] theorem runJ_run (n : Nat) (body : M Res) (cs : List D) (w : D) (parts : List D) : runJ n body cs w parts = match body (startP n (.val w :: .lst parts :: cs.map .val)) with
  | some (.ok (.rt (.val d)), _) => some d
  | some (.ok .nx, _) => some .non
  | _ => none := rfl
@[simp] theorem runC_run (n : Nat) (body : M Res) (d : D) : runC n body d = match body (startP n [.val d, .cb 0, .cb 1]) with
  | some (.ok (.rt (.val r)), _) => some r
  | some (.ok .nx, _) => some .non
  | _ => none := rfl
def fReprV : List D → Option D
  | [.int i] => if i.natAbs.log2 < 1900 then some (.str (toString i)) else none
  | [.bl b] => some (.str (if b then "True" else "False"))
  | [.non] => some (.str "None")
  | [.str x] => if (reprText x).length ≤ sizeLine then some (.str (reprText x)) else none
  | ds => fRepr ds
section
variable [Amb] [Cbs] {X : Cx}
theorem fc_reprV (hu : X.A.units + 64 < cLine) (hg : X.A.guards = some []) : FCall X (.builtin "repr") fReprV := by
  intro pins s σ H xs us Q I r ⟨ds, S, Q0, den, rS, ⟨d, e, q⟩, k⟩
  unfold fReprV at e
  split at e
  · rename_i i
    split at e
    · rename_i hi
      cases e
      obtain ⟨v, w, rfl, d1, d2⟩ := den.uncons
      cases d2.nil_eq
      cases (show v = .int i from d1)
      obtain ⟨u, rfl, t, rfl⟩ := vals1 r
      exact PySem.P.repr_of_int (by omega) ⟨.str (toString i), H, I.tok _, ⟨_, rfl⟩, k _ S _ H q rfl rS Frame.refl⟩
    · cases e
  · rename_i b
    cases e
    obtain ⟨v, w, rfl, d1, d2⟩ := den.uncons
    cases d2.nil_eq
    cases (show v = .bl b from d1)
    obtain ⟨u, rfl, ru⟩ := vals1 r
    cases (show u = .bool b from ru)
    exact PySem.P.repr_of_bool ⟨.str _, H, I.tok _, ⟨_, rfl⟩, k _ S _ H q rfl rS Frame.refl⟩
  · cases e
    obtain ⟨v, w, rfl, d1, d2⟩ := den.uncons
    cases d2.nil_eq
    cases (show v = .non from d1)
    obtain ⟨u, rfl, ru⟩ := vals1 r
    cases (show u = .none from ru)
    exact PySem.P.repr_of_none ⟨.str _, H, I.tok _, ⟨_, rfl⟩, k _ S _ H q rfl rS Frame.refl⟩
  · rename_i x
    split at e
    · rename_i hi
      cases e
      obtain ⟨v, w, rfl, d1, d2⟩ := den.uncons
      cases d2.nil_eq
      cases (show v = .str x from d1)
      obtain ⟨u, rfl, t, rfl⟩ := vals1 r
      exact PySem.P.repr_of_str ⟨.str (reprText x), H, I.tok _, ⟨_, rfl⟩, k _ S _ H q rfl rS Frame.refl⟩ hi
    · cases e
  · exact fc_repr hu hg pins s σ H xs us Q I r ⟨ds, S, Q0, den, rS, ⟨d, e, q⟩, k⟩
end
end FL

namespace FL
open PySem PySem.Spec PyProof.Rows L2 DL NdefX LamX
section
variable [Amb] [Cbs] {X : Cx} {XD : XT} {e : Expr} {es : List Expr} {pf : M (List D)} {u : GsM} {vs : List Nat} {n k : Nat} {pos p2 : Pos}
def mAsgF (n : Nat) (pf : M (List D)) (u : GsM) : M Res := mBind pf fun ds => fun ε => if ds.length = n then (match u ds ε with
  | some ε' => some (.ok .nx, ε')
  | none => none) else none
@[simp] theorem mAsgF_run (n : Nat) (pf : M (List D)) (u : GsM) (ε : PEnv) : mAsgF n pf u ε = (mBind pf fun ds => fun ε => if ds.length = n then (match u ds ε with
  | some ε' => some (.ok .nx, ε')
  | none => none) else none) ε := rfl
theorem fs_asgF (hc : X.calm = true) (he : FF X XD e pf) (hg : FGs X es vs u) (hn : (assignEach es X.env).length = n := by rfl) (hst : (assignEach es X.env).findIdx? (·.1) = none := by rfl) (hs : swapsWithSole [.Tuple es k p2] e pos.line X.env = pure false := by rfl) (hw : swappedStores [.Tuple es k p2] e X.env = pure none := by rfl)
    (h1 : (assignEach [.Tuple es k p2] X.env).map (·.2) = [assign (.Tuple es k p2) X.env] := by rfl) : FS X XD (.Assign [.Tuple es k p2] e pos) vs (mAsgF n pf u) :=
  DS_imp (ds_asg (de_new he) (dg_lst hc hg hn hst) hs hw h1) fun Dn ε S h => wM_imp (wS_bind h) fun ds S1 h => fun q hq => by
    obtain ⟨εp, fp, o, εp', st, e, k⟩ := h
    dsimp only at e
    split at e
    · rename_i hl
      split at e
      · rename_i ε1 e1
        cases e
        obtain ⟨f1, f2⟩ := fresh_frame (c := .lst ds) hq st.own.dom
        refine ⟨q, ds, rfl, put_same, hl, εp, fp, _, ⟨st.own.frame f1, st.nd⟩, e1, fun ε' fp' st' sub ag _ => k (put S1 q (.lst ds)) fp' ε' st'.own ag st'.nd ⟨fun a ha => .inl (sub a ha), fun a c _ hac => ?_⟩⟩
        rw [put_ne (by rintro rfl; rw [hq] at hac; cases hac)]
        exact hac
      · cases e
    · cases e
end
end FL

namespace FL
open PySem PySem.Spec PyProof.Rows L2 DL NdefX LamX
def strsL : List D → Option (List Str)
  | [] => some []
  | .str x :: r => (strsL r).map (x :: ·)
  | _ :: _ => none
theorem strsL_eq : ∀ {ds : List D} {ys : List Str}, strsL ds = some ys → ds = ys.map D.str
  | [], ys, h => by cases h; rfl
  | d :: ds, ys, h => by
    unfold strsL at h
    split at h
    · cases ‹_ :: _ = []›
    · rename_i x r e
      cases e
      obtain ⟨ys', h1, rfl⟩ := Option.map_eq_some_iff.mp h
      rw [strsL_eq h1]
      rfl
    · cases h
@[simp] theorem strsL_map : ∀ ys : List Str, strsL (ys.map D.str) = some ys
  | [] => rfl
  | y :: ys => by
    show (strsL (ys.map D.str)).map (y :: ·) = _
    rw [strsL_map ys]
    rfl
def fIndex (x y : D) : Option D := match x, y with
  | .tup ds, .str k => (strsL ds).bind fun ys => if k ∈ ys then some (.int (ys.idxOf k : Nat)) else none
  | _, _ => none
@[simp] theorem fIndex_strs (ys : List Str) (k : Str) : fIndex (.tup (ys.map D.str)) (.str k) = if k ∈ ys then some (.int (ys.idxOf k : Nat)) else none := by
  show (strsL _).bind _ = _
  rw [strsL_map]
  rfl
def mIndexT (pa pb : M D) : M D := mBind pa fun x => mBind (mLift (toT x)) fun _ => mBind pb fun y => mLift (fIndex x y)
@[simp] theorem mIndexT_run (pa pb : M D) (ε : PEnv) : mIndexT pa pb ε = (mBind pa fun x => mBind (mLift (toT x)) fun _ => mBind pb fun y => mLift (fIndex x y)) ε := rfl
section
variable [Amb] [Cbs] {X : Cx} {XD : XT} {a e : Expr} {pa pb : M D}
theorem fe_index {apos cpos : Pos} (ho : FE X XD a pa) (ha : FE X XD e pb) (hbase : attributeBase a "index" X.env (eval a X.env) = eval a X.env := by rfl)
    (hfew : ((backTo cpos (starEach [e] X.env)).all (fun x => !x.1) && (backToKw cpos (keywordEach [] X.env)).all (fun x => x.1.isSome)
      && decide (([e] : List Expr).length + ([] : List Keyword).length + (if ([] : List Keyword).isEmpty then 0 else 1) < 30)) = true := by rfl)
    (hline : (apos.endLine == cpos.line) = true := by rfl) (hs : starEach [e] X.env = (false, eval e X.env) :: starEach [] X.env := by rfl) (hplain : (backTo cpos (starEach [] X.env)).any (·.1) = false := by rfl) :
    FE X XD (.Call (.Attribute a "index" apos) [e] [] cpos) (mIndexT pa pb) :=
  DE_imp (de_tm PySem.F.slot_tuple_index PySem.F.type_tuple_index dm_index ho (da_cons ha da_nil hs) hbase hfew hline hs hplain) fun ε S Q h => wM_imp (wM_bind h) fun x S1 h => by
    obtain ⟨ds, e1, h⟩ := wM_lift (wM_bind h)
    cases toT_eq e1
    refine ⟨⟨ds, rfl⟩, wM_imp (wM_bind h) fun y S2 h => ?_⟩
    obtain ⟨d, e2, h⟩ := wM_lift h
    cases y with
    | str k =>
      obtain ⟨ys, e3, e4⟩ := Option.bind_eq_some_iff.mp (show (strsL ds).bind _ = some d from e2)
      cases strsL_eq e3
      split at e4
      · rename_i hk
        cases e4
        exact ⟨ys, k, rfl, rfl, hk, h⟩
      · cases e4
    | _ => cases e2
end
end FL

namespace FL
open PySem PySem.Spec PyProof.Rows L2 DL NdefX LamX
def mFrz (pf : M (List D)) : M D := mBind pf fun ds => mPure (.ilst ds)
@[simp] theorem mFrz_run (pf : M (List D)) (ε : PEnv) : mFrz pf ε = (mBind pf fun ds => mPure (D.ilst ds)) ε := rfl
def fEqU : D → D → Option D
  | .tup ds, .tup [] => some (.bl ds.isEmpty)
  | x, y => fEq false x y
@[simp] theorem fEqU_nil (ds : List D) : fEqU (.tup ds) (.tup []) = some (.bl ds.isEmpty) := rfl
def zipT : List D → Option (List D)
  | [.tup ds, .tup es] => some (pairsOf ds es)
  | _ => none
@[simp] theorem zipT_tup (ds es : List D) : zipT [.tup ds, .tup es] = some (pairsOf ds es) := rfl
def mZip (pas : M (List D)) : M (List D) := mBind pas fun ds => mLift (zipT ds)
@[simp] theorem mZip_run (pas : M (List D)) (ε : PEnv) : mZip pas ε = (mBind pas fun ds => mLift (zipT ds)) ε := rfl
section
variable [Amb] [Cbs] {X : Cx} {XD : XT} {a b e : Expr} {pa pb : M D} {pf : M (List D)} {pas : M (List D)} {pos p : Pos} {ms : List Nat}
theorem fe_frz (h : FF X XD e pf) : FE X XD e (mFrz pf) := DE_imp (de_frz h) fun _ _ _ h => wM_imp (wM_bind h) fun _ _ h => wM_pure h
theorem fe_edic : FE X XD (.Dict [] [] pos) (mPure .edic) := DE_imp de_edic fun _ _ _ h => wM_pure h
theorem fo_eqU (hv : X.A.units + 64 < cLine) : FOp X (compareOp .Eq) fEqU := DOp_imp (OpR_or (dop_eqU (by omega)) (fo_eq hv)) fun x y S Q ⟨d, e, q⟩ => by
  unfold fEqU at e
  split at e
  · cases e
    exact .inl ⟨_, rfl, rfl, q⟩
  · exact .inr ⟨d, e, q⟩
theorem fi_zip {tpos : Pos} {elts : List Expr} {kk : Nat} (hg : Gl X "zip") (hm : X.mg "zip" = none) (ha : FA X XD [a, b] pas)
    (hs : starEach [a, b] X.env = (false, eval a X.env) :: starEach [b] X.env := by rfl) (hpl : (backTo pos (starEach [b] X.env)).any (·.1) = false := by rfl) :
    FI X XD (.Tuple elts kk tpos) (.Call (.Name "zip" p) [a, b] [] pos) ms (mZip pas) cYes :=
  DI_imp (di_zip hg hm ha hs hpl) fun ε S R h => wM_imp (wI_bind h) fun ds S1 h => by
    obtain ⟨xs, e, h⟩ := wI_lift h
    unfold zipT at e
    split at e
    · cases e
      exact ⟨_, _, rfl, h⟩
    · cases e
end
end FL

namespace KX
open PySem PySem.Spec PyProof.Rows L2 DL FL NdefX LamX
abbrev FUEL : Nat := 100000
def n_p_row_named : List Str := ["rows", "word", "row"]
def b_p_row_named_1 : M Res := (mIf (mB (mOp2 (fEq false) (mIx (mVar 2) (mPure (.int 0))) (mVar 1))) (mRet (mVar 2)) (mPure .nx))
def m_p_row_named : List D → Option D := fnP 2 3
      (mSeq (mFor (mItT (mVar 0)) cYes (gN 2) b_p_row_named_1)
      (mRet (mPure .non)))
def n_p_maker_row : List Str := ["kind", "word"]
def m_p_maker_row : List D → Option D := fnP 2 2
      (mRet (mCallP m_p_row_named (mCons (mIx (mVar 0) (mPure (.int 1))) (mCons (mVar 1) mNil))))
def n_p_sort_of_value : List Str := ["kind", "value", "name", "values"]
def b_p_sort_of_value_1 : M Res := (mIf (mB (mOp2 (fIn false) (mVar 1) (mVar 3))) (mRet (mVar 2)) (mPure .nx))
def m_p_sort_of_value : List D → Option D := fnP 2 4
      (mSeq (mFor (mItT (mIx (mVar 0) (mPure (.int 0)))) cYes (gTup 2 (gCons (gN 2) (gCons (gN 3) gNil))) b_p_sort_of_value_1)
      (mRet (mPure .non)))
def n_p_is_call : List Str := ["thing"]
def m_p_is_call : List D → Option D := fnP 1 1
      (mRet (mAndV (mCB fIsi (mCons (mVar 0) (mCons (mPure (.ty "tuple")) mNil))) (mAndV (mOp2 fGt (mCB fLen (mCons (mVar 0) mNil)) (mPure (.int 0))) (mCB fIsi (mCons (mIx (mVar 0) (mPure (.int 0))) (mCons (mPure (.ty "str")) mNil))))))
def n_p_folded : List Str := ["term", "leaf", "join", "order", "waiting", "one", "found", "parts", "turn"]
def b_p_folded_1 (g1 : List D → Option D) (g2 : D → List D → Option D) : M Res := (mSeq (mSet 5 (mPopL 4))
      (mSeq (mDrop (mAppL 3 (mVar 5)))
      (mIf (mB (mCallP m_p_is_call (mCons (mVar 5) mNil))) (mDrop (mExtT 4 (mSlT (mVar 5) (mPart (mPure (.int 1))) mNoPart))) (mPure .nx))))
def e_p_folded_1 (g1 : List D → Option D) (g2 : D → List D → Option D) : M D := (mPopL 6)
def b_p_folded_2 (g1 : List D → Option D) (g2 : D → List D → Option D) : M Res := (mIf (mB (mCallP m_p_is_call (mCons (mVar 5) mNil))) (mSeq (mSetO 7 (mMap .lst (mLc (mRng1 (mCons (mOp2 fSub (mCB fLen (mCons (mVar 5) mNil)) (mPure (.int 1))) mNil)) cYes (gN 8) (mPure true) (e_p_folded_1 g1 g2) [8])))
      (mDrop (mAppL 6 (mCb2 2 1 g2 (mIx (mVar 5) (mPure (.int 0))) (mRevL 7))))) (mDrop (mAppL 6 (mCbP 1 0 g1 (mCons (mVar 5) mNil)))))
def m_folded (g1 : List D → Option D) (g2 : D → List D → Option D) : D → Option D := runC 9
      (mSeq (mSetO 3 (mMap .lst (mLst mNil)))
      (mSeq (mSetO 4 (mMap .lst (mLst (mCons (mVar 0) mNil))))
      (mSeq (mWhile (mB (mOp2 fGt (mLenL 4) (mPure (.int 0)))) (b_p_folded_1 g1 g2) FUEL)
      (mSeq (mSetO 6 (mMap .lst (mLst mNil)))
      (mSeq (mFor (mRevI 3) (cRevL 3) (gN 5) (b_p_folded_2 g1 g2))
      (mRet (mIxL 6 (mPure (.int 0)))))))))
def n_p_is_made : List Str := ["kind", "thing", "of_leaf", "of_call"]
def n_p_is_made_of_leaf : List Str := ["one", "kind"]
def g_p_is_made_of_leaf (cs : List D) : List D → Option D := nestP 1 2
      (mRet (mIf (mB (mCB fIsi (mCons (mVar 0) (mCons (mPure (.ty "str")) mNil)))) (mCallP m_p_sort_of_value (mCons (mVar 1) (mCons (mVar 0) mNil))) (mPure .non))) cs
def n_p_is_made_of_call : List Str := ["word", "parts", "kind", "row"]
def g_p_is_made_of_call (cs : List D) : D → List D → Option D := runJ 4
      (mSeq (mSet 3 (mCallP m_p_maker_row (mCons (mVar 2) (mCons (mVar 0) mNil))))
      (mRet (mIf (mAnd (mB (mNotN (mVar 3))) (mB (mEqFL (mListV (mIx (mVar 3) (mPure (.int 1)))) 1))) (mPure (.str "thing")) (mPure .non)))) cs
def m_p_is_made : List D → Option D := fnP 2 4
      (mRet (mFold 1 2 3 [0] [0] (fun c1 c2 => m_folded (g_p_is_made_of_leaf c1) (g_p_is_made_of_call c2)) (fun r => fEq false r (.str "thing"))))
def n_l_hand : List Str := ["_law_script", "_law_k", "_law_cell", "_law_great"]
def m_l_hand : FM := fnF 2 [] 4
      (mSeq (mSet 2 (mPure (.int 0)))
      (mSeq (mIf (mB (mOp2 fLt (mVar 1) (mCB fLen (mCons (mVar 0) mNil)))) (mSet 2 (mIx (mVar 0) (mVar 1))) (mPure .nx))
      (mSeq (mSet 3 (mOp2 fMul (mOp2 fMod (mVar 2) (mOp2 fMul (mOp2 fPow (mPure (.int 10)) (mPure (.int 60))) (mOp2 fPow (mPure (.int 10)) (mPure (.int 30))))) (mCB fInt (mCons (mOp2 fGe (mVar 2) (mOp2 fPow (mPure (.int 10)) (mPure (.int 18)))) mNil))))
      (mRetO (mMap .lst (mLst (mCons (mVar 3) (mCons (mOp2 fMod (mOp2 fAdd (mOp2 fAdd (mOp2 fMod (mVar 2) (mPure (.int 2305843009213693951))) (mOp2 fMul (mPure (.int 7919)) (mVar 1))) (mPure (.int 3))) (mPure (.int 2305843009213693951))) (mCons (mPure (.int 0)) mNil)))))))))
def n_l_take : List Str := ["_law_hand_here", "_law_many", "_law_digit", "_law_mixed"]
def m_l_take : FM := fnF 2 [0] 4
      (mSeq (mIf (mB (mOp2 fGt (mIxL 0 (mPure (.int 0))) (mPure (.int 0)))) (mSeq (mSet 2 (mOp2 fMod (mIxL 0 (mPure (.int 0))) (mVar 1)))
      (mSeq (mSetIx 0 (mOp2 fDiv (mIxL 0 (mPure (.int 0))) (mVar 1)) (mPure (.int 0)))
      (mRet (mVar 2)))) (mPure .nx))
      (mSeq (mSetIx 0 (mOp2 fAdd (mIxL 0 (mPure (.int 2))) (mPure (.int 1))) (mPure (.int 2)))
      (mSeq (mSet 3 (mOp2 fMod (mOp2 fMul (mOp2 fAdd (mOp2 fAdd (mIxL 0 (mPure (.int 1))) (mOp2 fMul (mOp2 fMul (mPure (.int 65537)) (mIxL 0 (mPure (.int 2)))) (mIxL 0 (mPure (.int 2))))) (mPure (.int 11))) (mPure (.int 48271))) (mPure (.int 2305843009213693921))))
      (mSeq (mSet 3 (mOp2 fMod (mOp2 fMul (mVar 3) (mOp2 fAdd (mOp2 fMod (mVar 3) (mPure (.int 1000003))) (mOp2 fMul (mPure (.int 99991)) (mIxL 0 (mPure (.int 2)))))) (mPure (.int 2305843009213693907))))
      (mRet (mOp2 fMod (mOp2 fAdd (mOp2 fDiv (mVar 3) (mPure (.int 97))) (mOp2 fDiv (mVar 3) (mPure (.int 1000033)))) (mVar 1)))))))
def n_l_pick : List Str := ["_law_hand_here", "_law_some"]
def m_l_pick : FM := fnF 2 [0, 1] 2
      (mRet (mIxA 1 (mV (mCall m_l_take (mArgS 0 (mArgV (mLenA 1) (mPure [])))))))
def n_l_words : List Str := ["_law_hand_here", "_law_many", "_law_letters", "_law_first", "_law_step", "_law_found", "_law_k", "_law_letter"]
def b_l_words_1 : M Res := (mSeq (mSet 7 (mIx (mVar 2) (mOp2 fMod (mOp2 fAdd (mVar 3) (mOp2 fMul (mVar 4) (mVar 6))) (mPure (.int 26)))))
      (mIf (mB (mOp2 fLt (mVar 6) (mPure (.int 26)))) (mDrop (mAppL 5 (mOp2 fMul (mVar 7) (mOp2 fAdd (mPure (.int 1)) (mOp2 fMod (mOp2 fAdd (mOp2 fMul (mVar 6) (mVar 6)) (mVar 3)) (mPure (.int 4))))))) (mDrop (mAppL 5 (mOp2 fAdd (mVar 7) (mPure (.str "xyz")))))))
def m_l_words : FM := fnF 2 [0] 8
      (mSeq (mSet 2 (mPure (.str "abcdefghijklmnopqrstuvwxyz")))
      (mSeq (mPar [3, 4] (mArgV (mV (mCall m_l_take (mArgS 0 (mArgV (mPure (.int 26)) (mPure []))))) (mArgV (mV (mCall m_l_pick (mArgS 0 (mArgN (mMap .lst (mLst (mCons (mPure (.int 1)) (mCons (mPure (.int 3)) (mCons (mPure (.int 5)) (mCons (mPure (.int 7)) (mCons (mPure (.int 9)) (mCons (mPure (.int 11)) mNil)))))))) (mPure []))))) (mPure []))))
      (mSeq (mSetO 5 (mMap .lst (mLst mNil)))
      (mSeq (mFor (mRng1 (mCons (mVar 1) mNil)) cYes (gN 6) b_l_words_1)
      (mRetV 5)))))
def n_l_size : List Str := ["_law_hand_here", "_law_few", "_law_most"]
def m_l_size : FM := fnF 3 [0] 3
      (mRet (mOp2 fAdd (mPure (.int 1)) (mV (mCall m_l_take (mArgS 0 (mArgV (mIxF (mLst (mCons (mVar 1) (mCons (mVar 1) (mCons (mVar 1) (mCons (mVar 1) (mCons (mVar 1) (mCons (mVar 1) (mCons (mVar 1) (mCons (mVar 2) mNil))))))))) (mV (mCall m_l_take (mArgS 0 (mArgV (mPure (.int 8)) (mPure [])))))) (mPure [])))))))
def n_l_plains : List Str := ["_law_hand_here", "_law_words_here", "_law_found", "_law_k", "_law_name", "_law_turn"]
def e_l_plains_1 : M D := (mPopL 1)
def b_l_plains_1 : M Res := (mSeq (mSet 4 (mPopL 1))
      (mDrop (mAppL 2 (mTup (mCons (mVar 4) (mCons (mTupF (mLc (mRng1 (mCons (mV (mCall m_l_size (mArgS 0 (mArgV (mPure (.int 3)) (mArgV (mPure (.int 5)) (mPure [])))))) mNil)) cYes (gN 5) (mPure true) e_l_plains_1 [5])) mNil))))))
def m_l_plains : FM := fnF 2 [0, 1] 6
      (mSeq (mSetO 2 (mMap .lst (mLst mNil)))
      (mSeq (mFor (mRng1 (mCons (mV (mCall m_l_size (mArgS 0 (mArgV (mPure (.int 2)) (mArgV (mPure (.int 3)) (mPure [])))))) mNil)) cYes (gN 3) b_l_plains_1)
      (mRet (mTupL 2))))
def n_l_makers : List Str := ["_law_hand_here", "_law_words_here", "_law_plains_here", "_law_names", "_law_plain", "_law_found", "_law_turn", "_law_k", "_law_sorts"]
def e_l_makers_1 : M D := (mIx (mVar 4) (mPure (.int 0)))
def e_l_makers_2 : M D := (mV (mCall m_l_pick (mArgS 0 (mArgS 3 (mPure [])))))
def e_l_makers_3 : M D := (mV (mCall m_l_pick (mArgS 0 (mArgS 3 (mPure [])))))
def b_l_makers_1 : M Res := (mSeq (mSetO 8 (mIxO (mArgN (mMap .lst (mLst (mCons (mPure (.str "thing")) mNil))) (mArgN (mMap .lst (mLst (mCons (mPure (.str "thing")) mNil))) (mArgN (mMap .lst (mLst (mCons (mPure (.str "thing")) (mCons (mPure (.str "thing")) mNil)))) (mArgN (mMap .lst (mLst mNil)) (mPure []))))) (mV (mCall m_l_take (mArgS 0 (mArgV (mPure (.int 4)) (mPure [])))))))
      (mSeq (mSetO 8 (mMap .lst (mCatVF 8 (mLc (mRng1 (mCons (mCB fMin (mCons (mOp2 fSub (mPure (.int 3)) (mLenL 8)) (mCons (mV (mCall m_l_take (mArgS 0 (mArgV (mPure (.int 2)) (mPure []))))) mNil))) mNil)) cYes (gN 6) (mPure true) e_l_makers_3 [6]))))
      (mSeq (mIf (mB (mOp2 (fEq false) (mV (mCall m_l_take (mArgS 0 (mArgV (mPure (.int 3)) (mPure []))))) (mPure (.int 0)))) (mSetO 8 (mMap .lst (mRevL 8))) (mPure .nx))
      (mDrop (mAppL 5 (mTup (mCons (mPopL 1) (mCons (mTupL 8) mNil))))))))
def m_l_makers : FM := fnF 3 [0, 1] 9
      (mSeq (mSetO 3 (mMap .lst (mLc (mItT (mVar 2)) cYes (gN 4) (mPure true) e_l_makers_1 [4])))
      (mSeq (mSetO 5 (mMap .lst (mLst (mCons (mTup (mCons (mPopL 1) (mCons (mTupF (mLc (mRng1 (mCons (mV (mCall m_l_take (mArgS 0 (mArgV (mPure (.int 2)) (mPure []))))) mNil)) cYes (gN 6) (mPure true) e_l_makers_2 [6])) mNil))) mNil))))
      (mSeq (mFor (mRng1 (mCons (mOp2 fSub (mV (mCall m_l_size (mArgS 0 (mArgV (mPure (.int 3)) (mArgV (mPure (.int 5)) (mPure [])))))) (mPure (.int 1))) mNil)) cYes (gN 7) b_l_makers_1)
      (mSeq (mIf (mB (mOp2 (fEq false) (mV (mCall m_l_take (mArgS 0 (mArgV (mPure (.int 3)) (mPure []))))) (mPure (.int 0)))) (mSetO 5 (mMap .lst (mRevL 5))) (mPure .nx))
      (mRet (mTupL 5))))))
def n_l_askings : List Str := ["_law_hand_here", "_law_words_here", "_law_plains_here", "_law_many", "_law_names", "_law_plain", "_law_found", "_law_k", "_law_sorts"]
def e_l_askings_1 : M D := (mIx (mVar 5) (mPure (.int 0)))
def b_l_askings_1 : M Res := (mSeq (mSet 8 (mTup (mCons (mPure (.str "thing")) mNil)))
      (mSeq (mIf (mB (mOp2 (fEq false) (mV (mCall m_l_take (mArgS 0 (mArgV (mPure (.int 3)) (mPure []))))) (mPure (.int 0)))) (mSet 8 (mTup (mCons (mPure (.str "thing")) (mCons (mV (mCall m_l_pick (mArgS 0 (mArgS 4 (mPure []))))) mNil)))) (mPure .nx))
      (mDrop (mAppL 6 (mTup (mCons (mPopL 1) (mCons (mVar 8) mNil)))))))
def m_l_askings : FM := fnF 4 [0, 1] 9
      (mSeq (mSetO 4 (mMap .lst (mLc (mItT (mVar 2)) cYes (gN 5) (mPure true) e_l_askings_1 [5])))
      (mSeq (mSetO 6 (mMap .lst (mLst mNil)))
      (mSeq (mFor (mRng1 (mCons (mVar 3) mNil)) cYes (gN 7) b_l_askings_1)
      (mRetV 6))))
def n_l_bare_kind : List Str := ["_law_hand_here", "_law_many", "_law_words_here", "_law_plains_here", "_law_makers_here", "_law_asks", "_law_name", "_law_sorts", "_law_changes"]
def b_l_bare_kind_1 : M Res := (mDrop (mAppL 5 (mTup (mCons (mVar 6) (mCons (mVar 7) (mCons (mIx (mV (mCall m_l_pick (mArgS 0 (mArgV (mVar 3) (mPure []))))) (mPure (.int 0))) mNil))))))
def m_l_bare_kind : FM := fnF 2 [0] 9
      (mSeq (mSetO 2 (mCall m_l_words (mArgS 0 (mArgV (mPure (.int 40)) (mPure [])))))
      (mSeq (mSet 3 (mV (mCall m_l_plains (mArgS 0 (mArgS 2 (mPure []))))))
      (mSeq (mPar [4, 5] (mArgV (mV (mCall m_l_makers (mArgS 0 (mArgS 2 (mArgV (mVar 3) (mPure [])))))) (mArgN (mMap .lst (mLst mNil)) (mPure []))))
      (mSeq (mFor (mItO (mCall m_l_askings (mArgS 0 (mArgS 2 (mArgV (mVar 3) (mArgV (mV (mCall m_l_size (mArgS 0 (mArgV (mPure (.int 2)) (mArgV (mPure (.int 4)) (mPure [])))))) (mPure []))))))) cYes (gTup 2 (gCons (gN 6) (gCons (gN 7) gNil))) b_l_bare_kind_1)
      (mSeq (mSetO 8 (mCall m_l_askings (mArgS 0 (mArgS 2 (mArgV (mVar 3) (mArgV (mV (mCall m_l_take (mArgS 0 (mArgV (mOp2 fAdd (mVar 1) (mPure (.int 1))) (mPure []))))) (mPure [])))))))
      (mRet (mTup (mCons (mVar 3) (mCons (mVar 4) (mCons (mTupL 5) (mCons (mTupL 8) (mCons (mTup mNil) mNil))))))))))))
def n_l_made : List Str := ["_law_hand_here", "_law_kind", "_law_deep", "_law_some", "_law_maker", "_law_parts", "_law_sort"]
def t_l_made_1 (m_l_made : FM) : M Bool := (mOr (mB (mOp2 fGt (mVar 2) (mPure (.int 0)))) (mB (mOp2 (fIn true) (mPure (.str "thing")) (mIx (mVar 4) (mPure (.int 1))))))
def e_l_made_1 (m_l_made : FM) : M D := (mVar 4)
def b_l_made_1 (m_l_made : FM) : M Res := (mIf (mB (mOp2 (fEq false) (mVar 6) (mPure (.str "thing")))) (mSet 5 (mOp2 fAdd (mVar 5) (mTup (mCons (mV (mCall m_l_made (mArgS 0 (mArgV (mVar 1) (mArgV (mOp2 fSub (mVar 2) (mPure (.int 1))) (mPure [])))))) mNil)))) (mSet 5 (mOp2 fAdd (mVar 5) (mTup (mCons (mV (mCall m_l_pick (mArgS 0 (mArgV (mIxDict (mIx (mVar 1) (mPure (.int 0))) (mVar 6)) (mPure []))))) mNil)))))
def m_l_made : Nat → FM
  | 0 => fun _ => none
  | n + 1 => fnF 3 [0] 7
      (mSeq (mSetO 3 (mMap .lst (mLc (mItT (mIx (mVar 1) (mPure (.int 1)))) cYes (gN 4) (t_l_made_1 (m_l_made n)) (e_l_made_1 (m_l_made n)) [4])))
      (mSeq (mSet 4 (mV (mCall m_l_pick (mArgS 0 (mArgS 3 (mPure []))))))
      (mSeq (mSet 5 (mTup mNil))
      (mSeq (mFor (mItT (mIx (mVar 4) (mPure (.int 1)))) cYes (gN 6) (b_l_made_1 (m_l_made n)))
      (mRet (mOp2 fAdd (mTup (mCons (mIx (mVar 4) (mPure (.int 0))) mNil)) (mVar 5)))))))
def n_l_is_made : List Str := ["_law_kind", "_law_thing", "_law_row", "_law_maker", "_law_sort", "_law_part"]
def t_l_is_made_1 (m_l_is_made : List D → Option D) : M Bool := (mB (mOp2 (fEq false) (mIx (mVar 3) (mPure (.int 0))) (mIx (mVar 1) (mPure (.int 0)))))
def e_l_is_made_1 (m_l_is_made : List D → Option D) : M D := (mVar 3)
def b_l_is_made_1 (m_l_is_made : List D → Option D) : M Res := (mSeq (mIf (mAnd (mB (mOp2 (fEq false) (mVar 4) (mPure (.str "thing")))) (mNot (mB (mCallP m_l_is_made (mCons (mVar 0) (mCons (mVar 5) mNil)))))) (mRet (mPure (.bl false))) (mPure .nx))
      (mIf (mAnd (mB (mOp2 (fEq true) (mVar 4) (mPure (.str "thing")))) (mOr (mNot (mB (mCB fIsi (mCons (mVar 5) (mCons (mPure (.ty "str")) mNil))))) (mB (mOp2 (fIn true) (mVar 5) (mIxDict (mIx (mVar 0) (mPure (.int 0))) (mVar 4)))))) (mRet (mPure (.bl false))) (mPure .nx)))
def m_l_is_made : Nat → List D → Option D
  | 0 => fun _ => none
  | n + 1 => fnP 2 6
      (mSeq (mIf (mOr (mNot (mB (mCB fIsi (mCons (mVar 1) (mCons (mPure (.ty "tuple")) mNil))))) (mOr (mB (mOp2 fEqU (mVar 1) (mTup mNil))) (mNot (mB (mCB fIsi (mCons (mIx (mVar 1) (mPure (.int 0))) (mCons (mPure (.ty "str")) mNil))))))) (mRet (mPure (.bl false))) (mPure .nx))
      (mSeq (mSet 2 (mIxF (mCatFF (mLc (mItT (mIx (mVar 0) (mPure (.int 1)))) cYes (gN 3) (t_l_is_made_1 (m_l_is_made n)) (e_l_is_made_1 (m_l_is_made n)) [3]) (mLst (mCons (mTup (mCons (mPure (.str "")) (mCons (mPure .non) mNil))) mNil))) (mPure (.int 0))))
      (mSeq (mIf (mOr (mB (mIsN (mIx (mVar 2) (mPure (.int 1))))) (mB (mOp2 (fEq true) (mCB fLen (mCons (mVar 1) mNil)) (mOp2 fAdd (mPure (.int 1)) (mCB fLen (mCons (mIx (mVar 2) (mPure (.int 1))) mNil)))))) (mRet (mPure (.bl false))) (mPure .nx))
      (mSeq (mFor (mZip (mCons (mIx (mVar 2) (mPure (.int 1))) (mCons (mSlT (mVar 1) (mPart (mPure (.int 1))) mNoPart) mNil))) cYes (gTup 2 (gCons (gN 4) (gCons (gN 5) gNil))) (b_l_is_made_1 (m_l_is_made n)))
      (mRet (mPure (.bl true)))))))
def n_l_odd : List Str := ["_law_hand_here", "_law_kind", "_law_thing", "_law_some", "_law_name", "_law_values", "_law_row"]
def b_l_odd_1 : M Res := (mDrop (mExtF 3 (mLst (mCons (mVar 4) (mCons (mIx (mVar 5) (mPure (.int 0))) (mCons (mIx (mVar 5) (mNeg (mPure (.int 1)))) mNil))))))
def b_l_odd_2 : M Res := (mDrop (mExtF 3 (mLst (mCons (mIx (mVar 6) (mPure (.int 0))) (mCons (mTup (mCons (mIx (mVar 6) (mPure (.int 0))) mNil)) (mCons (mTup (mCons (mIx (mVar 6) (mPure (.int 0))) (mCons (mVar 2) mNil))) mNil))))))
def m_l_odd : FM := fnF 3 [0] 7
      (mSeq (mSetO 3 (mMap .lst (mLst (mCons (mPure (.int 0)) (mCons (mPure (.bl true)) (mCons (mPure .non) (mCons (mPure (.str "novalue")) (mCons (mTup mNil) (mCons (mFrz (mLst mNil)) (mCons (mVar 2) (mCons (mPure (.str "thing")) (mCons (mTup (mCons (mPure (.str "noword")) mNil)) mNil))))))))))))
      (mSeq (mFor (mItT (mIx (mVar 1) (mPure (.int 0)))) cYes (gTup 2 (gCons (gN 4) (gCons (gN 5) gNil))) b_l_odd_1)
      (mSeq (mFor (mItT (mOp2 fAdd (mOp2 fAdd (mIx (mVar 1) (mPure (.int 1))) (mIx (mVar 1) (mPure (.int 2)))) (mIx (mVar 1) (mPure (.int 3))))) cYes (gN 6) b_l_odd_2)
      (mRet (mV (mCall m_l_pick (mArgS 0 (mArgS 3 (mPure [])))))))))
def n_l_bent : List Str := ["_law_hand_here", "_law_kind", "_law_thing", "_law_at", "_law_word", "_law_row"]
def e_l_bent_1 (m_l_bent : FM) : M D := (mIx (mVar 5) (mPure (.int 0)))
def m_l_bent : Nat → FM
  | 0 => fun _ => none
  | n + 1 => fnF 3 [0] 6
      (mSeq (mIf (mOr (mNot (mB (mCB fIsi (mCons (mVar 2) (mCons (mPure (.ty "tuple")) mNil))))) (mB (mOp2 (fEq false) (mV (mCall m_l_take (mArgS 0 (mArgV (mPure (.int 4)) (mPure []))))) (mPure (.int 0))))) (mRet (mV (mCall m_l_odd (mArgS 0 (mArgV (mVar 1) (mArgV (mVar 2) (mPure []))))))) (mPure .nx))
      (mSeq (mSet 3 (mV (mCall m_l_take (mArgS 0 (mArgV (mCB fLen (mCons (mVar 2) mNil)) (mPure []))))))
      (mSeq (mIf (mB (mOp2 (fEq false) (mVar 3) (mPure (.int 0)))) (mSeq (mSet 4 (mV (mCall m_l_pick (mArgS 0 (mArgN (mMap .lst (mLc (mItT (mOp2 fAdd (mOp2 fAdd (mIx (mVar 1) (mPure (.int 1))) (mIx (mVar 1) (mPure (.int 2)))) (mIx (mVar 1) (mPure (.int 3))))) cYes (gN 5) (mPure true) (e_l_bent_1 (m_l_bent n)) [5])) (mPure []))))))
      (mRet (mV (mCall m_l_pick (mArgS 0 (mArgN (mMap .lst (mLst (mCons (mOp2 fAdd (mTup (mCons (mVar 4) mNil)) (mSlT (mVar 2) (mPart (mPure (.int 1))) mNoPart)) (mCons (mSlT (mVar 2) mNoPart (mPart (mNeg (mPure (.int 1))))) (mCons (mOp2 fAdd (mVar 2) (mSlT (mVar 2) (mPart (mNeg (mPure (.int 1)))) mNoPart)) (mCons (mFrz (mListV (mVar 2))) (mCons (mOp2 fAdd (mVar 2) (mTup (mCons (mVar 2) mNil))) mNil))))))) (mPure []))))))) (mPure .nx))
      (mRet (mOp2 fAdd (mOp2 fAdd (mSlT (mVar 2) mNoPart (mPart (mVar 3))) (mTup (mCons (mV (mCall (m_l_bent n) (mArgS 0 (mArgV (mVar 1) (mArgV (mIx (mVar 2) (mVar 3)) (mPure [])))))) mNil))) (mSlT (mVar 2) (mPart (mOp2 fAdd (mVar 3) (mPure (.int 1)))) mNoPart))))))
def n_law : List Str := ["_law_script", "_law_k", "_law_hand_here", "_law_kind", "_law_turn", "_law_thing", "_law_some", "_law_again", "_law_one", "_law_due"]
def e_law_1 : M D := (mV (mCall (m_l_bent 60) (mArgS 2 (mArgV (mVar 3) (mArgV (mVar 5) (mPure []))))))
def b_law_1 : M Res := (mSeq (mSet 9 (mCB fReprV (mCons (mCallP (m_l_is_made 60) (mCons (mVar 3) (mCons (mVar 8) mNil))) mNil)))
      (mIf (mOr (mB (mOp2 (fEq true) (mCB fReprV (mCons (mCallP m_p_is_made (mCons (mVar 3) (mCons (mVar 8) mNil))) mNil)) (mVar 9))) (mB (mOp2 (fEq true) (mCB fReprV (mCons (mCallP m_p_is_made (mCons (mVar 3) (mCons (mVar 8) mNil))) mNil)) (mVar 9)))) (mRet (mPure (.bl false))) (mPure .nx)))
def b_law_2 : M Res := (mSeq (mSet 5 (mV (mCall (m_l_made 60) (mArgS 2 (mArgV (mVar 3) (mArgV (mV (mCall m_l_take (mArgS 2 (mArgV (mPure (.int 5)) (mPure []))))) (mPure [])))))))
      (mSeq (mSetO 6 (mMap .lst (mCatFF (mLst (mCons (mVar 5) mNil)) (mLc (mRng1 (mCons (mPure (.int 6)) mNil)) cYes (gN 7) (mPure true) e_law_1 [7]))))
      (mSeq (mIf (mB (mOp2 (fIsB true) (mCallP m_p_is_made (mCons (mVar 3) (mCons (mVar 5) mNil))) (mPure (.bl true)))) (mRet (mPure (.bl false))) (mPure .nx))
      (mFor (mGetL 6) (cSlot 6) (gN 8) b_law_1))))
def e_law_2 : M D := (mOp2 (fIsB false) (mCallP m_p_is_made (mCons (mVar 3) (mCons (mVar 8) mNil))) (mPure (.bl false)))
def b_law_3 : M Res := (mSeq (mSetO 2 (mCall m_l_hand (mArgV (mVar 0) (mArgV (mVar 1) (mPure [])))))
      (mSeq (mSet 3 (mV (mCall m_l_bare_kind (mArgS 2 (mArgV (mPure (.int 3)) (mPure []))))))
      (mSeq (mFor (mRng1 (mCons (mPure (.int 6)) mNil)) cYes (gN 4) b_law_2)
      (mIf (mNot (mB (mAllF (mLc (mLst (mCons (mPure .non) (mCons (mPure (.int 0)) (mCons (mPure (.bl true)) (mCons (mTup mNil) (mCons (mFrz (mLst mNil)) (mCons (mPure .edic) (mCons (mPure (.str "")) (mCons (mVar 3) (mCons (mIx (mVar 3) (mPure (.int 1))) mNil)))))))))) cYes (gN 8) (mPure true) e_law_2 [8])))) (mRet (mPure (.bl false))) (mPure .nx)))))
def m_law : List D → Option D := fnP 1 10
      (mSeq (mFor (mRng1 (mCons (mCB fMax (mCons (mPure (.int 2)) (mCons (mCB fMin (mCons (mPure (.int 4)) (mCons (mCB fLen (mCons (mVar 0) mNil)) mNil))) mNil))) mNil)) cYes (gN 1) b_law_3)
      (mRet (mPure (.bl true))))
end KX

namespace KX
open PySem PySem.Spec PyProof.Rows L2 DL FL NdefX LamX
def topS (i : Nat) : Stmt := PySem.Challenge.pw_lawkinds_k10_what_is_made.main.body.getD i (.Pass ⟨0, 0, 0, 0⟩)
def retArg : Stmt → Nat → Expr
  | .Return (some (.Call _ es _ _)) _, i => es.getD i (.Constant .none 0 ⟨0, 0, 0, 0⟩)
  | _, _ => .Constant .none 0 ⟨0, 0, 0, 0⟩
def lamA_ : Expr → Arguments
  | .Lambda p _ _ _ => p
  | _ => ⟨[], [], none, [], [], none, []⟩
def lamB_ : Expr → Expr
  | .Lambda _ b _ _ => b
  | e => e
def lamS_ : Expr → Scope
  | .Lambda _ _ s _ => s
  | _ => ⟨.function, [], false, false, []⟩
def nmT : Nat → Nat → Str := fun a b => if a = 37 ∧ b = 4 then "is_made.<locals>.of_leaf" else if a = 40 ∧ b = 4 then "is_made.<locals>.of_call" else ""
variable [Amb]
abbrev s_p_row_named : Stmt := topS 2
theorem sc_p_row_named : FnScope n_p_row_named ["rows", "word"] (defScope s_p_row_named) :=
  ⟨rfl, rfl, rfl, by decide +kernel, rfl, by decide +kernel, by decide +kernel⟩
theorem c_p_row_named {P : Program} {w : World} {K : PySem.W.Frag} {mg : Str → Option Value} {base : Heap} {f : Addr} {fd : FuncData} (Fn : Fun K "row_named" "row_named" s_p_row_named f fd) (g : mg "row_named" = some (.ref f)) (bd : Binds K fd ["rows", "word"] []) (B : BI mg) :
    DC P w K mg base 1 "row_named" ["rows", "word"] (spP m_p_row_named) := by
  exact dcP Fn g bd sc_p_row_named (fun cdv A outer s H E hr => by
    have hv := hr.u64
    have hu := hr.hu
    exact (fss_cons (fs_for PassesOwn.never rfl (fi_tup (fe_var 0)) (fg_name (i := 2) sc_p_row_named.nd rfl (.inl rfl)) (fss_one (fs_if (ft_cmp (fo_eq hv) (fe_ix hu (fe_var 2) (fe_c de_int)) (fe_var 1)) (fss_one (fs_ret (fe_var 2))) fss_nil)))
      (fss_one (fs_ret (fe_c de_non)))))
abbrev s_p_maker_row : Stmt := topS 3
theorem sc_p_maker_row : FnScope n_p_maker_row ["kind", "word"] (defScope s_p_maker_row) :=
  ⟨rfl, rfl, rfl, by decide +kernel, rfl, by decide +kernel, by decide +kernel⟩
theorem c_p_maker_row {P : Program} {w : World} {K : PySem.W.Frag} {mg : Str → Option Value} {base : Heap} {f : Addr} {fd : FuncData} (Fn : Fun K "maker_row" "maker_row" s_p_maker_row f fd) (g : mg "maker_row" = some (.ref f)) (bd : Binds K fd ["kind", "word"] []) (B : BI mg) (C_p_row_named : DC P w K mg base 1 "row_named" ["rows", "word"] (spP m_p_row_named)) :
    DC P w K mg base 2 "maker_row" ["kind", "word"] (spP m_p_maker_row) := by
  exact dcP Fn g bd sc_p_maker_row (fun cdv A outer s H E hr => by
    have hv := hr.u64
    have hu := hr.hu
    exact (fss_one (fs_ret (fe_callP C_p_row_named (hr.mono (by decide)) (by rfl) (fa_cons (fe_ix hu (fe_var 0) (fe_c de_int)) (fa_cons (fe_var 1) fa_nil))))))
abbrev s_p_sort_of_value : Stmt := topS 4
theorem sc_p_sort_of_value : FnScope n_p_sort_of_value ["kind", "value"] (defScope s_p_sort_of_value) :=
  ⟨rfl, rfl, rfl, by decide +kernel, rfl, by decide +kernel, by decide +kernel⟩
theorem c_p_sort_of_value {P : Program} {w : World} {K : PySem.W.Frag} {mg : Str → Option Value} {base : Heap} {f : Addr} {fd : FuncData} (Fn : Fun K "sort_of_value" "sort_of_value" s_p_sort_of_value f fd) (g : mg "sort_of_value" = some (.ref f)) (bd : Binds K fd ["kind", "value"] []) (B : BI mg) :
    DC P w K mg base 1 "sort_of_value" ["kind", "value"] (spP m_p_sort_of_value) := by
  exact dcP Fn g bd sc_p_sort_of_value (fun cdv A outer s H E hr => by
    have hv := hr.u64
    have hu := hr.hu
    exact (fss_cons (fs_for PassesOwn.never rfl (fi_tup (fe_ix hu (fe_var 0) (fe_c de_int))) (fg_tup rfl (fgs_cons (fg_name (i := 2) sc_p_sort_of_value.nd rfl (.inl rfl)) (fgs_cons (fg_name (i := 3) sc_p_sort_of_value.nd rfl (.inl rfl)) fgs_nil))) (fss_one (fs_if (ft_cmp (fo_in hu) (fe_var 1) (fe_var 3)) (fss_one (fs_ret (fe_var 2))) fss_nil)))
      (fss_one (fs_ret (fe_c de_non)))))
abbrev s_p_is_call : Stmt := topS 6
theorem sc_p_is_call : FnScope n_p_is_call ["thing"] (defScope s_p_is_call) :=
  ⟨rfl, rfl, rfl, by decide +kernel, rfl, by decide +kernel, by decide +kernel⟩
theorem c_p_is_call {P : Program} {w : World} {K : PySem.W.Frag} {mg : Str → Option Value} {base : Heap} {f : Addr} {fd : FuncData} (Fn : Fun K "is_call" "is_call" s_p_is_call f fd) (g : mg "is_call" = some (.ref f)) (bd : Binds K fd ["thing"] []) (B : BI mg) :
    DC P w K mg base 1 "is_call" ["thing"] (spP m_p_is_call) := by
  exact dcP Fn g bd sc_p_is_call (fun cdv A outer s H E hr => by
    have hv := hr.u64
    have hu := hr.hu
    exact (fss_one (fs_ret (fe_and (fe_callB fc_isi (by rfl) (B.all "isinstance" (by decide)) PyProof.Rows.boot_isinstance (fa_cons (fe_var 0) (fa_cons (fe_c (de_gtype (by rfl) (B.all "tuple" (by decide)) PyProof.Rows.boot_tuple)) fa_nil))) (fe_and (fe_cmp fo_gt (fe_callB fc_len (by rfl) (B.all "len" (by decide)) PySem.boot_len (fa_cons (fe_var 0) fa_nil)) (fe_c de_int)) (fe_one (fe_callB fc_isi (by rfl) (B.all "isinstance" (by decide)) PyProof.Rows.boot_isinstance (fa_cons (fe_ix hu (fe_var 0) (fe_c de_int)) (fa_cons (fe_c (de_gtype (by rfl) (B.all "str" (by decide)) PyProof.Rows.boot_str)) fa_nil)))))))))
abbrev s_p_folded : Stmt := topS 7
theorem sc_p_folded : FnScope n_p_folded ["term", "leaf", "join"] (defScope s_p_folded) :=
  ⟨rfl, rfl, rfl, by decide +kernel, rfl, by decide +kernel, by decide +kernel⟩
theorem c_p_folded {P : Program} {w : World} {K : PySem.W.Frag} {mg : Str → Option Value} {base : Heap} {f : Addr} {fd : FuncData} (Fn : Fun K "folded" "folded" s_p_folded f fd) (g : mg "folded" = some (.ref f)) (bd : Binds K fd ["term", "leaf", "join"] []) (B : BI mg) (C_p_is_call : DC P w K mg base 1 "is_call" ["thing"] (spP m_p_is_call)) :
    C2 P w K mg base 4 3 "folded" ["term", "leaf", "join"] m_folded :=
  ⟨f, fd, fun g1 g2 => fn2F rfl Fn sc_p_folded (fun Cb cdv A outer s H E h0 h1 hr => by
    have hv := hr.u64
    have hu := hr.hu
    exact (fss_cons (fs_setO (i := 3) sc_p_folded.nd rfl (.inl rfl) (fo_new (ff_lst fa_nil)))
      (fss_cons (fs_setO (i := 4) sc_p_folded.nd rfl (.inl rfl) (fo_new (ff_lst (fa_cons (fe_var 0) fa_nil))))
      (fss_cons (fs_while FUEL PassesOwn.never (ft_cmp fo_gt (fe_lenL (by rfl) (B.all "len" (by decide)) (de_var 4)) (fe_c de_int)) (fss_cons (fs_set (i := 5) sc_p_folded.nd rfl (.inl rfl) (fe_pop (de_var 4)))
      (fss_cons (fs_expr (fe_append (de_var 3) (fe_var 5)))
      (fss_one (fs_if (ft_val (fe_callP C_p_is_call (hr.mono (by decide)) (by rfl) (fa_cons (fe_var 5) fa_nil))) (fss_one (fs_expr (fe_extT (de_var 4) (fe_slT (fe_var 5) (fpo_some (fe_c de_int)) fpo_none)))) fss_nil)))))
      (fss_cons (fs_setO (i := 6) sc_p_folded.nd rfl (.inr rfl) (fo_new (ff_lst fa_nil)))
      (fss_cons (fs_for PassesOwn.never rfl (fi_rev (by rfl) (B.all "reversed" (by decide)) (de_var 3)) (fg_name (i := 5) sc_p_folded.nd rfl (.inl rfl)) (fss_one (fs_if (ft_val (fe_callP C_p_is_call (hr.mono (by decide)) (by rfl) (fa_cons (fe_var 5) fa_nil))) (fss_cons (fs_setLc (i := 7) rfl sc_p_folded.nd rfl rfl (sw_true rfl rfl rfl rfl) (fi_range1 (by rfl) (B.all "range" (by decide)) (fa_cons (fe_bin fo_sub (fe_callB fc_len (by rfl) (B.all "len" (by decide)) PySem.boot_len (fa_cons (fe_var 5) fa_nil)) (fe_c de_int)) fa_nil)) (own := [("turn", 8)]) (show BlkOk n_p_folded (defScope s_p_folded) _ _ from ⟨rfl, by decide +kernel, by decide +kernel, by decide +kernel, by decide +kernel⟩) (fun _ _ _ _ _ => (fg_name (i := 8) sc_p_folded.nd rfl (.inl rfl))) (fun _ _ _ _ _ => fts_nil) (fun _ _ _ _ _ => (fe_pop (de_var 6))))
      (fss_one (fs_expr (fe_append (de_var 6) (fe_cb2 h1 (hr.mono (by decide)) (fe_ix hu (fe_var 5) (fe_c de_int)) (ff_revL (de_var 7))))))) (fss_one (fs_expr (fe_append (de_var 6) (fe_cbP h0 (hr.mono (by decide)) (fa_cons (fe_var 5) fa_nil))))))))
      (fss_one (fs_ret (fe_ixL hu (de_var 6) (fe_c de_int)))))))))), g, Fn.kp, bd⟩
abbrev s_p_is_made : Stmt := topS 9
theorem sc_p_is_made : FnScope n_p_is_made ["kind", "thing"] (defScope s_p_is_made) :=
  ⟨rfl, rfl, rfl, by decide +kernel, rfl, by decide +kernel, by decide +kernel⟩
abbrev i_p_is_made_of_leaf : Stmt := (defBody s_p_is_made).getD 0 (.Pass ⟨0, 0, 0, 0⟩)
theorem sc_p_is_made_of_leaf : NScope n_p_is_made_of_leaf ["one"] ["kind"] (C8.fnScope i_p_is_made_of_leaf) := nscope_by (by decide +kernel)
theorem c_p_is_made_of_leaf {P : Program} {w : World} {K : PySem.W.Frag} {mg : Str → Option Value} {base : Heap} (B : BI mg) (C_p_sort_of_value : DC P w K mg base 1 "sort_of_value" ["kind", "value"] (spP m_p_sort_of_value)) (qual : Str) (cl : List (Str × Addr)) (c f : Addr) (cs : List D) :
    NFn P w K mg base 3 f (FK.of (NF.of i_p_is_made_of_leaf "of_leaf" qual cl c)) ["kind"] cs (spP (g_p_is_made_of_leaf cs)) :=
  nfnP (F := NF.of i_p_is_made_of_leaf "of_leaf" qual cl c) (ps := ["one"]) (N := n_p_is_made_of_leaf) sc_p_is_made_of_leaf (fun _ _ _ us hl => match us, hl with | [_], _ => rfl) (fun A outer s H E hr => by
    have hv := hr.u64
    have hu := hr.hu
    exact (fss_one (fs_ret (fe_if (ft_val (fe_callB fc_isi (by rfl) (B.all "isinstance" (by decide)) PyProof.Rows.boot_isinstance (fa_cons (fe_var 0) (fa_cons (fe_c (de_gtype (by rfl) (B.all "str" (by decide)) PyProof.Rows.boot_str)) fa_nil)))) (fe_callP C_p_sort_of_value (hr.mono (by decide)) (by rfl) (fa_cons (fe_var 1) (fa_cons (fe_var 0) fa_nil))) (fe_c de_non)))))
abbrev i_p_is_made_of_call : Stmt := (defBody s_p_is_made).getD 1 (.Pass ⟨0, 0, 0, 0⟩)
theorem sc_p_is_made_of_call : NScope n_p_is_made_of_call ["word", "parts"] ["kind"] (C8.fnScope i_p_is_made_of_call) := nscope_by (by decide +kernel)
theorem c_p_is_made_of_call {P : Program} {w : World} {K : PySem.W.Frag} {mg : Str → Option Value} {base : Heap} (B : BI mg) (C_p_maker_row : DC P w K mg base 2 "maker_row" ["kind", "word"] (spP m_p_maker_row)) {tk_THING : Tok} (T_THING : mg "THING" = some (.str "thing" tk_THING)) (qual : Str) (cl : List (Str × Addr)) (c f : Addr) (cs : List D) :
    NFn P w K mg base 3 f (FK.of (NF.of i_p_is_made_of_call "of_call" qual cl c)) ["kind"] cs (sp2 (g_p_is_made_of_call cs)) :=
  nfn2 (F := NF.of i_p_is_made_of_call "of_call" qual cl c) (ps := ["word", "parts"]) (N := n_p_is_made_of_call) rfl sc_p_is_made_of_call (fun _ _ _ us hl => match us, hl with | [_, _], _ => rfl) (fun A outer s H E hr => by
    have hv := hr.u64
    have hu := hr.hu
    exact (fss_cons (fs_set (i := 3) sc_p_is_made_of_call.nd rfl (.inl rfl) (fe_callP C_p_maker_row (hr.mono (by decide)) (by rfl) (fa_cons (fe_var 2) (fa_cons (fe_var 0) fa_nil))))
      (fss_one (fs_ret (fe_if (ft_w (fw_and (ft_notN (fe_var 3)) (fw_and1 (ft_eqFL hv (ff_listV (by rfl) (B.all "list" (by decide)) (fe_ix hu (fe_var 3) (fe_c de_int))) (de_var 1))))) (fe_c (de_gstr (by rfl) T_THING)) (fe_c de_non))))))
theorem c_p_is_made {P : Program} {w : World} {K : PySem.W.Frag} {mg : Str → Option Value} {base : Heap} {f : Addr} {fd : FuncData} (Fn : Fun K "is_made" "is_made" s_p_is_made f fd) (g : mg "is_made" = some (.ref f)) (bd : Binds K fd ["kind", "thing"] []) (B : BI mg) (MT : MkT base mg nmT fd) (C_p_folded : C2 P w K mg base 4 3 "folded" ["term", "leaf", "join"] m_folded) (C_p_sort_of_value : DC P w K mg base 1 "sort_of_value" ["kind", "value"] (spP m_p_sort_of_value)) (C_p_maker_row : DC P w K mg base 2 "maker_row" ["kind", "word"] (spP m_p_maker_row)) {tk_THING : Tok} (T_THING : mg "THING" = some (.str "thing" tk_THING)) :
    DC P w K mg base 5 "is_made" ["kind", "thing"] (spP m_p_is_made) := by
  obtain ⟨cc, PP, hcd, TB, hm, hun⟩ := MT.ex
  exact dcPc Fn g bd sc_p_is_made (fun cdv A outer s H E hc hr => by
    obtain rfl : cdv = .ref cc := hc.symm.trans hcd
    have hv := hr.u64
    have hu := hr.hu
    have M1 : Made (cxOf CX0 P w K mg base n_p_is_made "is_made" (defScope s_p_is_made) f (.ref cc) A outer s H E).nox (C8.fnScope i_p_is_made_of_leaf) ["kind"] [0] := made_by (show madeB (defScope s_p_is_made) (C8.fnScope i_p_is_made_of_leaf) n_p_is_made _ _ = true from by decide +kernel) (fun _ => rfl)
    have M2 : Made (cxOf CX0 P w K mg base n_p_is_made "is_made" (defScope s_p_is_made) f (.ref cc) A outer s H E).nox (C8.fnScope i_p_is_made_of_call) ["kind"] [0] := made_by (show madeB (defScope s_p_is_made) (C8.fnScope i_p_is_made_of_call) n_p_is_made _ _ = true from by decide +kernel) (fun _ => rfl)
    exact fss_Ac (ds_ndefS (st := i_p_is_made_of_leaf) (nm := nmT) rfl TB rfl hm (by rfl) hun M1.free rfl rfl rfl sc_p_is_made.nd rfl (.inl rfl) (.inl rfl)) (ds_ndefS (st := i_p_is_made_of_call) (nm := nmT) rfl TB rfl hm (by rfl) hun M2.free rfl rfl rfl sc_p_is_made.nd rfl (.inl rfl) (.inl rfl)) (de_cmp (fo_eq hv) (de_fold C_p_folded M1 M2 (fun F ⟨c, h⟩ => by subst h; rfl) (fun F ⟨c, h⟩ => by subst h; rfl) (fun a F cs ⟨c, h⟩ => by subst h; exact c_p_is_made_of_leaf B C_p_sort_of_value _ _ c a cs) (fun a F cs ⟨c, h⟩ => by subst h; exact c_p_is_made_of_call B C_p_maker_row T_THING _ _ c a cs) (hr.mono (by decide)) (by rfl) (da_cons (de_var 1) (da_cons (de_var 2) (da_cons (de_var 3) da_nil)))) (de_gstr (by rfl) T_THING)) (by decide) (by decide) (by decide) (by decide))
abbrev s_l_hand : Stmt := topS 11
theorem sc_l_hand : FnScope n_l_hand ["_law_script", "_law_k"] (defScope s_l_hand) :=
  ⟨rfl, rfl, rfl, by decide +kernel, rfl, by decide +kernel, by decide +kernel⟩
theorem c_l_hand {P : Program} {w : World} {K : PySem.W.Frag} {mg : Str → Option Value} {base : Heap} {f : Addr} {fd : FuncData} (Fn : Fun K "_law_hand" "_law_hand" s_l_hand f fd) (g : mg "_law_hand" = some (.ref f)) (bd : Binds K fd ["_law_script", "_law_k"] []) (B : BI mg) :
    FC P w K mg base 1 "_law_hand" ["_law_script", "_law_k"] m_l_hand := by
  refine dcF (io := []) Fn g bd sc_l_hand ?hio (fun cdv A outer s H E hr => by
    have hv := hr.u64
    have hu := hr.hu
    exact (fss_cons (fs_set (i := 2) sc_l_hand.nd rfl (.inl rfl) (fe_c de_int))
      (fss_cons (fs_if (ft_cmp fo_lt (fe_var 1) (fe_callB fc_len (by rfl) (B.all "len" (by decide)) PySem.boot_len (fa_cons (fe_var 0) fa_nil))) (fss_one (fs_set (i := 2) sc_l_hand.nd rfl (.inl rfl) (fe_ix hu (fe_var 0) (fe_var 1)))) fss_nil)
      (fss_cons (fs_set (i := 3) sc_l_hand.nd rfl (.inl rfl) (fe_bin fo_mul (fe_bin fo_mod (fe_var 2) (fe_bin fo_mul (fe_bin fo_pow (fe_c de_int) (fe_c de_int)) (fe_bin fo_pow (fe_c de_int) (fe_c de_int)))) (fe_callTy fc_int (by rfl) (B.all "int" (by decide)) PyProof.Rows.boot_int (fa_cons (fe_cmp fo_ge (fe_var 2) (fe_bin fo_pow (fe_c de_int) (fe_c de_int))) fa_nil))))
      (fss_one (fs_retO (fo_new (ff_lst (fa_cons (fe_var 3) (fa_cons (fe_bin fo_mod (fe_bin fo_add (fe_bin fo_add (fe_bin fo_mod (fe_var 2) (fe_c de_int)) (fe_bin fo_mul (fe_c de_int) (fe_var 1))) (fe_c de_int)) (fe_c de_int)) (fa_cons (fe_c de_int) fa_nil)))))))))))
  case hio => decide
abbrev s_l_take : Stmt := topS 12
theorem sc_l_take : FnScope n_l_take ["_law_hand_here", "_law_many"] (defScope s_l_take) :=
  ⟨rfl, rfl, rfl, by decide +kernel, rfl, by decide +kernel, by decide +kernel⟩
theorem c_l_take {P : Program} {w : World} {K : PySem.W.Frag} {mg : Str → Option Value} {base : Heap} {f : Addr} {fd : FuncData} (Fn : Fun K "_law_take" "_law_take" s_l_take f fd) (g : mg "_law_take" = some (.ref f)) (bd : Binds K fd ["_law_hand_here", "_law_many"] []) (B : BI mg) :
    FC P w K mg base 1 "_law_take" ["_law_hand_here", "_law_many"] m_l_take := by
  refine dcF (io := [0]) Fn g bd sc_l_take ?hio (fun cdv A outer s H E hr => by
    have hv := hr.u64
    have hu := hr.hu
    exact (fss_cons (fs_if (ft_cmp fo_gt (fe_ixL hu (de_var 0) (fe_c de_int)) (fe_c de_int)) (fss_cons (fs_set (i := 2) sc_l_take.nd rfl (.inl rfl) (fe_bin fo_mod (fe_ixL hu (de_var 0) (fe_c de_int)) (fe_var 1)))
      (fss_cons (fs_setIx hu (fe_bin fo_div (fe_ixL hu (de_var 0) (fe_c de_int)) (fe_var 1)) (de_var 0) (fe_c de_int))
      (fss_one (fs_ret (fe_var 2))))) fss_nil)
      (fss_cons (fs_setIx hu (fe_bin fo_add (fe_ixL hu (de_var 0) (fe_c de_int)) (fe_c de_int)) (de_var 0) (fe_c de_int))
      (fss_cons (fs_set (i := 3) sc_l_take.nd rfl (.inl rfl) (fe_bin fo_mod (fe_bin fo_mul (fe_bin fo_add (fe_bin fo_add (fe_ixL hu (de_var 0) (fe_c de_int)) (fe_bin fo_mul (fe_bin fo_mul (fe_c de_int) (fe_ixL hu (de_var 0) (fe_c de_int))) (fe_ixL hu (de_var 0) (fe_c de_int)))) (fe_c de_int)) (fe_c de_int)) (fe_c de_int)))
      (fss_cons (fs_set (i := 3) sc_l_take.nd rfl (.inl rfl) (fe_bin fo_mod (fe_bin fo_mul (fe_var 3) (fe_bin fo_add (fe_bin fo_mod (fe_var 3) (fe_c de_int)) (fe_bin fo_mul (fe_c de_int) (fe_ixL hu (de_var 0) (fe_c de_int))))) (fe_c de_int)))
      (fss_one (fs_ret (fe_bin fo_mod (fe_bin fo_add (fe_bin fo_div (fe_var 3) (fe_c de_int)) (fe_bin fo_div (fe_var 3) (fe_c de_int))) (fe_var 1)))))))))
  case hio => decide
abbrev s_l_pick : Stmt := topS 13
theorem sc_l_pick : FnScope n_l_pick ["_law_hand_here", "_law_some"] (defScope s_l_pick) :=
  ⟨rfl, rfl, rfl, by decide +kernel, rfl, by decide +kernel, by decide +kernel⟩
theorem c_l_pick {P : Program} {w : World} {K : PySem.W.Frag} {mg : Str → Option Value} {base : Heap} {f : Addr} {fd : FuncData} (Fn : Fun K "_law_pick" "_law_pick" s_l_pick f fd) (g : mg "_law_pick" = some (.ref f)) (bd : Binds K fd ["_law_hand_here", "_law_some"] []) (B : BI mg) (C_l_take : FC P w K mg base 1 "_law_take" ["_law_hand_here", "_law_many"] m_l_take) :
    FC P w K mg base 2 "_law_pick" ["_law_hand_here", "_law_some"] m_l_pick := by
  refine dcF (io := [0, 1]) Fn g bd sc_l_pick ?hio (fun cdv A outer s H E hr => by
    have hv := hr.u64
    have hu := hr.hu
    exact (fss_one (fs_ret (fe_ixA hu (de_var 1) (fe_call C_l_take (hr.mono (by decide)) (by rfl) (fl_s (de_var 0) (fl_v (fe_lenA (by rfl) (B.all "len" (by decide)) (de_var 1)) fl_nil)))))))
  case hio => decide
abbrev s_l_words : Stmt := topS 14
theorem sc_l_words : FnScope n_l_words ["_law_hand_here", "_law_many"] (defScope s_l_words) :=
  ⟨rfl, rfl, rfl, by decide +kernel, rfl, by decide +kernel, by decide +kernel⟩
theorem c_l_words {P : Program} {w : World} {K : PySem.W.Frag} {mg : Str → Option Value} {base : Heap} {f : Addr} {fd : FuncData} (Fn : Fun K "_law_words" "_law_words" s_l_words f fd) (g : mg "_law_words" = some (.ref f)) (bd : Binds K fd ["_law_hand_here", "_law_many"] []) (B : BI mg) (C_l_take : FC P w K mg base 1 "_law_take" ["_law_hand_here", "_law_many"] m_l_take) (C_l_pick : FC P w K mg base 2 "_law_pick" ["_law_hand_here", "_law_some"] m_l_pick) :
    FC P w K mg base 3 "_law_words" ["_law_hand_here", "_law_many"] m_l_words := by
  refine dcF (io := [0]) Fn g bd sc_l_words ?hio (fun cdv A outer s H E hr => by
    have hv := hr.u64
    have hu := hr.hu
    exact (fss_cons (fs_set (i := 2) sc_l_words.nd rfl (.inl rfl) (fe_c de_str))
      (fss_cons (fs_par2 (i := 3) (j := 4) rfl sc_l_words.nd (fl_v (fe_call C_l_take (hr.mono (by decide)) (by rfl) (fl_s (de_var 0) (fl_v (fe_c de_int) fl_nil))) (fl_v (fe_call C_l_pick (hr.mono (by decide)) (by rfl) (fl_s (de_var 0) (fl_n (fo_new (ff_lst (fa_cons (fe_c de_int) (fa_cons (fe_c de_int) (fa_cons (fe_c de_int) (fa_cons (fe_c de_int) (fa_cons (fe_c de_int) (fa_cons (fe_c de_int) fa_nil)))))))) fl_nil))) fl_nil)))
      (fss_cons (fs_setO (i := 5) sc_l_words.nd rfl (.inl rfl) (fo_new (ff_lst fa_nil)))
      (fss_cons (fs_for PassesOwn.never rfl (fi_range1 (by rfl) (B.all "range" (by decide)) (fa_cons (fe_var 1) fa_nil)) (fg_name (i := 6) sc_l_words.nd rfl (.inl rfl)) (fss_cons (fs_set (i := 7) sc_l_words.nd rfl (.inl rfl) (fe_ix hu (fe_var 2) (fe_bin fo_mod (fe_bin fo_add (fe_var 3) (fe_bin fo_mul (fe_var 4) (fe_var 6))) (fe_c de_int))))
      (fss_one (fs_if (ft_cmp fo_lt (fe_var 6) (fe_c de_int)) (fss_one (fs_expr (fe_append (de_var 5) (fe_bin fo_mul (fe_var 7) (fe_bin fo_add (fe_c de_int) (fe_bin fo_mod (fe_bin fo_add (fe_bin fo_mul (fe_var 6) (fe_var 6)) (fe_var 3)) (fe_c de_int))))))) (fss_one (fs_expr (fe_append (de_var 5) (fe_bin fo_add (fe_var 7) (fe_c de_str)))))))))
      (fss_one (fs_retV (de_var 5))))))))
  case hio => decide
abbrev s_l_size : Stmt := topS 15
theorem sc_l_size : FnScope n_l_size ["_law_hand_here", "_law_few", "_law_most"] (defScope s_l_size) :=
  ⟨rfl, rfl, rfl, by decide +kernel, rfl, by decide +kernel, by decide +kernel⟩
theorem c_l_size {P : Program} {w : World} {K : PySem.W.Frag} {mg : Str → Option Value} {base : Heap} {f : Addr} {fd : FuncData} (Fn : Fun K "_law_size" "_law_size" s_l_size f fd) (g : mg "_law_size" = some (.ref f)) (bd : Binds K fd ["_law_hand_here", "_law_few", "_law_most"] []) (B : BI mg) (C_l_take : FC P w K mg base 1 "_law_take" ["_law_hand_here", "_law_many"] m_l_take) :
    FC P w K mg base 2 "_law_size" ["_law_hand_here", "_law_few", "_law_most"] m_l_size := by
  refine dcF (io := [0]) Fn g bd sc_l_size ?hio (fun cdv A outer s H E hr => by
    have hv := hr.u64
    have hu := hr.hu
    exact (fss_one (fs_ret (fe_bin fo_add (fe_c de_int) (fe_call C_l_take (hr.mono (by decide)) (by rfl) (fl_s (de_var 0) (fl_v (fe_ixF (ff_lst (fa_cons (fe_var 1) (fa_cons (fe_var 1) (fa_cons (fe_var 1) (fa_cons (fe_var 1) (fa_cons (fe_var 1) (fa_cons (fe_var 1) (fa_cons (fe_var 1) (fa_cons (fe_var 2) fa_nil))))))))) (fe_call C_l_take (hr.mono (by decide)) (by rfl) (fl_s (de_var 0) (fl_v (fe_c de_int) fl_nil)))) fl_nil)))))))
  case hio => decide
abbrev s_l_plains : Stmt := topS 16
theorem sc_l_plains : FnScope n_l_plains ["_law_hand_here", "_law_words_here"] (defScope s_l_plains) :=
  ⟨rfl, rfl, rfl, by decide +kernel, rfl, by decide +kernel, by decide +kernel⟩
theorem c_l_plains {P : Program} {w : World} {K : PySem.W.Frag} {mg : Str → Option Value} {base : Heap} {f : Addr} {fd : FuncData} (Fn : Fun K "_law_plains" "_law_plains" s_l_plains f fd) (g : mg "_law_plains" = some (.ref f)) (bd : Binds K fd ["_law_hand_here", "_law_words_here"] []) (B : BI mg) (C_l_size : FC P w K mg base 2 "_law_size" ["_law_hand_here", "_law_few", "_law_most"] m_l_size) :
    FC P w K mg base 3 "_law_plains" ["_law_hand_here", "_law_words_here"] m_l_plains := by
  refine dcF (io := [0, 1]) Fn g bd sc_l_plains ?hio (fun cdv A outer s H E hr => by
    have hv := hr.u64
    have hu := hr.hu
    exact (fss_cons (fs_setO (i := 2) sc_l_plains.nd rfl (.inl rfl) (fo_new (ff_lst fa_nil)))
      (fss_cons (fs_for PassesOwn.never rfl (fi_range1 (by rfl) (B.all "range" (by decide)) (fa_cons (fe_call C_l_size (hr.mono (by decide)) (by rfl) (fl_s (de_var 0) (fl_v (fe_c de_int) (fl_v (fe_c de_int) fl_nil)))) fa_nil)) (fg_name (i := 3) sc_l_plains.nd rfl (.inl rfl)) (fss_cons (fs_set (i := 4) sc_l_plains.nd rfl (.inl rfl) (fe_pop (de_var 1)))
      (fss_one (fs_expr (fe_append (de_var 2) (fe_tup (fa_cons (fe_var 4) (fa_cons (fe_tupF (by rfl) (B.all "tuple" (by decide)) (ff_lc rfl sc_l_plains.nd (fi_range1 (by rfl) (B.all "range" (by decide)) (fa_cons (fe_call C_l_size (hr.mono (by decide)) (by rfl) (fl_s (de_var 0) (fl_v (fe_c de_int) (fl_v (fe_c de_int) fl_nil)))) fa_nil)) (own := [("_law_turn", 5)]) (show BlkOk n_l_plains (defScope s_l_plains) _ _ from ⟨rfl, by decide +kernel, by decide +kernel, by decide +kernel, by decide +kernel⟩) (fun _ _ _ _ _ => (fg_name (i := 5) sc_l_plains.nd rfl (.inl rfl))) (fun _ _ _ _ _ => fts_nil) (fun _ _ _ _ _ => (fe_pop (de_var 1))))) fa_nil))))))))
      (fss_one (fs_ret (fe_tupL (by rfl) (B.all "tuple" (by decide)) (de_var 2)))))))
  case hio => decide
abbrev s_l_makers : Stmt := topS 17
theorem sc_l_makers : FnScope n_l_makers ["_law_hand_here", "_law_words_here", "_law_plains_here"] (defScope s_l_makers) :=
  ⟨rfl, rfl, rfl, by decide +kernel, rfl, by decide +kernel, by decide +kernel⟩
theorem c_l_makers {P : Program} {w : World} {K : PySem.W.Frag} {mg : Str → Option Value} {base : Heap} {f : Addr} {fd : FuncData} (Fn : Fun K "_law_makers" "_law_makers" s_l_makers f fd) (g : mg "_law_makers" = some (.ref f)) (bd : Binds K fd ["_law_hand_here", "_law_words_here", "_law_plains_here"] []) (B : BI mg) (C_l_take : FC P w K mg base 1 "_law_take" ["_law_hand_here", "_law_many"] m_l_take) (C_l_pick : FC P w K mg base 2 "_law_pick" ["_law_hand_here", "_law_some"] m_l_pick) (C_l_size : FC P w K mg base 2 "_law_size" ["_law_hand_here", "_law_few", "_law_most"] m_l_size) :
    FC P w K mg base 3 "_law_makers" ["_law_hand_here", "_law_words_here", "_law_plains_here"] m_l_makers := by
  refine dcF (io := [0, 1]) Fn g bd sc_l_makers ?hio (fun cdv A outer s H E hr => by
    have hv := hr.u64
    have hu := hr.hu
    exact (fss_cons (fs_setO (i := 3) sc_l_makers.nd rfl (.inr rfl) (fo_new (ff_lc rfl sc_l_makers.nd (fi_tup (fe_var 2)) (own := [("_law_plain", 4)]) (show BlkOk n_l_makers (defScope s_l_makers) _ _ from ⟨rfl, by decide +kernel, by decide +kernel, by decide +kernel, by decide +kernel⟩) (fun _ _ _ _ _ => (fg_name (i := 4) sc_l_makers.nd rfl (.inl rfl))) (fun _ _ _ _ _ => fts_nil) (fun _ _ _ _ _ => (fe_ix hu (fe_var 4) (fe_c de_int))))))
      (fss_cons (fs_setO (i := 5) sc_l_makers.nd rfl (.inl rfl) (fo_new (ff_lst (fa_cons (fe_tup (fa_cons (fe_pop (de_var 1)) (fa_cons (fe_tupF (by rfl) (B.all "tuple" (by decide)) (ff_lc rfl sc_l_makers.nd (fi_range1 (by rfl) (B.all "range" (by decide)) (fa_cons (fe_call C_l_take (hr.mono (by decide)) (by rfl) (fl_s (de_var 0) (fl_v (fe_c de_int) fl_nil))) fa_nil)) (own := [("_law_turn", 6)]) (show BlkOk n_l_makers (defScope s_l_makers) _ _ from ⟨rfl, by decide +kernel, by decide +kernel, by decide +kernel, by decide +kernel⟩) (fun _ _ _ _ _ => (fg_name (i := 6) sc_l_makers.nd rfl (.inl rfl))) (fun _ _ _ _ _ => fts_nil) (fun _ _ _ _ _ => (fe_call C_l_pick (hr.mono (by decide)) (by rfl) (fl_s (de_var 0) (fl_s (de_var 3) fl_nil)))))) fa_nil))) fa_nil))))
      (fss_cons (fs_for PassesOwn.never rfl (fi_range1 (by rfl) (B.all "range" (by decide)) (fa_cons (fe_bin fo_sub (fe_call C_l_size (hr.mono (by decide)) (by rfl) (fl_s (de_var 0) (fl_v (fe_c de_int) (fl_v (fe_c de_int) fl_nil)))) (fe_c de_int)) fa_nil)) (fg_name (i := 7) sc_l_makers.nd rfl (.inl rfl)) (fss_cons (fs_setO (i := 8) sc_l_makers.nd rfl (.inl rfl) (fo_ixO (fl_n (fo_new (ff_lst (fa_cons (fe_c de_str) fa_nil))) (fl_n (fo_new (ff_lst (fa_cons (fe_c de_str) fa_nil))) (fl_n (fo_new (ff_lst (fa_cons (fe_c de_str) (fa_cons (fe_c de_str) fa_nil)))) (fl_n (fo_new (ff_lst fa_nil)) fl_nil)))) (fe_call C_l_take (hr.mono (by decide)) (by rfl) (fl_s (de_var 0) (fl_v (fe_c de_int) fl_nil)))))
      (fss_cons (fs_setO (i := 8) sc_l_makers.nd rfl (.inl rfl) (fo_new (ff_catVF (de_var 8) (ff_lc rfl sc_l_makers.nd (fi_range1 (by rfl) (B.all "range" (by decide)) (fa_cons (fe_callB (fc_min rfl) (by rfl) (B.all "min" (by decide)) PyProof.Rows.boot_min (fa_cons (fe_bin fo_sub (fe_c de_int) (fe_lenL (by rfl) (B.all "len" (by decide)) (de_var 8))) (fa_cons (fe_call C_l_take (hr.mono (by decide)) (by rfl) (fl_s (de_var 0) (fl_v (fe_c de_int) fl_nil))) fa_nil))) fa_nil)) (own := [("_law_turn", 6)]) (show BlkOk n_l_makers (defScope s_l_makers) _ _ from ⟨rfl, by decide +kernel, by decide +kernel, by decide +kernel, by decide +kernel⟩) (fun _ _ _ _ _ => (fg_name (i := 6) sc_l_makers.nd rfl (.inl rfl))) (fun _ _ _ _ _ => fts_nil) (fun _ _ _ _ _ => (fe_call C_l_pick (hr.mono (by decide)) (by rfl) (fl_s (de_var 0) (fl_s (de_var 3) fl_nil))))))))
      (fss_cons (fs_if (ft_cmp (fo_eq hv) (fe_call C_l_take (hr.mono (by decide)) (by rfl) (fl_s (de_var 0) (fl_v (fe_c de_int) fl_nil))) (fe_c de_int)) (fss_one (fs_setO (i := 8) sc_l_makers.nd rfl (.inl rfl) (fo_new (ff_revL (de_var 8))))) fss_nil)
      (fss_one (fs_expr (fe_append (de_var 5) (fe_tup (fa_cons (fe_pop (de_var 1)) (fa_cons (fe_tupL (by rfl) (B.all "tuple" (by decide)) (de_var 8)) fa_nil))))))))))
      (fss_cons (fs_if (ft_cmp (fo_eq hv) (fe_call C_l_take (hr.mono (by decide)) (by rfl) (fl_s (de_var 0) (fl_v (fe_c de_int) fl_nil))) (fe_c de_int)) (fss_one (fs_setO (i := 5) sc_l_makers.nd rfl (.inl rfl) (fo_new (ff_revL (de_var 5))))) fss_nil)
      (fss_one (fs_ret (fe_tupL (by rfl) (B.all "tuple" (by decide)) (de_var 5)))))))))
  case hio => decide
abbrev s_l_askings : Stmt := topS 18
theorem sc_l_askings : FnScope n_l_askings ["_law_hand_here", "_law_words_here", "_law_plains_here", "_law_many"] (defScope s_l_askings) :=
  ⟨rfl, rfl, rfl, by decide +kernel, rfl, by decide +kernel, by decide +kernel⟩
theorem c_l_askings {P : Program} {w : World} {K : PySem.W.Frag} {mg : Str → Option Value} {base : Heap} {f : Addr} {fd : FuncData} (Fn : Fun K "_law_askings" "_law_askings" s_l_askings f fd) (g : mg "_law_askings" = some (.ref f)) (bd : Binds K fd ["_law_hand_here", "_law_words_here", "_law_plains_here", "_law_many"] []) (B : BI mg) (C_l_take : FC P w K mg base 1 "_law_take" ["_law_hand_here", "_law_many"] m_l_take) (C_l_pick : FC P w K mg base 2 "_law_pick" ["_law_hand_here", "_law_some"] m_l_pick) :
    FC P w K mg base 3 "_law_askings" ["_law_hand_here", "_law_words_here", "_law_plains_here", "_law_many"] m_l_askings := by
  refine dcF (io := [0, 1]) Fn g bd sc_l_askings ?hio (fun cdv A outer s H E hr => by
    have hv := hr.u64
    have hu := hr.hu
    exact (fss_cons (fs_setLc (i := 4) rfl sc_l_askings.nd rfl rfl (sw_true rfl rfl rfl rfl) (fi_tup (fe_var 2)) (own := [("_law_plain", 5)]) (show BlkOk n_l_askings (defScope s_l_askings) _ _ from ⟨rfl, by decide +kernel, by decide +kernel, by decide +kernel, by decide +kernel⟩) (fun _ _ _ _ _ => (fg_name (i := 5) sc_l_askings.nd rfl (.inl rfl))) (fun _ _ _ _ _ => fts_nil) (fun _ _ _ _ _ => (fe_ix hu (fe_var 5) (fe_c de_int))))
      (fss_cons (fs_setO (i := 6) sc_l_askings.nd rfl (.inl rfl) (fo_new (ff_lst fa_nil)))
      (fss_cons (fs_for PassesOwn.never rfl (fi_range1 (by rfl) (B.all "range" (by decide)) (fa_cons (fe_var 3) fa_nil)) (fg_name (i := 7) sc_l_askings.nd rfl (.inl rfl)) (fss_cons (fs_set (i := 8) sc_l_askings.nd rfl (.inl rfl) (fe_tup (fa_cons (fe_c de_str) fa_nil)))
      (fss_cons (fs_if (ft_cmp (fo_eq hv) (fe_call C_l_take (hr.mono (by decide)) (by rfl) (fl_s (de_var 0) (fl_v (fe_c de_int) fl_nil))) (fe_c de_int)) (fss_one (fs_set (i := 8) sc_l_askings.nd rfl (.inl rfl) (fe_tup (fa_cons (fe_c de_str) (fa_cons (fe_call C_l_pick (hr.mono (by decide)) (by rfl) (fl_s (de_var 0) (fl_s (de_var 4) fl_nil))) fa_nil))))) fss_nil)
      (fss_one (fs_expr (fe_append (de_var 6) (fe_tup (fa_cons (fe_pop (de_var 1)) (fa_cons (fe_var 8) fa_nil)))))))))
      (fss_one (fs_retV (de_var 6)))))))
  case hio => decide
abbrev s_l_bare_kind : Stmt := topS 19
theorem sc_l_bare_kind : FnScope n_l_bare_kind ["_law_hand_here", "_law_many"] (defScope s_l_bare_kind) :=
  ⟨rfl, rfl, rfl, by decide +kernel, rfl, by decide +kernel, by decide +kernel⟩
theorem c_l_bare_kind {P : Program} {w : World} {K : PySem.W.Frag} {mg : Str → Option Value} {base : Heap} {f : Addr} {fd : FuncData} (Fn : Fun K "_law_bare_kind" "_law_bare_kind" s_l_bare_kind f fd) (g : mg "_law_bare_kind" = some (.ref f)) (bd : Binds K fd ["_law_hand_here", "_law_many"] []) (B : BI mg) (C_l_words : FC P w K mg base 3 "_law_words" ["_law_hand_here", "_law_many"] m_l_words) (C_l_plains : FC P w K mg base 3 "_law_plains" ["_law_hand_here", "_law_words_here"] m_l_plains) (C_l_makers : FC P w K mg base 3 "_law_makers" ["_law_hand_here", "_law_words_here", "_law_plains_here"] m_l_makers) (C_l_askings : FC P w K mg base 3 "_law_askings" ["_law_hand_here", "_law_words_here", "_law_plains_here", "_law_many"] m_l_askings) (C_l_size : FC P w K mg base 2 "_law_size" ["_law_hand_here", "_law_few", "_law_most"] m_l_size) (C_l_pick : FC P w K mg base 2 "_law_pick" ["_law_hand_here", "_law_some"] m_l_pick) (C_l_take : FC P w K mg base 1 "_law_take" ["_law_hand_here", "_law_many"] m_l_take) :
    FC P w K mg base 4 "_law_bare_kind" ["_law_hand_here", "_law_many"] m_l_bare_kind := by
  refine dcF (io := [0]) Fn g bd sc_l_bare_kind ?hio (fun cdv A outer s H E hr => by
    have hv := hr.u64
    have hu := hr.hu
    exact (fss_cons (fs_setO (i := 2) sc_l_bare_kind.nd rfl (.inl rfl) (fo_call C_l_words (hr.mono (by decide)) (by rfl) (fl_s (de_var 0) (fl_v (fe_c de_int) fl_nil))))
      (fss_cons (fs_set (i := 3) sc_l_bare_kind.nd rfl (.inl rfl) (fe_call C_l_plains (hr.mono (by decide)) (by rfl) (fl_s (de_var 0) (fl_s (de_var 2) fl_nil))))
      (fss_cons (fs_par2 (i := 4) (j := 5) rfl sc_l_bare_kind.nd (fl_v (fe_call C_l_makers (hr.mono (by decide)) (by rfl) (fl_s (de_var 0) (fl_s (de_var 2) (fl_v (fe_var 3) fl_nil)))) (fl_n (fo_new (ff_lst fa_nil)) fl_nil)))
      (fss_cons (fs_for PassesOwn.never rfl (fi_own (fo_call C_l_askings (hr.mono (by decide)) (by rfl) (fl_s (de_var 0) (fl_s (de_var 2) (fl_v (fe_var 3) (fl_v (fe_call C_l_size (hr.mono (by decide)) (by rfl) (fl_s (de_var 0) (fl_v (fe_c de_int) (fl_v (fe_c de_int) fl_nil)))) fl_nil)))))) (fg_tup rfl (fgs_cons (fg_name (i := 6) sc_l_bare_kind.nd rfl (.inl rfl)) (fgs_cons (fg_name (i := 7) sc_l_bare_kind.nd rfl (.inl rfl)) fgs_nil))) (fss_one (fs_expr (fe_append (de_var 5) (fe_tup (fa_cons (fe_var 6) (fa_cons (fe_var 7) (fa_cons (fe_ix hu (fe_call C_l_pick (hr.mono (by decide)) (by rfl) (fl_s (de_var 0) (fl_v (fe_var 3) fl_nil))) (fe_c de_int)) fa_nil))))))))
      (fss_cons (fs_setO (i := 8) sc_l_bare_kind.nd rfl (.inl rfl) (fo_call C_l_askings (hr.mono (by decide)) (by rfl) (fl_s (de_var 0) (fl_s (de_var 2) (fl_v (fe_var 3) (fl_v (fe_call C_l_take (hr.mono (by decide)) (by rfl) (fl_s (de_var 0) (fl_v (fe_bin fo_add (fe_var 1) (fe_c de_int)) fl_nil))) fl_nil))))))
      (fss_one (fs_ret (fe_tup (fa_cons (fe_var 3) (fa_cons (fe_var 4) (fa_cons (fe_tupL (by rfl) (B.all "tuple" (by decide)) (de_var 5)) (fa_cons (fe_tupL (by rfl) (B.all "tuple" (by decide)) (de_var 8)) (fa_cons (fe_tup fa_nil) fa_nil))))))))))))))
  case hio => decide
abbrev s_l_made : Stmt := topS 20
theorem sc_l_made : FnScope n_l_made ["_law_hand_here", "_law_kind", "_law_deep"] (defScope s_l_made) :=
  ⟨rfl, rfl, rfl, by decide +kernel, rfl, by decide +kernel, by decide +kernel⟩
theorem c_l_made {P : Program} {w : World} {K : PySem.W.Frag} {mg : Str → Option Value} {base : Heap} {f : Addr} {fd : FuncData} (Fn : Fun K "_law_made" "_law_made" s_l_made f fd) (g : mg "_law_made" = some (.ref f)) (bd : Binds K fd ["_law_hand_here", "_law_kind", "_law_deep"] []) (B : BI mg) (C_l_pick : FC P w K mg base 2 "_law_pick" ["_law_hand_here", "_law_some"] m_l_pick) :
    ∀ n, FC P w K mg base (2 + n) "_law_made" ["_law_hand_here", "_law_kind", "_law_deep"] (m_l_made n)
  | 0 => ⟨(DC.no g Fn.kp bd _).imp (fun _ _ _ ⟨_, _, _, _, _, _, e, _⟩ => nomatch e), fun _ _ _ e => nomatch e⟩
  | n + 1 => by
    have C_l_made := c_l_made (P := P) (w := w) (base := base) Fn g bd B C_l_pick n
    refine dcF (io := [0]) Fn g bd sc_l_made ?hio (fun cdv A outer s H E hr => by
    have hv := hr.u64
    have hu := hr.hu
    exact (fss_cons (fs_setLc (i := 3) rfl sc_l_made.nd rfl rfl (sw_true rfl rfl rfl rfl) (fi_tup (fe_ix hu (fe_var 1) (fe_c de_int))) (own := [("_law_maker", 4)]) (show BlkOk n_l_made (defScope s_l_made) _ _ from ⟨rfl, by decide +kernel, by decide +kernel, by decide +kernel, by decide +kernel⟩) (fun _ _ _ _ _ => (fg_name (i := 4) sc_l_made.nd rfl (.inl rfl))) (fun _ _ _ _ _ => (fts_one (ft_w (fw_or (ft_cmp fo_gt (fe_var 2) (fe_c de_int)) (fw_or1 (ft_cmp (fo_notIn hu) (fe_c de_str) (fe_ix hu (fe_var 4) (fe_c de_int)))))))) (fun _ _ _ _ _ => (fe_var 4)))
      (fss_cons (fs_set (i := 4) sc_l_made.nd rfl (.inl rfl) (fe_call C_l_pick (hr.mono (by first | exact Nat.le_refl _ | exact Nat.le_trans (by decide : _ ≤ 2) (Nat.le_add_right _ _))) (by rfl) (fl_s (de_var 0) (fl_s (de_var 3) fl_nil))))
      (fss_cons (fs_set (i := 5) sc_l_made.nd rfl (.inl rfl) (fe_tup fa_nil))
      (fss_cons (fs_for PassesOwn.never rfl (fi_tup (fe_ix hu (fe_var 4) (fe_c de_int))) (fg_name (i := 6) sc_l_made.nd rfl (.inl rfl)) (fss_one (fs_if (ft_cmp (fo_eq hv) (fe_var 6) (fe_c de_str)) (fss_one (fs_set (i := 5) sc_l_made.nd rfl (.inl rfl) (fe_bin fo_add (fe_var 5) (fe_tup (fa_cons (fe_call C_l_made (hr.mono (by first | exact Nat.le_refl _ | exact Nat.le_trans (by decide : _ ≤ 2) (Nat.le_add_right _ _))) (by rfl) (fl_s (de_var 0) (fl_v (fe_var 1) (fl_v (fe_bin fo_sub (fe_var 2) (fe_c de_int)) fl_nil)))) fa_nil))))) (fss_one (fs_set (i := 5) sc_l_made.nd rfl (.inl rfl) (fe_bin fo_add (fe_var 5) (fe_tup (fa_cons (fe_call C_l_pick (hr.mono (by first | exact Nat.le_refl _ | exact Nat.le_trans (by decide : _ ≤ 2) (Nat.le_add_right _ _))) (by rfl) (fl_s (de_var 0) (fl_v (fe_ixDict hu rfl (by rfl) (B.all "dict" (by decide)) (fe_ix hu (fe_var 1) (fe_c de_int)) (fe_var 6)) fl_nil))) fa_nil))))))))
      (fss_one (fs_ret (fe_bin fo_add (fe_tup (fa_cons (fe_ix hu (fe_var 4) (fe_c de_int)) fa_nil)) (fe_var 5)))))))))
    case hio => decide
abbrev s_l_is_made : Stmt := topS 21
theorem sc_l_is_made : FnScope n_l_is_made ["_law_kind", "_law_thing"] (defScope s_l_is_made) :=
  ⟨rfl, rfl, rfl, by decide +kernel, rfl, by decide +kernel, by decide +kernel⟩
theorem c_l_is_made {P : Program} {w : World} {K : PySem.W.Frag} {mg : Str → Option Value} {base : Heap} {f : Addr} {fd : FuncData} (Fn : Fun K "_law_is_made" "_law_is_made" s_l_is_made f fd) (g : mg "_law_is_made" = some (.ref f)) (bd : Binds K fd ["_law_kind", "_law_thing"] []) (B : BI mg) :
    ∀ n, DC P w K mg base (0 + n) "_law_is_made" ["_law_kind", "_law_thing"] (spP (m_l_is_made n))
  | 0 => DC.no g Fn.kp bd _ |>.imp (fun _ _ _ ⟨_, e, _⟩ => nomatch e)
  | n + 1 => by
    have C_l_is_made := c_l_is_made (P := P) (w := w) (base := base) Fn g bd B n
    exact dcP Fn g bd sc_l_is_made (fun cdv A outer s H E hr => by
    have hv := hr.u64
    have hu := hr.hu
    exact (fss_cons (fs_if (ft_w (fw_or (ft_not (ft_val (fe_callB fc_isi (by rfl) (B.all "isinstance" (by decide)) PyProof.Rows.boot_isinstance (fa_cons (fe_var 1) (fa_cons (fe_c (de_gtype (by rfl) (B.all "tuple" (by decide)) PyProof.Rows.boot_tuple)) fa_nil))))) (fw_or (ft_cmp (fo_eqU hv) (fe_var 1) (fe_tup fa_nil)) (fw_or1 (ft_not (ft_val (fe_callB fc_isi (by rfl) (B.all "isinstance" (by decide)) PyProof.Rows.boot_isinstance (fa_cons (fe_ix hu (fe_var 1) (fe_c de_int)) (fa_cons (fe_c (de_gtype (by rfl) (B.all "str" (by decide)) PyProof.Rows.boot_str)) fa_nil))))))))) (fss_one (fs_ret (fe_c de_bl))) fss_nil)
      (fss_cons (fs_set (i := 2) sc_l_is_made.nd rfl (.inl rfl) (fe_ixF (ff_catFF (ff_lc rfl sc_l_is_made.nd (fi_tup (fe_ix hu (fe_var 0) (fe_c de_int))) (own := [("_law_maker", 3)]) (show BlkOk n_l_is_made (defScope s_l_is_made) _ _ from ⟨rfl, by decide +kernel, by decide +kernel, by decide +kernel, by decide +kernel⟩) (fun _ _ _ _ _ => (fg_name (i := 3) sc_l_is_made.nd rfl (.inl rfl))) (fun _ _ _ _ _ => (fts_one (ft_cmp (fo_eq hv) (fe_ix hu (fe_var 3) (fe_c de_int)) (fe_ix hu (fe_var 1) (fe_c de_int))))) (fun _ _ _ _ _ => (fe_var 3))) (ff_lst (fa_cons (fe_tup (fa_cons (fe_c de_str) (fa_cons (fe_c de_non) fa_nil))) fa_nil))) (fe_c de_int)))
      (fss_cons (fs_if (ft_w (fw_or (ft_isN (fe_ix hu (fe_var 2) (fe_c de_int))) (fw_or1 (ft_cmp (fo_ne hv) (fe_callB fc_len (by rfl) (B.all "len" (by decide)) PySem.boot_len (fa_cons (fe_var 1) fa_nil)) (fe_bin fo_add (fe_c de_int) (fe_callB fc_len (by rfl) (B.all "len" (by decide)) PySem.boot_len (fa_cons (fe_ix hu (fe_var 2) (fe_c de_int)) fa_nil))))))) (fss_one (fs_ret (fe_c de_bl))) fss_nil)
      (fss_cons (fs_for PassesOwn.never rfl (fi_zip (by rfl) (B.all "zip" (by decide)) (fa_cons (fe_ix hu (fe_var 2) (fe_c de_int)) (fa_cons (fe_slT (fe_var 1) (fpo_some (fe_c de_int)) fpo_none) fa_nil))) (fg_tup rfl (fgs_cons (fg_name (i := 4) sc_l_is_made.nd rfl (.inl rfl)) (fgs_cons (fg_name (i := 5) sc_l_is_made.nd rfl (.inl rfl)) fgs_nil))) (fss_cons (fs_if (ft_w (fw_and (ft_cmp (fo_eq hv) (fe_var 4) (fe_c de_str)) (fw_and1 (ft_not (ft_val (fe_callP C_l_is_made (hr.mono (by first | exact Nat.le_refl _ | exact Nat.le_trans (by decide : _ ≤ 0) (Nat.le_add_right _ _))) (by rfl) (fa_cons (fe_var 0) (fa_cons (fe_var 5) fa_nil)))))))) (fss_one (fs_ret (fe_c de_bl))) fss_nil)
      (fss_one (fs_if (ft_w (fw_and (ft_cmp (fo_ne hv) (fe_var 4) (fe_c de_str)) (fw_and1 (ft_w (fw_or (ft_not (ft_val (fe_callB fc_isi (by rfl) (B.all "isinstance" (by decide)) PyProof.Rows.boot_isinstance (fa_cons (fe_var 5) (fa_cons (fe_c (de_gtype (by rfl) (B.all "str" (by decide)) PyProof.Rows.boot_str)) fa_nil))))) (fw_or1 (ft_cmp (fo_notIn hu) (fe_var 5) (fe_ixDict hu rfl (by rfl) (B.all "dict" (by decide)) (fe_ix hu (fe_var 0) (fe_c de_int)) (fe_var 4))))))))) (fss_one (fs_ret (fe_c de_bl))) fss_nil))))
      (fss_one (fs_ret (fe_c de_bl))))))))
abbrev s_l_odd : Stmt := topS 22
theorem sc_l_odd : FnScope n_l_odd ["_law_hand_here", "_law_kind", "_law_thing"] (defScope s_l_odd) :=
  ⟨rfl, rfl, rfl, by decide +kernel, rfl, by decide +kernel, by decide +kernel⟩
theorem c_l_odd {P : Program} {w : World} {K : PySem.W.Frag} {mg : Str → Option Value} {base : Heap} {f : Addr} {fd : FuncData} (Fn : Fun K "_law_odd" "_law_odd" s_l_odd f fd) (g : mg "_law_odd" = some (.ref f)) (bd : Binds K fd ["_law_hand_here", "_law_kind", "_law_thing"] []) (B : BI mg) (C_l_pick : FC P w K mg base 2 "_law_pick" ["_law_hand_here", "_law_some"] m_l_pick) :
    FC P w K mg base 3 "_law_odd" ["_law_hand_here", "_law_kind", "_law_thing"] m_l_odd := by
  refine dcF (io := [0]) Fn g bd sc_l_odd ?hio (fun cdv A outer s H E hr => by
    have hv := hr.u64
    have hu := hr.hu
    exact (fss_cons (fs_setO (i := 3) sc_l_odd.nd rfl (.inl rfl) (fo_new (ff_lst (fa_cons (fe_c de_int) (fa_cons (fe_c de_bl) (fa_cons (fe_c de_non) (fa_cons (fe_c de_str) (fa_cons (fe_tup fa_nil) (fa_cons (fe_frz (ff_lst fa_nil)) (fa_cons (fe_var 2) (fa_cons (fe_c de_str) (fa_cons (fe_tup (fa_cons (fe_c de_str) fa_nil)) fa_nil))))))))))))
      (fss_cons (fs_for PassesOwn.never rfl (fi_tup (fe_ix hu (fe_var 1) (fe_c de_int))) (fg_tup rfl (fgs_cons (fg_name (i := 4) sc_l_odd.nd rfl (.inl rfl)) (fgs_cons (fg_name (i := 5) sc_l_odd.nd rfl (.inl rfl)) fgs_nil))) (fss_one (fs_expr (fe_extF (de_var 3) (ff_lst (fa_cons (fe_var 4) (fa_cons (fe_ix hu (fe_var 5) (fe_c de_int)) (fa_cons (fe_ix hu (fe_var 5) (fe_neg (fe_c de_int))) fa_nil))))))))
      (fss_cons (fs_for PassesOwn.never rfl (fi_tup (fe_bin fo_add (fe_bin fo_add (fe_ix hu (fe_var 1) (fe_c de_int)) (fe_ix hu (fe_var 1) (fe_c de_int))) (fe_ix hu (fe_var 1) (fe_c de_int)))) (fg_name (i := 6) sc_l_odd.nd rfl (.inl rfl)) (fss_one (fs_expr (fe_extF (de_var 3) (ff_lst (fa_cons (fe_ix hu (fe_var 6) (fe_c de_int)) (fa_cons (fe_tup (fa_cons (fe_ix hu (fe_var 6) (fe_c de_int)) fa_nil)) (fa_cons (fe_tup (fa_cons (fe_ix hu (fe_var 6) (fe_c de_int)) (fa_cons (fe_var 2) fa_nil))) fa_nil))))))))
      (fss_one (fs_ret (fe_call C_l_pick (hr.mono (by decide)) (by rfl) (fl_s (de_var 0) (fl_s (de_var 3) fl_nil)))))))))
  case hio => decide
abbrev s_l_bent : Stmt := topS 23
theorem sc_l_bent : FnScope n_l_bent ["_law_hand_here", "_law_kind", "_law_thing"] (defScope s_l_bent) :=
  ⟨rfl, rfl, rfl, by decide +kernel, rfl, by decide +kernel, by decide +kernel⟩
theorem c_l_bent {P : Program} {w : World} {K : PySem.W.Frag} {mg : Str → Option Value} {base : Heap} {f : Addr} {fd : FuncData} (Fn : Fun K "_law_bent" "_law_bent" s_l_bent f fd) (g : mg "_law_bent" = some (.ref f)) (bd : Binds K fd ["_law_hand_here", "_law_kind", "_law_thing"] []) (B : BI mg) (C_l_take : FC P w K mg base 1 "_law_take" ["_law_hand_here", "_law_many"] m_l_take) (C_l_odd : FC P w K mg base 3 "_law_odd" ["_law_hand_here", "_law_kind", "_law_thing"] m_l_odd) (C_l_pick : FC P w K mg base 2 "_law_pick" ["_law_hand_here", "_law_some"] m_l_pick) :
    ∀ n, FC P w K mg base (3 + n) "_law_bent" ["_law_hand_here", "_law_kind", "_law_thing"] (m_l_bent n)
  | 0 => ⟨(DC.no g Fn.kp bd _).imp (fun _ _ _ ⟨_, _, _, _, _, _, e, _⟩ => nomatch e), fun _ _ _ e => nomatch e⟩
  | n + 1 => by
    have C_l_bent := c_l_bent (P := P) (w := w) (base := base) Fn g bd B C_l_take C_l_odd C_l_pick n
    refine dcF (io := [0]) Fn g bd sc_l_bent ?hio (fun cdv A outer s H E hr => by
    have hv := hr.u64
    have hu := hr.hu
    exact (fss_cons (fs_if (ft_w (fw_or (ft_not (ft_val (fe_callB fc_isi (by rfl) (B.all "isinstance" (by decide)) PyProof.Rows.boot_isinstance (fa_cons (fe_var 2) (fa_cons (fe_c (de_gtype (by rfl) (B.all "tuple" (by decide)) PyProof.Rows.boot_tuple)) fa_nil))))) (fw_or1 (ft_cmp (fo_eq hv) (fe_call C_l_take (hr.mono (by first | exact Nat.le_refl _ | exact Nat.le_trans (by decide : _ ≤ 3) (Nat.le_add_right _ _))) (by rfl) (fl_s (de_var 0) (fl_v (fe_c de_int) fl_nil))) (fe_c de_int))))) (fss_one (fs_ret (fe_call C_l_odd (hr.mono (by first | exact Nat.le_refl _ | exact Nat.le_trans (by decide : _ ≤ 3) (Nat.le_add_right _ _))) (by rfl) (fl_s (de_var 0) (fl_v (fe_var 1) (fl_v (fe_var 2) fl_nil)))))) fss_nil)
      (fss_cons (fs_set (i := 3) sc_l_bent.nd rfl (.inl rfl) (fe_call C_l_take (hr.mono (by first | exact Nat.le_refl _ | exact Nat.le_trans (by decide : _ ≤ 3) (Nat.le_add_right _ _))) (by rfl) (fl_s (de_var 0) (fl_v (fe_callB fc_len (by rfl) (B.all "len" (by decide)) PySem.boot_len (fa_cons (fe_var 2) fa_nil)) fl_nil))))
      (fss_cons (fs_if (ft_cmp (fo_eq hv) (fe_var 3) (fe_c de_int)) (fss_cons (fs_set (i := 4) sc_l_bent.nd rfl (.inl rfl) (fe_call C_l_pick (hr.mono (by first | exact Nat.le_refl _ | exact Nat.le_trans (by decide : _ ≤ 3) (Nat.le_add_right _ _))) (by rfl) (fl_s (de_var 0) (fl_n (fo_new (ff_lc rfl sc_l_bent.nd (fi_tup (fe_bin fo_add (fe_bin fo_add (fe_ix hu (fe_var 1) (fe_c de_int)) (fe_ix hu (fe_var 1) (fe_c de_int))) (fe_ix hu (fe_var 1) (fe_c de_int)))) (own := [("_law_row", 5)]) (show BlkOk n_l_bent (defScope s_l_bent) _ _ from ⟨rfl, by decide +kernel, by decide +kernel, by decide +kernel, by decide +kernel⟩) (fun _ _ _ _ _ => (fg_name (i := 5) sc_l_bent.nd rfl (.inl rfl))) (fun _ _ _ _ _ => fts_nil) (fun _ _ _ _ _ => (fe_ix hu (fe_var 5) (fe_c de_int))))) fl_nil))))
      (fss_one (fs_ret (fe_call C_l_pick (hr.mono (by first | exact Nat.le_refl _ | exact Nat.le_trans (by decide : _ ≤ 3) (Nat.le_add_right _ _))) (by rfl) (fl_s (de_var 0) (fl_n (fo_new (ff_lst (fa_cons (fe_bin fo_add (fe_tup (fa_cons (fe_var 4) fa_nil)) (fe_slT (fe_var 2) (fpo_some (fe_c de_int)) fpo_none)) (fa_cons (fe_slT (fe_var 2) fpo_none (fpo_some (fe_neg (fe_c de_int)))) (fa_cons (fe_bin fo_add (fe_var 2) (fe_slT (fe_var 2) (fpo_some (fe_neg (fe_c de_int))) fpo_none)) (fa_cons (fe_frz (ff_listV (by rfl) (B.all "list" (by decide)) (fe_var 2))) (fa_cons (fe_bin fo_add (fe_var 2) (fe_tup (fa_cons (fe_var 2) fa_nil))) fa_nil))))))) fl_nil)))))) fss_nil)
      (fss_one (fs_ret (fe_bin fo_add (fe_bin fo_add (fe_slT (fe_var 2) fpo_none (fpo_some (fe_var 3))) (fe_tup (fa_cons (fe_call C_l_bent (hr.mono (by first | exact Nat.le_refl _ | exact Nat.le_trans (by decide : _ ≤ 3) (Nat.le_add_right _ _))) (by rfl) (fl_s (de_var 0) (fl_v (fe_var 1) (fl_v (fe_ix hu (fe_var 2) (fe_var 3)) fl_nil)))) fa_nil))) (fe_slT (fe_var 2) (fpo_some (fe_bin fo_add (fe_var 3) (fe_c de_int))) fpo_none))))))))
    case hio => decide
abbrev s_law : Stmt := topS 24
theorem sc_law : FnScope n_law ["_law_script"] (defScope s_law) :=
  ⟨rfl, rfl, rfl, by decide +kernel, rfl, by decide +kernel, by decide +kernel⟩
theorem c_law {P : Program} {w : World} {K : PySem.W.Frag} {mg : Str → Option Value} {base : Heap} {f : Addr} {fd : FuncData} (Fn : Fun K "law" "law" s_law f fd) (g : mg "law" = some (.ref f)) (bd : Binds K fd ["_law_script"] []) (B : BI mg) (C_l_hand : FC P w K mg base 1 "_law_hand" ["_law_script", "_law_k"] m_l_hand) (C_l_bare_kind : FC P w K mg base 4 "_law_bare_kind" ["_law_hand_here", "_law_many"] m_l_bare_kind) (C_l_made : FC P w K mg base 62 "_law_made" ["_law_hand_here", "_law_kind", "_law_deep"] (m_l_made 60)) (C_l_take : FC P w K mg base 1 "_law_take" ["_law_hand_here", "_law_many"] m_l_take) (C_l_bent : FC P w K mg base 63 "_law_bent" ["_law_hand_here", "_law_kind", "_law_thing"] (m_l_bent 60)) (C_p_is_made : DC P w K mg base 5 "is_made" ["kind", "thing"] (spP m_p_is_made)) (C_l_is_made : DC P w K mg base 60 "_law_is_made" ["_law_kind", "_law_thing"] (spP (m_l_is_made 60))) :
    FnD P w K mg base 64 f fd ["_law_script"] (spP m_law) := by
  exact fdP Fn sc_law (fun cdv A outer s H E hr => by
    have hv := hr.u64
    have hu := hr.hu
    exact (fss_cons (fs_for PassesOwn.never rfl (fi_range1 (by rfl) (B.all "range" (by decide)) (fa_cons (fe_callB (fc_max rfl) (by rfl) (B.all "max" (by decide)) PyProof.Rows.boot_max (fa_cons (fe_c de_int) (fa_cons (fe_callB (fc_min rfl) (by rfl) (B.all "min" (by decide)) PyProof.Rows.boot_min (fa_cons (fe_c de_int) (fa_cons (fe_callB fc_len (by rfl) (B.all "len" (by decide)) PySem.boot_len (fa_cons (fe_var 0) fa_nil)) fa_nil))) fa_nil))) fa_nil)) (fg_name (i := 1) sc_law.nd rfl (.inl rfl)) (fss_cons (fs_setO (i := 2) sc_law.nd rfl (.inr rfl) (fo_call C_l_hand (hr.mono (by decide)) (by rfl) (fl_v (fe_var 0) (fl_v (fe_var 1) fl_nil))))
      (fss_cons (fs_set (i := 3) sc_law.nd rfl (.inr rfl) (fe_call C_l_bare_kind (hr.mono (by decide)) (by rfl) (fl_s (de_var 2) (fl_v (fe_c de_int) fl_nil))))
      (fss_cons (fs_for PassesOwn.never rfl (fi_range1 (by rfl) (B.all "range" (by decide)) (fa_cons (fe_c de_int) fa_nil)) (fg_name (i := 4) sc_law.nd rfl (.inl rfl)) (fss_cons (fs_set (i := 5) sc_law.nd rfl (.inr rfl) (fe_call C_l_made (hr.mono (by decide)) (by rfl) (fl_s (de_var 2) (fl_v (fe_var 3) (fl_v (fe_call C_l_take (hr.mono (by decide)) (by rfl) (fl_s (de_var 2) (fl_v (fe_c de_int) fl_nil))) fl_nil)))))
      (fss_cons (fs_setO (i := 6) sc_law.nd rfl (.inl rfl) (fo_new (ff_catFF (ff_lst (fa_cons (fe_var 5) fa_nil)) (ff_lc rfl sc_law.nd (fi_range1 (by rfl) (B.all "range" (by decide)) (fa_cons (fe_c de_int) fa_nil)) (own := [("_law_again", 7)]) (blk_by (by kernel_rfl)) (fun _ _ _ _ _ => (fg_name (i := 7) sc_law.nd rfl (.inl rfl))) (fun _ _ _ _ _ => fts_nil) (fun _ _ _ _ _ => (fe_call C_l_bent (hr.mono (by decide)) (by rfl) (fl_s (de_var 2) (fl_v (fe_var 3) (fl_v (fe_var 5) fl_nil)))))))))
      (fss_cons (fs_if (ft_cmp fo_notB (fe_callP C_p_is_made (hr.mono (by decide)) (by rfl) (fa_cons (fe_var 3) (fa_cons (fe_var 5) fa_nil))) (fe_c de_bl)) (fss_one (fs_ret (fe_c de_bl))) fss_nil)
      (fss_one (fs_for PassesOwn.never rfl (fi_slot (de_var 6)) (fg_name (i := 8) sc_law.nd rfl (.inl rfl)) (fss_cons (fs_set (i := 9) sc_law.nd rfl (.inl rfl) (fe_callB (fc_reprV hv hr.g) (by rfl) (B.all "repr" (by decide)) PyProof.Rows.boot_repr (fa_cons (fe_callP C_l_is_made (hr.mono (by decide)) (by rfl) (fa_cons (fe_var 3) (fa_cons (fe_var 8) fa_nil))) fa_nil)))
      (fss_one (fs_if (ft_w (fw_or (ft_cmp (fo_ne hv) (fe_callB (fc_reprV hv hr.g) (by rfl) (B.all "repr" (by decide)) PyProof.Rows.boot_repr (fa_cons (fe_callP C_p_is_made (hr.mono (by decide)) (by rfl) (fa_cons (fe_var 3) (fa_cons (fe_var 8) fa_nil))) fa_nil)) (fe_var 9)) (fw_or1 (ft_cmp (fo_ne hv) (fe_callB (fc_reprV hv hr.g) (by rfl) (B.all "repr" (by decide)) PyProof.Rows.boot_repr (fa_cons (fe_callP C_p_is_made (hr.mono (by decide)) (by rfl) (fa_cons (fe_var 3) (fa_cons (fe_var 8) fa_nil))) fa_nil)) (fe_var 9))))) (fss_one (fs_ret (fe_c de_bl))) fss_nil)))))))))
      (fss_one (fs_if (ft_not (ft_val (fe_allF rfl (by rfl) (B.all "all" (by decide)) (ff_lc rfl sc_law.nd (fi_new (ff_lst (fa_cons (fe_c de_non) (fa_cons (fe_c de_int) (fa_cons (fe_c de_bl) (fa_cons (fe_tup fa_nil) (fa_cons (fe_frz (ff_lst fa_nil)) (fa_cons fe_edic (fa_cons (fe_c de_str) (fa_cons (fe_var 3) (fa_cons (fe_ix hu (fe_var 3) (fe_c de_int)) fa_nil))))))))))) (own := [("_law_one", 8)]) (blk_by (by kernel_rfl)) (fun _ _ _ _ _ => (fg_name (i := 8) sc_law.nd rfl (.inl rfl))) (fun _ _ _ _ _ => fts_nil) (fun _ _ _ _ _ => (fe_cmp fo_isB (fe_callP C_p_is_made (hr.mono (by decide)) (by rfl) (fa_cons (fe_var 3) (fa_cons (fe_var 8) fa_nil))) (fe_c de_bl))))))) (fss_one (fs_ret (fe_c de_bl))) fss_nil))))))
      (fss_one (fs_ret (fe_c de_bl)))))
end KX

namespace KX
open PySem PySem.Spec PyProof.Rows L2 DL FL

theorem log_big {i : Int} (h1 : -(10 ^ 200) < i) (h2 : i < 10 ^ 200) : i.natAbs.log2 < 1000 := by
  have h : i.natAbs < 2 ^ 1000 := by
    have e : (10 : Int) ^ 200 ≤ 2 ^ 1000 := by decide +kernel
    omega
  exact PySem.Flt.log2_lt_of (by decide) h
theorem log_mul {i j : Int} (h1 : -(10 ^ 200) < i) (h2 : i < 10 ^ 200) (h3 : -(10 ^ 200) < j) (h4 : j < 10 ^ 200) : i.natAbs.log2 + j.natAbs.log2 < 1000000 := by
  have x := log_big h1 h2
  have y := log_big h3 h4
  omega
theorem log_div {j : Int} (h0 : 0 < j) (h4 : j < 10 ^ 200) : 0 < j ∧ j.natAbs.log2 < 9000 := by
  have y := log_big (i := j) (by have : (0:Int) ≤ 10 ^ 200 := by decide +kernel
                                 omega) h4
  exact ⟨h0, by omega⟩
theorem mul_bd {i j A B : Int} (h1 : 0 ≤ i) (h2 : i ≤ A) (h3 : 0 ≤ j) (h4 : j ≤ B) : 0 ≤ i * j ∧ i * j ≤ A * B :=
  ⟨Int.mul_nonneg h1 h3, Int.mul_le_mul h2 h4 h3 (Int.le_trans h1 h2)⟩

/-- the hand: digits left, the mixed number, how many were drawn -/
def Hand (n : Int) (p : PV) : Prop := ∃ g m c : Int, p = .lst [.int g, .int m, .int c] ∧ 0 ≤ g ∧ g < 10 ^ 90 ∧ 0 ≤ m ∧ m < 2305843009213693951 ∧ 0 ≤ c ∧ c ≤ n
theorem Hand.mono {p : PV} {n k : Int} (h : Hand n p) (l : n ≤ k) : Hand k p := by
  obtain ⟨g, m, c, h0, h1, h2, h3, h4, h5, h6⟩ := h
  exact ⟨g, m, c, h0, h1, h2, h3, h4, h5, Int.le_trans h6 l⟩
theorem take_ok {n many : Int} {p : PV} (h : Hand n p) (hn : n ≤ 1000000) (k0 : 1 ≤ many) (k1 : many ≤ 1000000) :
    ∃ (d : Int) (p' : PV), m_l_take [p, .val (.int many)] = some (.ok (.val (.int d)), [p', .val (.int many)]) ∧ 0 ≤ d ∧ d < many ∧ Hand (n + 1) p' := by
  obtain ⟨g, m, c, rfl, g0, g1, m0, m1, c0, c1⟩ := h
  have hm : 0 < many := by omega
  have hd := log_div (j := many) hm (by have : (1000000 : Int) < 10 ^ 200 := by decide +kernel
                                        omega)
  by_cases hg : 0 < g
  · refine ⟨g % many, .lst [.int (g / many), .int m, .int c], by simp [m_l_take, hg, hm, hd], Int.emod_nonneg _ (by omega), Int.emod_lt_of_pos _ hm, g / many, m, c, rfl, Int.ediv_nonneg g0 (by omega), ?_, m0, m1, c0, by omega⟩
    exact Int.lt_of_le_of_lt (Int.ediv_le_self _ g0) g1
  · have b1 := mul_bd (i := c + 1) (j := c + 1) (A := 1000001) (B := 1000001) (by omega) (by omega) (by omega) (by omega)
    have b2 : 0 ≤ 65537 * (c + 1) * (c + 1) ∧ 65537 * (c + 1) * (c + 1) ≤ 65537 * 1000001 * 1000001 := by
      rw [Int.mul_assoc]
      omega
    have big : (10 : Int) ^ 60 < 10 ^ 200 := by decide +kernel
    have l1 := log_mul (i := 65537) (j := c + 1) (by omega) (by omega) (by omega) (by omega)
    have l2 := log_mul (i := 65537 * (c + 1)) (j := c + 1) (by omega) (by omega) (by omega) (by omega)
    have l3 := log_mul (i := m + 65537 * (c + 1) * (c + 1) + 11) (j := 48271) (by omega) (by omega) (by omega) (by omega)
    have l4 := log_mul (i := 99991) (j := c + 1) (by omega) (by omega) (by omega) (by omega)
    have x0 : 0 ≤ (m + 65537 * (c + 1) * (c + 1) + 11) * 48271 % 2305843009213693921 := Int.emod_nonneg _ (by decide)
    have x1 : (m + 65537 * (c + 1) * (c + 1) + 11) * 48271 % 2305843009213693921 < 2305843009213693921 := Int.emod_lt_of_pos _ (by decide)
    generalize hx : (m + 65537 * (c + 1) * (c + 1) + 11) * 48271 % 2305843009213693921 = x at x0 x1
    have y0 : 0 ≤ x % 1000003 := Int.emod_nonneg _ (by decide)
    have y1 : x % 1000003 < 1000003 := Int.emod_lt_of_pos _ (by decide)
    have l5 := log_mul (i := x) (j := x % 1000003 + 99991 * (c + 1)) (by omega) (by omega) (by omega) (by omega)
    refine ⟨(x * (x % 1000003 + 99991 * (c + 1)) % 2305843009213693907 / 97 + x * (x % 1000003 + 99991 * (c + 1)) % 2305843009213693907 / 1000033) % many, .lst [.int g, .int m, .int (c + 1)], ?_, Int.emod_nonneg _ (by omega), Int.emod_lt_of_pos _ hm, g, m, c + 1, rfl, g0, g1, m0, m1, by omega, by omega⟩
    have q1 : Nat.log2 97 < 9000 := by decide +kernel
    have q2 : Nat.log2 1000033 < 9000 := by decide +kernel
    simp at l1 l2 l3 l4 l5
    simp [m_l_take, hg, hm, l1, l2, l3, l4, l5, hx, q1, q2]

theorem pick_ok {n : Int} {p s : PV} {xs : List D} (h : Hand n p) (hn : n ≤ 1000000) (hs : s = .val (.tup xs) ∨ s = .lst xs) (hx : xs ≠ []) (hl : xs.length ≤ 1000000) :
    ∃ x p', m_l_pick [p, s] = some (.ok (.val x), [p', s]) ∧ x ∈ xs ∧ Hand (n + 1) p' := by
  have hpos : 0 < xs.length := List.length_pos_iff.mpr hx
  obtain ⟨d, p', e, d0, d1, hp⟩ := take_ok (many := xs.length) h hn (by omega) (by omega)
  obtain ⟨x, ex, hm, _⟩ := atI_lt d0 d1
  refine ⟨x, p', ?_, hm, hp⟩
  rcases hs with rfl | rfl <;> simp [m_l_pick, e, ex]
theorem pickT_ok {n : Int} {p : PV} {xs : List D} (h : Hand n p) (hn : n ≤ 1000000) (hx : xs ≠ []) (hl : xs.length ≤ 1000000) :
    ∃ x p', m_l_pick [p, .val (.tup xs)] = some (.ok (.val x), [p', .val (.tup xs)]) ∧ x ∈ xs ∧ Hand (n + 1) p' := pick_ok h hn (.inl rfl) hx hl
theorem pickL_ok {n : Int} {p : PV} {xs : List D} (h : Hand n p) (hn : n ≤ 1000000) (hx : xs ≠ []) (hl : xs.length ≤ 1000000) :
    ∃ x p', m_l_pick [p, .lst xs] = some (.ok (.val x), [p', .lst xs]) ∧ x ∈ xs ∧ Hand (n + 1) p' := pick_ok h hn (.inr rfl) hx hl
theorem size_ok {n few most : Int} {p : PV} (h : Hand n p) (hn : n ≤ 900000) (h1 : 1 ≤ few) (h2 : few ≤ most) (h3 : most ≤ 1000) :
    ∃ (d : Int) (p' : PV), m_l_size [p, .val (.int few), .val (.int most)] = some (.ok (.val (.int d)), [p', .val (.int few), .val (.int most)]) ∧ 1 ≤ d ∧ d ≤ most ∧ Hand (n + 2) p' := by
  obtain ⟨d, p1, e1, d0, d1, hp1⟩ := take_ok (many := 8) h (by omega) (by omega) (by omega)
  obtain ⟨x, ex, hm, _⟩ := atI_lt (xs := ([.int few, .int few, .int few, .int few, .int few, .int few, .int few, .int most] : List D)) d0 d1
  obtain ⟨k, rfl, k1, k2⟩ : ∃ k, x = .int k ∧ 1 ≤ k ∧ k ≤ most := by
    simp only [List.mem_cons, List.not_mem_nil, or_false, or_self_left, or_self] at hm
    rcases hm with rfl | rfl
    · exact ⟨_, rfl, h1, h2⟩
    · exact ⟨_, rfl, by omega, by omega⟩
  obtain ⟨d2, p2, e2, e0, e3, hp2⟩ := take_ok (many := k) hp1 (by omega) (by omega) (by omega)
  refine ⟨1 + d2, p2, ?_, by omega, by omega, by rw [show n + 2 = n + 1 + 1 by omega]; exact hp2⟩
  simp [m_l_size, e1, ex, e2]
def letters : Str := "abcdefghijklmnopqrstuvwxyz"
theorem letters_eq : letters.cps.toList = (List.range 26).map (97 + ·) := by rfl
/-- the signs of the k-th word -/
def signs (a b : Int) (k : Nat) : List Nat :=
  if k < 26 then List.replicate (1 + ((k * k : Int) + a) % 4).toNat (97 + ((a + b * k) % 26).toNat) else [97 + ((a + b * k) % 26).toNat, 120, 121, 122]
def wordAt (a b : Int) (k : Nat) : Str := ⟨(signs a b k).toArray⟩
def wordsOf (a b : Int) (n : Nat) : List Str := (List.range n).map (wordAt a b)
/-- one to four small letters, not the word of things -/
def okW (w : Str) : Bool := decide (w.cps.toList ≠ [116, 104, 105, 110, 103]) && decide (1 ≤ w.cps.size) && decide (w.cps.size ≤ 4) && w.cps.toList.all fun c => decide (97 ≤ c) && decide (c < 123)
structure Words (ws : List Str) : Prop where
  nd : ws.Nodup
  ok : ∀ w ∈ ws, okW w = true
theorem signs_ok {a b : Int} {k : Nat} : 1 ≤ (signs a b k).length ∧ (signs a b k).length ≤ 4 ∧ ∀ c ∈ signs a b k, 97 ≤ c ∧ c < 123 := by
  have h0 := Int.emod_nonneg (a + b * k) (show (26 : Int) ≠ 0 by decide)
  have h1 := Int.emod_lt_of_pos (a + b * k) (show (0 : Int) < 26 by decide)
  have h2 := Int.emod_nonneg ((k * k : Int) + a) (show (4 : Int) ≠ 0 by decide)
  have h3 := Int.emod_lt_of_pos ((k * k : Int) + a) (show (0 : Int) < 4 by decide)
  unfold signs
  split
  · refine ⟨by rw [List.length_replicate]; omega, by rw [List.length_replicate]; omega, fun c hc => ?_⟩
    have := List.eq_of_mem_replicate hc
    omega
  · refine ⟨by simp, by simp, fun c hc => ?_⟩
    simp only [List.mem_cons, List.not_mem_nil, or_false] at hc
    omega
theorem signs_inj {a b : Int} (hb : b ∈ [1, 3, 5, 7, 9, 11]) {j k : Nat} (hj : j < 40) (hk : k < 40) (h : signs a b j = signs a b k) : j = k := by
  have h2 := Int.emod_nonneg ((k * k : Int) + a) (show (4 : Int) ≠ 0 by decide)
  have h3 := Int.emod_nonneg ((j * j : Int) + a) (show (4 : Int) ≠ 0 by decide)
  have hd : ∀ i : Nat, (signs a b i).head? = some (97 + ((a + b * i) % 26).toNat) := fun i => by
    have h2 := Int.emod_nonneg ((i * i : Int) + a) (show (4 : Int) ≠ 0 by decide)
    unfold signs
    split
    · obtain ⟨m, hm⟩ : ∃ m, (1 + ((i * i : Int) + a) % 4).toNat = m + 1 := ⟨(((i * i : Int) + a) % 4).toNat, by omega⟩
      rw [hm, List.replicate_succ]
      rfl
    · rfl
  have e : ((a + b * j) % 26).toNat = ((a + b * k) % 26).toNat := by
    have := (hd j).symm.trans (h ▸ hd k)
    have := Option.some.inj this
    omega
  have h0 := Int.emod_nonneg (a + b * k) (show (26 : Int) ≠ 0 by decide)
  have h1 := Int.emod_nonneg (a + b * j) (show (26 : Int) ≠ 0 by decide)
  have e2 : (a + b * j) % 26 = (a + b * k) % 26 := by omega
  have mixed : ∀ {m c d : Nat}, List.replicate m c = [d, 120, 121, 122] → False := fun {m c d} z => by
    have x1 : (120 : Nat) ∈ List.replicate m c := by rw [z]; simp
    have x2 : (121 : Nat) ∈ List.replicate m c := by rw [z]; simp
    have y1 := List.eq_of_mem_replicate x1
    have y2 := List.eq_of_mem_replicate x2
    omega
  have near : (j < 26 ∧ k < 26) ∨ (26 ≤ j ∧ 26 ≤ k) := by
    by_cases q1 : j < 26 <;> by_cases q2 : k < 26
    · exact .inl ⟨q1, q2⟩
    · unfold signs at h
      rw [if_pos q1, if_neg q2] at h
      exact (mixed h).elim
    · unfold signs at h
      rw [if_neg q1, if_pos q2] at h
      exact (mixed h.symm).elim
    · exact .inr ⟨by omega, by omega⟩
  simp only [List.mem_cons, List.not_mem_nil, or_false] at hb
  rcases hb with rfl | rfl | rfl | rfl | rfl | rfl <;> omega
theorem words_nd {a b : Int} (hb : b ∈ [1, 3, 5, 7, 9, 11]) {m : Nat} (hm : m ≤ 40) : Words (wordsOf a b m) := by
  refine ⟨?_, fun w hw => ?_⟩
  · unfold wordsOf List.Nodup
    rw [List.pairwise_map]
    refine List.Pairwise.imp_of_mem ?_ (show (List.range m).Pairwise (· ≠ ·) from List.nodup_range)
    intro j k hj hk ne z
    have hj' := List.mem_range.mp hj
    have hk' := List.mem_range.mp hk
    refine ne (signs_inj (a := a) hb (by omega) (by omega) ?_)
    have := congrArg (fun s : Str => s.cps.toList) z
    simpa [wordAt] using this
  · unfold wordsOf at hw
    obtain ⟨k, hk, rfl⟩ := List.mem_map.mp hw
    obtain ⟨h0, h1, h2⟩ := signs_ok (a := a) (b := b) (k := k)
    unfold okW wordAt
    simp only [Bool.and_eq_true, decide_eq_true_eq, List.all_eq_true, List.size_toArray]
    refine ⟨⟨⟨fun z => ?_, h0⟩, h1⟩, h2⟩
    rw [z] at h1
    simp at h1
theorem letter_get {i : Int} (h0 : 0 ≤ i) (h1 : i < 26) : atI letters.cps.toList i = some (97 + i.toNat) := by
  rw [letters_eq]
  have e : ((List.range 26).map (97 + ·))[i.toNat]? = some (97 + i.toNat) := by
    rw [List.getElem?_map, List.getElem?_range (by omega)]
    rfl
  have := atI_nat e
  rwa [Int.toNat_of_nonneg h0] at this
theorem strMul_one {c : Nat} {i : Int} (h : 1 ≤ i) : strMul ⟨#[c]⟩ i = ⟨(List.replicate i.toNat c).toArray⟩ := by
  unfold strMul
  rw [if_neg (by omega)]
  congr 1
  have all : ∀ (n : Nat) (acc : List Nat), (List.replicate n #[c]).foldl (· ++ ·) acc.toArray = (acc ++ List.replicate n c).toArray := by
    intro n
    induction n with
    | zero => intro acc; simp
    | succ n ih =>
      intro acc
      rw [List.replicate_succ, List.foldl_cons]
      have : (acc.toArray ++ #[c]) = (acc ++ [c]).toArray := by simp
      rw [this, ih, List.replicate_succ]
      simp
  exact all i.toNat []
theorem words_step {a b : Int} {k : Nat} : (wordsOf a b (k + 1)).map D.str = (wordsOf a b k).map D.str ++ [.str (wordAt a b k)] := by
  unfold wordsOf
  rw [List.range_succ]
  simp
theorem words_ok {n many : Int} {p : PV} (h : Hand n p) (hn : n ≤ 900000) (m0 : 0 ≤ many) (hm : many ≤ 40) :
    ∃ ws p', m_l_words [p, .val (.int many)] = some (.ok (.lst (ws.map D.str)), [p', .val (.int many)]) ∧ Words ws ∧ (ws.length : Int) = many ∧ Hand (n + 2) p' := by
  obtain ⟨a, p1, e1, a0, a1, hp1⟩ := take_ok (many := 26) h (by omega) (by omega) (by omega)
  obtain ⟨x, p2, e2, hx, hp2⟩ := pickL_ok (xs := [.int 1, .int 3, .int 5, .int 7, .int 9, .int 11]) hp1 (by omega) (by simp) (by simp)
  obtain ⟨b, rfl, hb⟩ : ∃ b : Int, x = .int b ∧ b ∈ [1, 3, 5, 7, 9, 11] := by
    simp only [List.mem_cons, List.not_mem_nil, or_false] at hx
    rcases hx with rfl | rfl | rfl | rfl | rfl | rfl <;> exact ⟨_, rfl, by simp⟩
  have b0 : 1 ≤ b ∧ b ≤ 11 := by
    simp only [List.mem_cons, List.not_mem_nil, or_false] at hb
    omega
  have rl := run_range (c := cYes (DL.intsFrom 0 many.toNat)) (n := many.toNat) (g := gN 6)
    (b := b_l_words_1)
    (fun k ε => ∃ x6 x7, ε = [some p2, some (.val (.int many)), some (.val (.str letters)), some (.val (.int a)), some (.val (.int b)), some (.lst ((wordsOf a b k).map .str)), x6, x7]) (fun _ => rfl)
    (fun k ε hk ⟨x6, x7, hε⟩ => by
      subst hε
      have hk2 : k < 40 := by omega
      have d0 := mul_bd (i := b) (j := (k : Int)) (A := 11) (B := 40) (by omega) (by omega) (by omega) (by omega)
      have d1 := mul_bd (i := (k : Int)) (j := (k : Int)) (A := 40) (B := 40) (by omega) (by omega) (by omega) (by omega)
      have d2 := Int.emod_nonneg (a + b * k) (show (26 : Int) ≠ 0 by decide)
      have d3 := Int.emod_lt_of_pos (a + b * k) (show (0 : Int) < 26 by decide)
      have d4 := Int.emod_nonneg ((k * k : Int) + a) (show (4 : Int) ≠ 0 by decide)
      have d5 := Int.emod_lt_of_pos ((k * k : Int) + a) (show (0 : Int) < 4 by decide)
      have big : (10 : Int) ^ 60 < 10 ^ 200 := by decide +kernel
      have l1 := log_mul (i := b) (j := k) (by omega) (by omega) (by omega) (by omega)
      have l2 := log_mul (i := k) (j := k) (by omega) (by omega) (by omega) (by omega)
      have hlen : (wordsOf a b k).length ≤ 1000000 := by
        unfold wordsOf
        simp
        omega
      have ll : letters.length ≤ 1000000 := by decide
      have lg := letter_get d2 d3
      simp at l1 l2
      by_cases h26 : k < 26
      · have h26' : (k : Int) < 26 := by omega
        have ew : strMul ⟨#[97 + ((a + b * k) % 26).toNat]⟩ (1 + ((k * k : Int) + a) % 4) = wordAt a b k := by
          rw [strMul_one (by omega)]
          unfold wordAt signs
          rw [if_pos h26]
        have c1 : -1000 ≤ 1 + ((k * k : Int) + a) % 4 ∧ 1 + ((k * k : Int) + a) % 4 ≤ 1000 := by omega
        have c2 : (⟨#[97 + ((a + b * k) % 26).toNat]⟩ : Str).length ≤ 1000 := by show 1 ≤ 1000; decide
        simp [b_l_words_1, ll, lg, l1, l2, h26', c1, c2, ew, hlen, words_step]
      · have h26' : ¬ (k : Int) < 26 := by omega
        have ew : (⟨#[97 + ((a + b * k) % 26).toNat]⟩ : Str) ++ Str.ofString "xyz" = wordAt a b k := by
          unfold wordAt signs
          rw [if_neg h26]
          rfl
        have c2 : (⟨#[97 + ((a + b * k) % 26).toNat]⟩ : Str).length + (Str.ofString "xyz").length ≤ 1000000 := by show 1 + 3 ≤ 1000000; decide
        simp [b_l_words_1, ll, lg, l1, l2, h26', c2, ew, hlen, words_step])
    (ε := [some p2, some (.val (.int many)), some (.val (.str letters)), some (.val (.int a)), some (.val (.int b)), some (.lst []), none, none]) ⟨_, _, rfl⟩
  obtain ⟨ε', er, x6, x7, rfl⟩ := rl
  refine ⟨wordsOf a b many.toNat, p2, ?_, words_nd hb (by omega), by simp [wordsOf]; omega, by rw [show n + 2 = n + 1 + 1 by omega]; exact hp2⟩
  have hr := rng1_ok (j := many) (by omega) (by omega)
  have el : (D.str "abcdefghijklmnopqrstuvwxyz") = D.str letters := rfl
  simp [m_l_words, e1, e2, hr, el, er]
end KX

namespace KX
open PySem PySem.Spec PyProof.Rows L2 DL FL

/-- names and what is with them -/
abbrev Row := Str × List Str
def strL (xs : List Str) : D := .tup (xs.map D.str)
def rowD (r : Row) : D := .tup [.str r.1, strL r.2]
def rowsD (rs : List Row) : D := .tup (rs.map rowD)
@[simp] theorem toT_rowsD (rs : List Row) : toT (rowsD rs) = some (rs.map rowD) := rfl
@[simp] theorem toT_strL (xs : List Str) : toT (strL xs) = some (xs.map D.str) := rfl
@[simp] theorem enumT_strL (xs : List Str) : enumT [strL xs] = some (pairsFrom 0 (xs.map D.str)) := rfl
@[simp] theorem fLen_strL (xs : List Str) : fLen [strL xs] = some (.int xs.length) := by simp [strL]
@[simp] theorem fLen_rowsD (xs : List Row) : fLen [rowsD xs] = some (.int xs.length) := by simp [rowsD]
@[simp] theorem fIx_rowD0 (r : Row) : fIx (rowD r) (.int 0) = some (.str r.1) := by simp [rowD]
@[simp] theorem fIx_rowD1 (r : Row) : fIx (rowD r) (.int 1) = some (strL r.2) := by simp [rowD]
@[simp] theorem asD_rowsD (rs : List Row) : asD (.val (rowsD rs)) = some (rowsD rs) := rfl
def namesOf (rs : List Row) : List Str := rs.map (·.1)
def wordsIn (rs : List Row) : List Str := rs.flatMap fun r => r.1 :: r.2
/-- a list of words from which the last ones were taken -/
structure Took (ws ws' us : List Str) (most : Nat) : Prop where
  perm : ws.Perm (ws' ++ us)
  many : us.length ≤ most
theorem Took.refl {ws : List Str} : Took ws ws [] 0 := ⟨by simp, by simp⟩
theorem Took.trans {ws ws1 ws2 us vs : List Str} {m k : Nat} (a : Took ws ws1 us m) (b : Took ws1 ws2 vs k) : Took ws ws2 (us ++ vs) (m + k) := by
  refine ⟨a.perm.trans ((List.Perm.append_right us b.perm).trans ?_), by rw [List.length_append]; have := a.many; have := b.many; omega⟩
  rw [List.append_assoc]
  exact List.Perm.append_left ws2 List.perm_append_comm
theorem Took.len {ws ws' us : List Str} {m : Nat} (a : Took ws ws' us m) : ws.length ≤ ws'.length + m := by
  have := a.perm.length_eq
  rw [List.length_append] at this
  have := a.many
  omega
theorem Took.mono {ws ws' us : List Str} {m k : Nat} (a : Took ws ws' us m) (h : m ≤ k) : Took ws ws' us k := ⟨a.perm, Nat.le_trans a.many h⟩
theorem Took.perm' {ws ws' us vs : List Str} {m : Nat} (a : Took ws ws' us m) (p : us.Perm vs) : Took ws ws' vs m := ⟨a.perm.trans (List.Perm.append_left ws' p), by rw [← p.length_eq]; exact a.many⟩
theorem snoc_of {ws : List Str} (h : 0 < ws.length) : ∃ ws' w, ws = ws' ++ [w] ∧ Took ws ws' [w] 1 := by
  have hne : ws ≠ [] := List.length_pos_iff.mp h
  refine ⟨ws.dropLast, ws.getLast hne, (List.dropLast_concat_getLast hne).symm, ?_, by simp⟩
  rw [List.dropLast_concat_getLast hne]
theorem map_snoc (ws : List Str) (w : Str) : (ws ++ [w]).map D.str = ws.map D.str ++ [.str w] := by simp
theorem rowsD_len (rs : List Row) : (rs.map rowD).length = rs.length := List.length_map ..
inductive JPv (ws : List Str) (x0 x2 x3 x4 : Option PV) : Nat → List D → PEnv → Prop
  | mk {k : Nat} {acc L : List D} (vs ws' : List Str) (h1 : acc = vs.map .str) (h2 : L = ws'.map .str) (hv : vs.length = k) (T : Took ws ws' vs k) : JPv ws x0 x2 x3 x4 k acc [x0, some (.lst L), x2, x3, x4, none]
theorem plain_words {ws : List Str} (j : Nat) (hj : j ≤ 5) (hw : 6 ≤ ws.length) {x0 x2 x3 x4 : Option PV} :
    ∃ acc ε', mLcL (cYes (DL.intsFrom 0 j)) (gN 5) (mPure true) e_l_plains_1 [5] (DL.intsFrom 0 j) [] [x0, some (.lst (ws.map .str)), x2, x3, x4, none] = some (.ok acc, ε') ∧ JPv ws x0 x2 x3 x4 j acc ε' := by
  refine comp_range (JPv ws x0 x2 x3 x4) (fun _ => rfl) ?_ ⟨[], ws, rfl, rfl, rfl, Took.refl⟩
  rintro k acc ε hk ⟨vs, ws', rfl, rfl, hv, T⟩
  have hl := T.len
  obtain ⟨ws2, w, rfl, T2⟩ := snoc_of (ws := ws') (by omega)
  simp only [map_snoc]
  simp [e_l_plains_1]
  exact ⟨vs ++ [w], ws2, by simp, rfl, by simp [hv], T.trans T2⟩
structure PlainsOk (ps : List Row) : Prop where
  pos : 1 ≤ ps.length
  few : ps.length ≤ 3
  vals : ∀ r ∈ ps, 1 ≤ r.2.length ∧ r.2.length ≤ 5
inductive JPl (ws : List Str) (n : Int) : Nat → PEnv → Prop
  | mk {k : Nat} {p' : PV} {L1 L2 : List D} {x3 x4 : Option PV} (ps : List Row) (ws' : List Str) (h1 : L1 = ws'.map .str) (h2 : L2 = ps.map rowD) (hlen : ps.length = k) (hvals : ∀ r ∈ ps, 1 ≤ r.2.length ∧ r.2.length ≤ 5)
      (T : Took ws ws' (wordsIn ps) (6 * k)) (hp : Hand (n + 2 + 2 * k) p') : JPl ws n k [some p', some (.lst L1), some (.lst L2), x3, x4, none]
theorem plains_ok {n : Int} {p : PV} {ws : List Str} (h : Hand n p) (hn : n ≤ 800000) (hw : 30 ≤ ws.length) :
    ∃ ps p' ws', m_l_plains [p, .lst (ws.map .str)] = some (.ok (.val (rowsD ps)), [p', .lst (ws'.map .str)]) ∧ PlainsOk ps ∧ Took ws ws' (wordsIn ps) 18 ∧ Hand (n + 10) p' := by
  obtain ⟨m, p1, e1, m1, m3, hp1⟩ := size_ok (few := 2) (most := 3) h (by omega) (by omega) (by omega) (by omega)
  have hr := rng1_ok (j := m) (by omega) (by omega)
  obtain ⟨ε', er, ⟨ps, ws', rfl, rfl, hlen, hvals, T, hp'⟩⟩ := run_range (c := cYes (DL.intsFrom 0 m.toNat)) (n := m.toNat) (g := gN 3) (b := b_l_plains_1) (JPl ws n)
    (fun _ => rfl) (by
      rintro k ε hk ⟨ps, ws', rfl, rfl, hlen, hvals, T, hp'⟩
      have hl := T.len
      obtain ⟨ws1, nm, rfl, T1⟩ := snoc_of (ws := ws') (by omega)
      obtain ⟨v, p2, e2, v1, v5, hp2⟩ := size_ok (few := 3) (most := 5) hp' (by omega) (by omega) (by omega) (by omega)
      have hr2 := rng1_ok (j := v) (by omega) (by omega)
      have hl1 := T1.len
      obtain ⟨acc, ε2, ec, ⟨vs, ws2, rfl, rfl, hvl, T2⟩⟩ := plain_words (ws := ws1) v.toNat (by omega) (by simp at hl; omega) (x0 := some p2) (x2 := some (.lst (ps.map rowD))) (x3 := some (.val (.int k))) (x4 := some (.val (.str nm)))
      have hps : ps.length ≤ 1000000 := by omega
      simp only [map_snoc]
      have hvm : v ≤ 1000000 := by omega
      simp [b_l_plains_1, e2, hr2, ec, hps, hvm]
      refine ⟨ps ++ [(nm, vs)], ws2, rfl, by simp [rowD, strL], by simp [hlen], ?_, ?_, hp2.mono (by omega)⟩
      · intro r hr
        rcases List.mem_append.mp hr with hr | hr
        · exact hvals r hr
        · rw [List.mem_singleton] at hr
          subst hr
          dsimp only
          omega
      · have TT := (T.trans T1).trans T2
        refine (TT.mono (by omega)).perm' ?_
        unfold wordsIn
        rw [List.flatMap_append]
        simp)
    (ε := [some p1, some (.lst (ws.map .str)), some (.lst []), none, none, none]) ⟨[], ws, rfl, rfl, rfl, (fun _ h => nomatch h), Took.refl, hp1.mono (by omega)⟩
  refine ⟨ps, _, ws', ?_, ⟨by omega, by omega, hvals⟩, T.mono (by omega), hp'.mono (by omega)⟩
  simp [m_l_plains, e1, hr, er, rowsD]
end KX

namespace KX
open PySem PySem.Spec PyProof.Rows L2 DL FL

abbrev th : Str := Str.ofString "thing"
theorem names_comp {ps : List Row} {ε : PEnv} {i : Nat} {c : PEnv → Bool} (hc : c ε = true) (e : M D) (h : ∀ r ∈ ps, GoesG (gN i (rowD r) (wipeP ε [i])) fun ε1 => mPure true ε1 = some (.ok true, ε1) ∧ (true = true → e ε1 = some (.ok (.str r.1), ε1)) ∧ restore ε ε1 [i] = ε) :
    mLcL c (gN i) (mPure true) e [i] (ps.map rowD) [] ε = some (.ok ((namesOf ps).map .str), ε) := by
  have := comp_look (toD := rowD) (c := c) (g := gN i) (tt := mPure true) (te := e) (vs := [i]) (fun _ => true) (fun r => .str r.1) hc ps h
  rw [this, List.filter_eq_self.mpr fun _ _ => rfl]
  simp [namesOf]
inductive JPk (names : List Str) (n : Int) (x1 x2 x4 x5 x7 x8 : Option PV) : Nat → List D → PEnv → Prop
  | mk {k : Nat} {acc : List D} {p : PV} (ss : List Str) (h1 : acc = ss.map .str) (hl : ss.length = k) (hs : ∀ s ∈ ss, s ∈ names) (hp : Hand (n + k) p) : JPk names n x1 x2 x4 x5 x7 x8 k acc [some p, x1, x2, some (.lst (names.map .str)), x4, x5, none, x7, x8]
theorem picks {n : Int} {p : PV} {names : List Str} (h : Hand n p) (hn : n ≤ 999000) (hx : names ≠ []) (hl : names.length ≤ 1000) (j : Nat) (hj : j ≤ 100) {x1 x2 x4 x5 x7 x8 : Option PV} :
    ∃ acc ε', mLcL (cYes (DL.intsFrom 0 j)) (gN 6) (mPure true) e_l_makers_2 [6] (DL.intsFrom 0 j) [] [some p, x1, x2, some (.lst (names.map .str)), x4, x5, none, x7, x8] = some (.ok acc, ε') ∧ JPk names n x1 x2 x4 x5 x7 x8 j acc ε' := by
  refine comp_range (JPk names n x1 x2 x4 x5 x7 x8) (fun _ => rfl) ?_ ⟨[], rfl, rfl, (fun _ h => nomatch h), by simpa using h⟩
  rintro k acc ε hk ⟨ss, rfl, hss, hs, hp⟩
  obtain ⟨x, p', e1, hm, hp'⟩ := pickL_ok (xs := names.map .str) hp (by omega) (by simpa using hx) (by simp; omega)
  obtain ⟨s, hs2, rfl⟩ := List.mem_map.mp hm
  simp [e_l_makers_2, e1]
  refine ⟨ss ++ [s], by simp, by simp [hss], fun t ht => ?_, hp'.mono (by omega)⟩
  rcases List.mem_append.mp ht with q | q
  · exact hs t q
  · rw [List.mem_singleton] at q
    exact q ▸ hs2
structure MakersOk (names : List Str) (ms : List Row) : Prop where
  pos : 1 ≤ ms.length
  few : ms.length ≤ 5
  sorts : ∀ r ∈ ms, r.2.length ≤ 3 ∧ (∀ s ∈ r.2, s = th ∨ s ∈ names) ∧ r.2.count th ≤ 2
  first : ∃ r ∈ ms, th ∉ r.2
structure SortsOk (names : List Str) (ss : List Str) : Prop where
  len : ss.length ≤ 3
  ok : ∀ s ∈ ss, s = th ∨ s ∈ names
  many : ss.count th ≤ 2
theorem SortsOk.rev {names ss : List Str} (h : SortsOk names ss) : SortsOk names ss.reverse := ⟨by simpa using h.len, fun s hs => h.ok s (by simpa using hs), by simpa using h.many⟩
inductive JMk (names : List Str) (ws0 : List Str) (n : Int) (P : D) (f0 : Row) : Nat → PEnv → Prop
  | mk {k : Nat} {p' : PV} {L1 L2 : List D} {x7 x8 : Option PV} (ms : List Row) (ws' : List Str) (h1 : L1 = ws'.map .str) (h2 : L2 = (f0 :: ms).map rowD) (hlen : ms.length = k) (hs : ∀ r ∈ ms, SortsOk names r.2)
      (T : Took ws0 ws' (namesOf ms) k) (hp : Hand (n + 5 * k) p') : JMk names ws0 n P f0 k [some p', some (.lst L1), some (.val P), some (.lst (names.map .str)), none, some (.lst L2), none, x7, x8]
theorem makers_ok {n : Int} {p : PV} {ws : List Str} {ps : List Row} (h : Hand n p) (hn : n ≤ 700000) (hw : 10 ≤ ws.length) (hps : PlainsOk ps) (hth : th ∉ namesOf ps) :
    ∃ ms p' ws', m_l_makers [p, .lst (ws.map .str), .val (rowsD ps)] = some (.ok (.val (rowsD ms)), [p', .lst (ws'.map .str), .val (rowsD ps)]) ∧ MakersOk (namesOf ps) ms ∧ Took ws ws' (namesOf ms) 5 ∧ Hand (n + 40) p' := by
  have hne : namesOf ps ≠ [] := List.ne_nil_of_length_pos (by unfold namesOf; rw [List.length_map]; exact hps.pos)
  have hnl : (namesOf ps).length ≤ 1000 := by unfold namesOf; rw [List.length_map]; have := hps.few; omega
  have hpl : ps.length ≤ 1000000 := by have := hps.few; omega
  obtain ⟨ws1, w, rfl, T1⟩ := snoc_of (ws := ws) (by omega)
  have hl1 := T1.len
  obtain ⟨d, p1, e1, d0, d1, hp1⟩ := take_ok (many := 2) h (by omega) (by omega) (by omega)
  have hr1 := rng1_ok (j := d) (by omega) (by omega)
  obtain ⟨acc, ε2, ec, ⟨ss, rfl, hsl, hss, hp2⟩⟩ := picks (names := namesOf ps) hp1 (by omega) hne hnl d.toNat (by omega) (x1 := some (.lst (ws1.map .str))) (x2 := some (.val (rowsD ps))) (x4 := none) (x5 := none) (x7 := none) (x8 := none)
  rename_i p2
  obtain ⟨m, p3, e3, m1, m5, hp3⟩ := size_ok (few := 3) (most := 5) hp2 (by omega) (by omega) (by omega) (by omega)
  obtain ⟨m2, hm2⟩ : ∃ m2, m - 1 = m2 := ⟨_, rfl⟩
  have hr3 := rng1_ok (j := m2) (by omega) (by omega)
  have hf0 : th ∉ ss := fun z => hth (hss th z)
  have hsf : SortsOk (namesOf ps) ss := ⟨by omega, fun s hs => .inr (hss s hs), by rw [List.count_eq_zero_of_not_mem hf0]; omega⟩
  have pk := @picks
  obtain ⟨ε', er, ⟨ms, ws', rfl, rfl, hlen, hso, T, hp'⟩⟩ := run_range (c := cYes (DL.intsFrom 0 m2.toNat)) (n := m2.toNat) (g := gN 7) (b := b_l_makers_1) (JMk (namesOf ps) ws1 (n + 6) (rowsD ps) (w, ss))
    (fun _ => rfl) (by
      rintro k ε hk ⟨ms, ws', rfl, rfl, hlen, hso, T, hp'⟩
      rename_i p' x7 x8
      have hl := T.len
      obtain ⟨ws2, nm, rfl, T2⟩ := snoc_of (ws := ws') (by omega)
      obtain ⟨d2, p4, e4, d20, d24, hp4⟩ := take_ok (many := 4) hp' (by omega) (by omega) (by omega)
      obtain ⟨x, ex, hx, _⟩ := atI_lt (xs := [PV.lst [.str th], .lst [.str th], .lst [.str th, .str th], .lst []]) d20 d24
      obtain ⟨bs, rfl, hbl, hbs, hbc⟩ : ∃ bs : List Str, x = .lst (bs.map .str) ∧ bs.length ≤ 2 ∧ (∀ s ∈ bs, s = th) ∧ bs.count th ≤ 2 := by
        simp only [List.mem_cons, List.not_mem_nil, or_false] at hx
        rcases hx with rfl | rfl | rfl | rfl
        · exact ⟨[th], rfl, by simp, by simp, by simp⟩
        · exact ⟨[th], rfl, by simp, by simp, by simp⟩
        · exact ⟨[th, th], rfl, by simp, by simp, by simp⟩
        · exact ⟨[], rfl, by simp, by simp, by simp⟩
      obtain ⟨d3, p5, e5, d30, d32, hp5⟩ := take_ok (many := 2) hp4 (by omega) (by omega) (by omega)
      obtain ⟨j, hj⟩ : ∃ j : Int, j = if d3 < 3 - (bs.length : Int) then d3 else 3 - (bs.length : Int) := ⟨_, rfl⟩
      have hj0 : 0 ≤ j ∧ j ≤ 1 := by
        subst hj
        split <;> omega
      have hr5 := rng1_ok (j := j) (by omega) (by omega)
      obtain ⟨acc2, ε5, ec5, ⟨ts, rfl, htl, hts, hp6⟩⟩ := pk (names := namesOf ps) hp5 (by omega) hne hnl j.toNat (by omega) (x1 := some (.lst ((ws2.map D.str) ++ [.str nm]))) (x2 := some (.val (rowsD ps))) (x4 := none) (x5 := some (.lst ((((w, ss) :: ms).map rowD)))) (x7 := some (.val (.int k))) (x8 := some (.lst (bs.map .str)))
      rename_i p6
      obtain ⟨d7, p7, e7, d70, d73, hp7⟩ := take_ok (many := 3) hp6 (by omega) (by omega) (by omega)
      have hso2 : SortsOk (namesOf ps) (bs ++ ts) := ⟨by rw [List.length_append, htl]; omega, fun s hs => (List.mem_append.mp hs).elim (fun q => .inl (hbs s q)) (fun q => .inr (hts s q)), by
        rw [List.count_append, List.count_eq_zero_of_not_mem fun z => hth (hts th z)]
        omega⟩
      have e32 : e_l_makers_3 = e_l_makers_2 := rfl
      have hcl : bs.length + ts.length ≤ 1000000 := by omega
      have hml : ms.length + 1 ≤ 1000000 := by omega
      have hjm : j ≤ 1000000 := by omega
      simp only [map_snoc]
      simp only [List.map_cons] at ec5
      have fin : ∀ us : List Str, SortsOk (namesOf ps) us → JMk (namesOf ps) ws1 (n + 6) (rowsD ps) (w, ss) (k + 1) [some p7, some (.lst (ws2.map .str)), some (.val (rowsD ps)), some (.lst ((namesOf ps).map .str)), none, some (.lst (((w, ss) :: ms).map rowD ++ [.tup [.str nm, .tup (us.map .str)]])), none, some (.val (.int k)), some (.lst (us.map .str))] := fun us hu =>
        ⟨ms ++ [(nm, us)], ws2, rfl, by simp [rowD, strL], by simp [hlen], fun r hr => by
          rcases List.mem_append.mp hr with q | q
          · exact hso r q
          · rw [List.mem_singleton] at q
            exact q ▸ hu, ((T.trans T2).mono (by omega)).perm' (by simp [namesOf]), hp7.mono (by omega)⟩
      by_cases h0 : d7 = 0
      · subst h0
        simp [b_l_makers_1, e4, ex, e5, hr5, ← hj, ec5, hcl, e7, hml, hjm, e32]
        simpa using fin _ hso2.rev
      · simp [b_l_makers_1, e4, ex, e5, hr5, ← hj, ec5, hcl, e7, hml, hjm, e32, h0]
        simpa using fin _ hso2)
    (ε := [some p3, some (.lst (ws1.map .str)), some (.val (rowsD ps)), some (.lst ((namesOf ps).map .str)), none, some (.lst [.tup [.str w, .tup (ss.map D.str)]]), none, none, none]) ⟨[], ws1, rfl, rfl, rfl, (fun _ h => nomatch h), Took.refl, hp3.mono (by omega)⟩
  rename_i p' x7 x8
  obtain ⟨d7, p7, e7, d70, d73, hp7⟩ := take_ok (many := 3) hp' (by omega) (by omega) (by omega)
  have en : mLcL (cYes (ps.map rowD)) (gN 4) (mPure true) e_l_makers_1 [4] (ps.map rowD) [] [some p, some (.lst ((ws1 ++ [w]).map .str)), some (.val (rowsD ps)), none, none, none, none, none, none] = _ :=
    names_comp (i := 4) rfl e_l_makers_1 fun r _ => by simp [rowD, e_l_makers_1]
  have hall : ∀ r ∈ (w, ss) :: ms, SortsOk (namesOf ps) r.2 := fun r hr => by
    rcases List.mem_cons.mp hr with rfl | q
    · exact hsf
    · exact hso r q
  have TT := ((T1.trans T).mono (k := 5) (by omega)).perm' (vs := namesOf ((w, ss) :: ms)) (by simp [namesOf])
  have hml : ms.length + 1 ≤ 1000000 := by omega
  have hdm : d ≤ 1000000 := by omega
  have hmm : m2 ≤ 1000000 := by omega
  simp only [map_snoc] at en
  simp only [List.map_cons, show rowD (w, ss) = .tup [.str w, .tup (ss.map D.str)] from rfl] at er
  by_cases h0 : d7 = 0
  · subst h0
    refine ⟨((w, ss) :: ms).reverse, p7, ws', ?_, ⟨by simp, by simp; omega, fun r hr => ?_, (w, ss), by simp, hf0⟩, TT.perm' ?_, hp7.mono (by omega)⟩
    · simp only [map_snoc]
      simp [m_l_makers, hpl, en, e1, hr1, ec, e3, hm2, hr3, er, e7, hdm, hmm]
      simp [rowsD, rowD, strL]
    · have q := hall r (List.mem_reverse.mp hr)
      exact ⟨q.len, q.ok, q.many⟩
    · unfold namesOf
      rw [List.map_reverse]
      exact (List.reverse_perm _).symm
  · refine ⟨(w, ss) :: ms, p7, ws', ?_, ⟨by simp, by simp; omega, fun r hr => ?_, (w, ss), by simp, hf0⟩, TT, hp7.mono (by omega)⟩
    · simp only [map_snoc]
      simp [m_l_makers, hpl, en, e1, hr1, ec, e3, hm2, hr3, er, e7, h0, hdm, hmm]
      simp [rowsD, rowD, strL]
    · have q := hall r hr
      exact ⟨q.len, q.ok, q.many⟩
end KX

namespace KX
open PySem PySem.Spec PyProof.Rows L2 DL FL NdefX LamX

def AskSorts (names : List Str) (ss : List Str) : Prop := ss = [th] ∨ ∃ s ∈ names, ss = [th, s]
inductive JAk (names : List Str) (ws0 : List Str) (n : Int) (P : D) (many : Int) : Nat → PEnv → Prop
  | mk {k : Nat} {p' : PV} {L1 L2 : List D} {x7 x8 : Option PV} (rs : List Row) (ws' : List Str) (h1 : L1 = ws'.map .str) (h2 : L2 = rs.map rowD) (hlen : rs.length = k) (hs : ∀ r ∈ rs, AskSorts names r.2)
      (T : Took ws0 ws' (namesOf rs) k) (hp : Hand (n + 2 * k) p') : JAk names ws0 n P many k [some p', some (.lst L1), some (.val P), some (.val (.int many)), some (.lst (names.map .str)), none, some (.lst L2), x7, x8]
theorem askings_ok {n many : Int} {p : PV} {ws : List Str} {ps : List Row} (h : Hand n p) (hn : n ≤ 700000) (m0 : 0 ≤ many) (m5 : many ≤ 5) (hw : 6 ≤ ws.length) (hps : PlainsOk ps) :
    ∃ rs p' ws', m_l_askings [p, .lst (ws.map .str), .val (rowsD ps), .val (.int many)] = some (.ok (.lst (rs.map rowD)), [p', .lst (ws'.map .str), .val (rowsD ps), .val (.int many)]) ∧
      (rs.length : Int) = many ∧ (∀ r ∈ rs, AskSorts (namesOf ps) r.2) ∧ Took ws ws' (namesOf rs) 5 ∧ Hand (n + 10) p' := by
  have hne : namesOf ps ≠ [] := List.ne_nil_of_length_pos (by unfold namesOf; rw [List.length_map]; exact hps.pos)
  have hnl : (namesOf ps).length ≤ 1000 := by unfold namesOf; rw [List.length_map]; have := hps.few; omega
  have hpl : ps.length ≤ 1000000 := by have := hps.few; omega
  have hr := rng1_ok (j := many) (by omega) (by omega)
  have en : mLcL (cYes (ps.map rowD)) (gN 5) (mPure true) e_l_askings_1 [5] (ps.map rowD) [] [some p, some (.lst (ws.map .str)), some (.val (rowsD ps)), some (.val (.int many)), none, none, none, none, none] = _ :=
    names_comp (i := 5) rfl e_l_askings_1 fun r _ => by simp [rowD, e_l_askings_1]
  obtain ⟨ε', er, ⟨rs, ws', rfl, rfl, hlen, hso, T, hp'⟩⟩ := run_range (c := cYes (DL.intsFrom 0 many.toNat)) (n := many.toNat) (g := gN 7) (b := b_l_askings_1) (JAk (namesOf ps) ws n (rowsD ps) many)
    (fun _ => rfl) (by
      rintro k ε hk ⟨rs, ws', rfl, rfl, hlen, hso, T, hp'⟩
      rename_i p' x7 x8
      have hl := T.len
      obtain ⟨ws2, nm, rfl, T2⟩ := snoc_of (ws := ws') (by omega)
      obtain ⟨d, p1, e1, d0, d3, hp1⟩ := take_ok (many := 3) hp' (by omega) (by omega) (by omega)
      obtain ⟨x, p2, e2, hm, hp2⟩ := pickL_ok (xs := (namesOf ps).map .str) hp1 (by omega) (by simpa using hne) (by simp; omega)
      obtain ⟨s, hs2, rfl⟩ := List.mem_map.mp hm
      have hrl : rs.length ≤ 1000000 := by omega
      have fin : ∀ (us : List Str) (q : PV), AskSorts (namesOf ps) us → Hand (n + 2 * k + 2) q → JAk (namesOf ps) ws n (rowsD ps) many (k + 1) [some q, some (.lst (ws2.map .str)), some (.val (rowsD ps)), some (.val (.int many)), some (.lst ((namesOf ps).map .str)), none, some (.lst (rs.map rowD ++ [.tup [.str nm, strL us]])), some (.val (.int k)), some (.val (strL us))] := fun us q hu hq =>
        ⟨rs ++ [(nm, us)], ws2, rfl, by simp [rowD], by simp [hlen], fun r hr => by
          rcases List.mem_append.mp hr with z | z
          · exact hso r z
          · rw [List.mem_singleton] at z
            exact z ▸ hu, ((T.trans T2).mono (by omega)).perm' (by simp [namesOf]), hq.mono (by omega)⟩
      simp only [map_snoc]
      by_cases h0 : d = 0
      · subst h0
        simp [b_l_askings_1, e1, e2, hrl]
        exact fin [th, s] p2 (.inr ⟨s, hs2, rfl⟩) (hp2.mono (by omega))
      · simp [b_l_askings_1, e1, hrl, h0]
        exact fin [th] p1 (.inl rfl) (hp1.mono (by omega)))
    (ε := [some p, some (.lst (ws.map .str)), some (.val (rowsD ps)), some (.val (.int many)), some (.lst ((namesOf ps).map .str)), none, some (.lst []), none, none]) ⟨[], ws, rfl, rfl, rfl, (fun _ h => nomatch h), Took.refl, h.mono (by omega)⟩
  refine ⟨rs, _, ws', ?_, by omega, hso, T.mono (by omega), hp'.mono (by omega)⟩
  simp [m_l_askings, hpl, en, hr, er]
abbrev Ask := Str × List Str × Str
def askD (a : Ask) : D := .tup [.str a.1, strL a.2.1, .str a.2.2]
def asksD (as : List Ask) : D := .tup (as.map askD)
@[simp] theorem fIx_askD0 (r : Ask) : fIx (askD r) (.int 0) = some (.str r.1) := by simp [askD]
@[simp] theorem fIx_askD1 (r : Ask) : fIx (askD r) (.int 1) = some (strL r.2.1) := by simp [askD]
@[simp] theorem fIx_askD2 (r : Ask) : fIx (askD r) (.int 2) = some (.str r.2.2) := by simp [askD]
@[simp] theorem toT_asksD (rs : List Ask) : toT (asksD rs) = some (rs.map askD) := rfl
structure AsksOk (names : List Str) (as : List Ask) : Prop where
  few : as.length ≤ 5
  ok : ∀ a ∈ as, AskSorts names a.2.1 ∧ a.2.2 ∈ names
theorem pickRow_ok {n : Int} {p : PV} {rs : List Row} (h : Hand n p) (hn : n ≤ 1000000) (hx : 1 ≤ rs.length) (hl : rs.length ≤ 1000000) :
    ∃ r p', m_l_pick [p, .val (rowsD rs)] = some (.ok (.val (rowD r)), [p', .val (rowsD rs)]) ∧ r ∈ rs ∧ Hand (n + 1) p' := by
  obtain ⟨x, p', e, hx, hp⟩ := pickT_ok (xs := rs.map rowD) h hn (List.ne_nil_of_length_pos (by rw [List.length_map]; omega)) (by rw [List.length_map]; omega)
  obtain ⟨r, hr, rfl⟩ := List.mem_map.mp hx
  exact ⟨r, p', e, hr, hp⟩
@[simp] theorem mNs_nil (ε : PEnv) : mNs [] ε = mPure [] ε := rfl
@[simp] theorem mNs_cons (k : Key) (p : M PV) (r : List (Key × M PV)) (ε : PEnv) : mNs ((k, p) :: r) ε = mArgN p (mNs r) ε := rfl
theorem rng1_nat {N : Nat} (h : N ≤ 1000000) : rng1 [.int (N : Int)] = some (DL.intsFrom 0 N) := by
  have := rng1_ok (j := (N : Int)) (by omega) (by omega)
  rwa [Int.toNat_natCast] at this
theorem seq_nx {p q : M Res} {ε ε' : PEnv} (h : p ε = some (.ok .nx, ε')) : mSeq p q ε = q ε' := by
  rw [mSeq_run]
  simp [h]
theorem fnF_of {np n : Nat} {io : List Nat} {body : M Res} {ps ps' : List PV} {v : PV} {ε : PEnv} (h0 : ps.length = np) (h : body (startP n ps) = some (.ok (.rt v), ε)) (h2 : outsF io 0 ps ε = some ps') : fnF np io n body ps = some (.ok v, ps') := by
  rw [fnF_run, if_pos h0, runF_run, h]
  simp only [h2]
theorem mFor_of {p : M (List D)} {c : List D → PEnv → Bool} {g : GM} {b : M Res} {ε ε' : PEnv} {ds : List D} (h : p ε = some (.ok ds, ε')) : mFor p c g b ε = mLoop (c ds) g b ds ε' := by
  rw [mFor_run]
  simp [h]
theorem mRng1_of {p : M (List D)} {ε ε' : PEnv} {ds xs : List D} (h : p ε = some (.ok ds, ε')) (h2 : rng1 ds = some xs) : mRng1 p ε = some (.ok xs, ε') := by
  rw [mRng1_run]
  simp [h, h2]
theorem Words.perm {ws vs : List Str} (h : Words ws) (p : ws.Perm vs) : Words vs := ⟨p.nodup_iff.mp h.nd, fun w hw => h.ok w (p.mem_iff.mpr hw)⟩
theorem Words.right {ws vs : List Str} (h : Words (ws ++ vs)) : Words vs := ⟨(List.nodup_append.mp h.nd).2.1, fun w hw => h.ok w (List.mem_append_right _ hw)⟩
theorem Words.left {ws vs : List Str} (h : Words (ws ++ vs)) : Words ws := ⟨(List.nodup_append.mp h.nd).1, fun w hw => h.ok w (List.mem_append_left _ hw)⟩
theorem Words.no_th {ws : List Str} (h : Words ws) : th ∉ ws := fun q => by
  have := h.ok _ q
  revert this
  decide
theorem names_sub {ps : List Row} : (namesOf ps).Sublist (wordsIn ps) := by
  unfold namesOf wordsIn
  induction ps with
  | nil => exact .slnil
  | cons r ps ih =>
    rw [List.map_cons, List.flatMap_cons, List.cons_append]
    exact .cons_cons _ (ih.trans (List.sublist_append_right _ _))
def shortT (w : Str) : Prop := w.cps.size ≤ 8 ∧ (w.cps.toList.all fun c => decide (c < 16 ^ 8)) = true
theorem okW_short {w : Str} (h : okW w = true) : shortT w := by
  unfold okW at h
  simp only [Bool.and_eq_true, decide_eq_true_eq, List.all_eq_true] at h
  refine ⟨by omega, List.all_eq_true.mpr fun c hc => ?_⟩
  have := h.2 c hc
  exact decide_eq_true (by omega)
theorem fnP_of {np n : Nat} {body : M Res} {ds : List D} {v : D} {ε : PEnv} (h0 : ds.length = np) (h : body (startP n (ds.map .val)) = some (.ok (.rt (.val v)), ε)) : fnP np n body ds = some v := by
  rw [fnP_run, if_pos h0, runP_run, h]
theorem pow60 : (10 : Int) ^ 60 < 10 ^ 200 := by decide +kernel
theorem pow30 : (10 : Int) ^ 30 < 10 ^ 200 := by decide +kernel
theorem pow90 : (10 : Int) ^ 60 * 10 ^ 30 = 10 ^ 90 := by decide +kernel
theorem hand_ok {ns : List Int} (hl : ns.length ≤ 63) {k : Int} (k0 : 0 ≤ k) (k1 : k ≤ 100) : ∃ p, m_l_hand [.val (.ilst (ns.map D.int)), .val (.int k)] = some (.ok p, [.val (.ilst (ns.map D.int)), .val (.int k)]) ∧ Hand 0 p := by
  have go : ∀ cell : Int, ((k < ns.length ∧ atI (ns.map D.int) k = some (.int cell)) ∨ (¬ k < ns.length ∧ cell = 0)) → ∃ p, m_l_hand [.val (.ilst (ns.map D.int)), .val (.int k)] = some (.ok p, [.val (.ilst (ns.map D.int)), .val (.int k)]) ∧ Hand 0 p := by
    intro cell hc
    have h60 : (0 : Int) ≤ 10 ^ 60 := by decide +kernel
    have h30 : (0 : Int) ≤ 10 ^ 30 := by decide +kernel
    have h90 : (0 : Int) < 10 ^ 90 := by decide +kernel
    have h902 : (10 : Int) ^ 90 < 10 ^ 200 := by decide +kernel
    have p60 := pow60
    have p30 := pow30
    have l1 := log_mul (i := 10 ^ 60) (j := 10 ^ 30) (by omega) (by omega) (by omega) (by omega)
    obtain ⟨A, hA⟩ : ∃ A : Int, A = 10 ^ 60 := ⟨_, rfl⟩
    obtain ⟨B, hB⟩ : ∃ B : Int, B = 10 ^ 30 := ⟨_, rfl⟩
    obtain ⟨C, hC⟩ : ∃ C : Int, C = 10 ^ 90 := ⟨_, rfl⟩
    obtain ⟨E, hE⟩ : ∃ E : Int, E = 10 ^ 18 := ⟨_, rfl⟩
    have f1 : fPow (.int 10) (.int 60) = some (.int A) := by rw [hA]; rfl
    have f2 : fPow (.int 10) (.int 30) = some (.int B) := by rw [hB]; rfl
    have f3 : fMul (.int A) (.int B) = some (.int C) := by
      rw [fMul_int, hA, hB, if_pos l1, pow90, hC]
    have f4 : fPow (.int 10) (.int 18) = some (.int E) := by rw [hE]; rfl
    rw [← hC] at h90 h902
    have g0 := Int.emod_nonneg cell (show C ≠ 0 by omega)
    have g1 := Int.emod_lt_of_pos cell h90
    obtain ⟨g, hg⟩ : ∃ g, g = cell % C := ⟨_, rfl⟩
    have f5 : fMod (.int cell) (.int C) = some (.int g) := by
      rw [fMod_int, if_pos h90, hg]
    rw [← hg] at g0 g1
    obtain ⟨b, hb⟩ : ∃ b : Bool, b = decide (E ≤ cell) := ⟨_, rfl⟩
    have f6 : fGe (.int cell) (.int E) = some (.bl b) := by rw [fGe_int, hb]
    obtain ⟨g2, f7, g20, g21⟩ : ∃ g2 : Int, fMul (.int g) (.int (if b = true then 1 else 0)) = some (.int g2) ∧ 0 ≤ g2 ∧ g2 < C := by
      cases b with
      | true =>
        refine ⟨g, ?_, g0, g1⟩
        have := log_mul (i := g) (j := 1) (by omega) (by omega) (by omega) (by omega)
        rw [if_pos rfl, fMul_int, if_pos this, Int.mul_one]
      | false =>
        refine ⟨0, ?_, by omega, h90⟩
        have := log_mul (i := g) (j := 0) (by omega) (by omega) (by omega) (by omega)
        rw [if_neg (by decide), fMul_int, if_pos this, Int.mul_zero]
    have l2 := log_mul (i := 7919) (j := k) (by omega) (by omega) (by omega) (by omega)
    have m0 := Int.emod_nonneg (cell % 2305843009213693951 + 7919 * k + 3) (show (2305843009213693951 : Int) ≠ 0 by decide)
    have m1 := Int.emod_lt_of_pos (cell % 2305843009213693951 + 7919 * k + 3) (show (0 : Int) < 2305843009213693951 by decide)
    refine ⟨.lst [.int g2, .int ((cell % 2305843009213693951 + 7919 * k + 3) % 2305843009213693951), .int 0], ?_, g2, _, 0, rfl, g20, by omega, m0, m1, by omega, by omega⟩
    simp at l2
    rcases hc with ⟨hk, ha⟩ | ⟨hk, rfl⟩
    · simp [m_l_hand, hk, ha, f1, f2, f3, f4, f5, f6, f7, l2]
    · simp [m_l_hand, hk, f1, f2, f3, f4, f5, f6, f7, l2]
  by_cases hk : k < ns.length
  · obtain ⟨x, ex, hx, _⟩ := atI_lt (xs := ns.map D.int) k0 (by rw [List.length_map]; exact hk)
    obtain ⟨cell, _, rfl⟩ := List.mem_map.mp hx
    exact go cell (.inl ⟨hk, ex⟩)
  · exact go 0 (.inr ⟨hk, rfl⟩)
end KX

namespace KX
open PySem PySem.Spec PyProof.Rows L2 DL FL NdefX LamX

def isCallD : D → Bool
  | .tup (.str _ :: _) => true
  | _ => false
theorem isCall_eq {d : D} (h : isCallD d = true) : ∃ w ds, d = .tup (.str w :: ds) := by
  unfold isCallD at h
  split at h
  · exact ⟨_, _, rfl⟩
  · cases h
@[simp] theorem isCall_call (w : Str) (ds : List D) : isCallD (.tup (.str w :: ds)) = true := rfl
mutual
def nodD : D → Nat
  | .tup (.str _ :: ds) => nodL ds + 1
  | _ => 1
def nodL : List D → Nat
  | [] => 0
  | d :: ds => nodD d + nodL ds
end
@[simp] theorem nodD_call (w : Str) (ds : List D) : nodD (.tup (.str w :: ds)) = nodL ds + 1 := by unfold nodD; rfl
@[simp] theorem nodL_nil : nodL [] = 0 := by unfold nodL; rfl
@[simp] theorem nodL_cons (d : D) (ds : List D) : nodL (d :: ds) = nodD d + nodL ds := by
  conv => lhs; unfold nodL
theorem nodD_leaf {d : D} (h : isCallD d = false) : nodD d = 1 := by
  unfold nodD
  split
  · simp at h
  · rfl
theorem nodD_pos (d : D) : 1 ≤ nodD d := by
  cases h : isCallD d with
  | false => rw [nodD_leaf h]; exact Nat.le_refl _
  | true =>
    obtain ⟨w, ds, rfl⟩ := isCall_eq h
    simp
theorem nodL_app (a b : List D) : nodL (a ++ b) = nodL a + nodL b := by
  induction a with
  | nil => simp
  | cons d a ih => simp [ih]; omega
theorem nod_mem {d : D} : ∀ {ds : List D}, d ∈ ds → nodD d ≤ nodL ds
  | [], h => nomatch h
  | x :: ds, h => by
    rw [nodL_cons]
    rcases List.mem_cons.mp h with rfl | h
    · omega
    · have := nod_mem h
      omega
theorem nod_len : ∀ ds : List D, ds.length ≤ nodL ds
  | [] => Nat.zero_le _
  | d :: ds => by
    have := nod_len ds
    have := nodD_pos d
    simp
    omega
theorem D_ind {P : D → Prop} (leaf : ∀ d, isCallD d = false → P d) (call : ∀ w ds, (∀ d ∈ ds, P d) → P (.tup (.str w :: ds))) : ∀ d, P d := fun d => by
  have go : ∀ n d, nodD d ≤ n → P d := by
    intro n
    induction n with
    | zero =>
      intro d h
      have := nodD_pos d
      omega
    | succ n ih =>
      intro d h
      cases hc : isCallD d with
      | false => exact leaf d hc
      | true =>
        obtain ⟨w, ds, rfl⟩ := isCall_eq hc
        exact call w ds fun x hx => ih x (by
          have := nod_mem hx
          rw [nodD_call] at h
          omega)
  exact go _ d (Nat.le_refl _)
theorem plainL_mem {d : D} : ∀ {ds : List D}, plainL ds = true → d ∈ ds → d.plain = true
  | [], _, h => nomatch h
  | x :: ds, hp, h => by
    simp only [plainL, Bool.and_eq_true] at hp
    rcases List.mem_cons.mp h with rfl | h
    · exact hp.1
    · exact plainL_mem hp.2 h
theorem plainL_of : ∀ {ds : List D}, (∀ d ∈ ds, d.plain = true) → plainL ds = true
  | [], _ => rfl
  | x :: ds, h => by
    simp only [plainL, Bool.and_eq_true]
    exact ⟨h x List.mem_cons_self, plainL_of fun d hd => h d (List.mem_cons_of_mem _ hd)⟩
@[simp] theorem plain_tup (ds : List D) : (D.tup ds).plain = plainL ds := by simp [D.plain]
@[simp] theorem plain_str (x : Str) : (D.str x).plain = true := by simp [D.plain]
@[simp] theorem plain_int (x : Int) : (D.int x).plain = true := by simp [D.plain]
@[simp] theorem plain_non : D.non.plain = true := by simp [D.plain]
theorem plainL_call {w : Str} {ds : List D} (h : plainL (.str w :: ds) = true) : plainL ds = true := by
  simp only [plainL, Bool.and_eq_true] at h
  exact h.2
mutual
def solid : D → Bool
  | .ty _ => false
  | .ref _ => false
  | .tup ds => solidL ds
  | _ => true
def solidL : List D → Bool
  | [] => true
  | d :: ds => solid d && solidL ds
end
theorem solidL_mem {d : D} : ∀ {ds : List D}, solidL ds = true → d ∈ ds → solid d = true
  | [], _, h => nomatch h
  | x :: ds, hp, h => by
    simp only [solidL, Bool.and_eq_true] at hp
    rcases List.mem_cons.mp h with rfl | h
    · exact hp.1
    · exact solidL_mem hp.2 h
theorem solidL_of : ∀ {ds : List D}, (∀ d ∈ ds, solid d = true) → solidL ds = true
  | [], _ => rfl
  | x :: ds, h => by
    simp only [solidL, Bool.and_eq_true]
    exact ⟨h x List.mem_cons_self, solidL_of fun d hd => h d (List.mem_cons_of_mem _ hd)⟩
@[simp] theorem solid_tup (ds : List D) : solid (.tup ds) = solidL ds := by simp [solid]
@[simp] theorem solid_str (x : Str) : solid (.str x) = true := by simp [solid]
@[simp] theorem solid_int (x : Int) : solid (.int x) = true := by simp [solid]
@[simp] theorem solid_non : solid .non = true := by simp [solid]
@[simp] theorem solid_bl (b : Bool) : solid (.bl b) = true := by simp [solid]
@[simp] theorem solid_ilst (ds : List D) : solid (.ilst ds) = true := by simp [solid]
@[simp] theorem solid_edic : solid .edic = true := by simp [solid]
theorem solidL_call {w : Str} {ds : List D} (h : solidL (.str w :: ds) = true) : solidL ds = true := by
  simp only [solidL, Bool.and_eq_true] at h
  exact h.2
mutual
theorem solid_of_plain : ∀ {d : D}, d.plain = true → solid d = true
  | .non, _ => rfl
  | .bl _, _ => rfl
  | .int _, _ => rfl
  | .str _, _ => rfl
  | .ty _, h => nomatch h
  | .ref _, h => nomatch h
  | .edic, _ => rfl
  | .ilst _, _ => by simp [solid]
  | .tup ds, h => by
    rw [solid_tup]
    exact solidL_of_plainL (ds := ds) (by simpa using h)
theorem solidL_of_plainL : ∀ {ds : List D}, plainL ds = true → solidL ds = true
  | [], _ => rfl
  | d :: ds, h => by
    simp only [plainL, Bool.and_eq_true] at h
    simp only [solidL, Bool.and_eq_true]
    exact ⟨solid_of_plain h.1, solidL_of_plainL h.2⟩
end
theorem is_call_ok {d : D} (h : solid d = true) : m_p_is_call [d] = some (.bl (isCallD d)) := by
  cases d with
  | tup ds =>
    cases ds with
    | nil => simp [m_p_is_call, isCallD, fIsi, tyP, subTy]
    | cons x ds =>
      rw [solid_tup] at h
      have hx := solidL_mem h List.mem_cons_self
      have hl : (0 : Int) < (ds.length : Int) + 1 := by omega
      cases x <;> simp [m_p_is_call, isCallD, fIsi, tyP, subTy, hl] <;> simp [solid] at hx
  | ty n => simp [solid] at h
  | ref a => simp [solid] at h
  | _ => simp [m_p_is_call, isCallD, fIsi, tyP, subTy]
mutual
def foldD (g1 : List D → Option D) (g2 : D → List D → Option D) : D → Option D
  | .tup (.str w :: ds) => (foldL g1 g2 ds).bind (g2 (.str w))
  | d => g1 [d]
def foldL (g1 : List D → Option D) (g2 : D → List D → Option D) : List D → Option (List D)
  | [] => some []
  | d :: ds => (foldD g1 g2 d).bind fun x => (foldL g1 g2 ds).map (x :: ·)
end
section
variable {g1 : List D → Option D} {g2 : D → List D → Option D}
theorem foldD_call (w : Str) (ds : List D) : foldD g1 g2 (.tup (.str w :: ds)) = (foldL g1 g2 ds).bind (g2 (.str w)) := by
  conv => lhs; unfold foldD
theorem foldD_leaf {d : D} (h : isCallD d = false) : foldD g1 g2 d = g1 [d] := by
  unfold foldD
  split
  · simp at h
  · rfl
theorem foldL_nil : foldL g1 g2 [] = some [] := by unfold foldL; rfl
theorem foldL_cons (d : D) (ds : List D) : foldL g1 g2 (d :: ds) = (foldD g1 g2 d).bind fun x => (foldL g1 g2 ds).map (x :: ·) := by
  conv => lhs; unfold foldL
theorem foldL_some {d : D} {ds rs : List D} (h : foldL g1 g2 (d :: ds) = some rs) : ∃ r rs', rs = r :: rs' ∧ foldD g1 g2 d = some r ∧ foldL g1 g2 ds = some rs' := by
  rw [foldL_cons] at h
  obtain ⟨r, h1, h⟩ := Option.bind_eq_some_iff.mp h
  obtain ⟨rs', h2, rfl⟩ := Option.map_eq_some_iff.mp h
  exact ⟨r, rs', rfl, h1, h2⟩
theorem foldL_len : ∀ {ds rs : List D}, foldL g1 g2 ds = some rs → rs.length = ds.length
  | [], rs, h => by
    rw [foldL_nil] at h
    cases h
    rfl
  | d :: ds, rs, h => by
    obtain ⟨r, rs', rfl, _, h2⟩ := foldL_some h
    simp [foldL_len h2]
theorem foldL_of {f : D → D} : ∀ {ds : List D}, (∀ d ∈ ds, foldD g1 g2 d = some (f d)) → foldL g1 g2 ds = some (ds.map f)
  | [], _ => foldL_nil
  | d :: ds, h => by
    rw [foldL_cons, h d List.mem_cons_self, foldL_of fun x hx => h x (List.mem_cons_of_mem _ hx)]
    rfl
end
mutual
def preD : D → List D
  | .tup (.str w :: ds) => .tup (.str w :: ds) :: preL ds
  | d => [d]
def preL : List D → List D
  | [] => []
  | d :: ds => preL ds ++ preD d
end
theorem preD_call (w : Str) (ds : List D) : preD (.tup (.str w :: ds)) = .tup (.str w :: ds) :: preL ds := by
  conv => lhs; unfold preD
theorem preD_leaf {d : D} (h : isCallD d = false) : preD d = [d] := by
  unfold preD
  split
  · simp at h
  · rfl
theorem preL_nil : preL [] = [] := by unfold preL; rfl
theorem preL_cons (d : D) (ds : List D) : preL (d :: ds) = preL ds ++ preD d := by
  conv => lhs; unfold preL
theorem preL_app : ∀ a b : List D, preL (a ++ b) = preL b ++ preL a
  | [], b => by simp [preL_nil]
  | d :: a, b => by rw [List.cons_append, preL_cons, preL_app a b, preL_cons, List.append_assoc]
theorem preL_one (d : D) : preL [d] = preD d := by rw [preL_cons, preL_nil, List.nil_append]
def E1 (d : D) (O W : List D) (x5 : Option PV) : PEnv := [some (.val d), some (.cb 0), some (.cb 1), some (.lst O), some (.lst W), x5, none, none, none]
theorem snoc_cases {α : Type} (xs : List α) : xs = [] ∨ ∃ ys y, xs = ys ++ [y] := by
  rcases List.eq_nil_or_concat xs with h | ⟨ys, y, h⟩
  · exact .inl h
  · exact .inr ⟨ys, y, by rw [h]; simp⟩
section
variable {g1 : List D → Option D} {g2 : D → List D → Option D}
theorem loop1 {d : D} : ∀ (n : Nat) (W O : List D) (x5 : Option PV), nodL W < n → solidL W = true → O.length + nodL W ≤ 1000000 →
    ∃ y5, mWhile (mB (mOp2 fGt (mLenL 4) (mPure (.int 0)))) (b_p_folded_1 g1 g2) n (E1 d O W x5) = some (.ok .nx, E1 d (O ++ preL W) [] y5)
  | 0, W, O, x5, h, _, _ => by omega
  | n + 1, W, O, x5, h, hp, hl => by
    unfold mWhile
    rcases snoc_cases W with rfl | ⟨W', x, rfl⟩
    · exact ⟨x5, by simp [E1, preL_nil]⟩
    · rw [nodL_app] at h hl
      simp only [nodL_cons, nodL_nil, Nat.add_zero] at h hl
      have hpx : solid x = true := solidL_mem hp (by simp)
      have hpW : solidL W' = true := solidL_of fun d hd => solidL_mem hp (by simp [hd])
      have ic := is_call_ok hpx
      have l1 := nod_len W'
      have hpos : (0 : Int) < (W'.length : Int) + 1 := by omega
      have hOl : O.length ≤ 1000000 := by omega
      cases hc : isCallD x with
      | false =>
        rw [hc] at ic
        rw [nodD_leaf hc] at h hl
        obtain ⟨y5, e⟩ := loop1 (d := d) n W' (O ++ [x]) (some (.val x)) (by omega) hpW (by simp; omega)
        refine ⟨y5, ?_⟩
        rw [preL_app, preL_one, preD_leaf hc]
        rw [List.append_assoc] at e
        rw [← e]
        simp [E1, b_p_folded_1, hpos, ic, hOl, appL]
      | true =>
        rw [hc] at ic
        obtain ⟨w, ds, rfl⟩ := isCall_eq hc
        rw [nodD_call] at h hl
        have hpd : solidL ds = true := solidL_call (by simpa using hpx)
        have l2 := nod_len ds
        obtain ⟨y5, e⟩ := loop1 (d := d) n (W' ++ ds) (O ++ [.tup (.str w :: ds)]) (some (.val (.tup (.str w :: ds)))) (by rw [nodL_app]; omega) (solidL_of fun d hd => by
          rcases List.mem_append.mp hd with q | q
          · exact solidL_mem hpW q
          · exact solidL_mem hpd q) (by rw [nodL_app]; simp; omega)
        refine ⟨y5, ?_⟩
        have el : W'.length + ds.length ≤ 1000000 := by omega
        have ep : O ++ [D.tup (.str w :: ds)] ++ preL (W' ++ ds) = O ++ preL (W' ++ [.tup (.str w :: ds)]) := by
          rw [preL_app, preL_app, preL_one, preD_call]
          simp
        rw [ep] at e
        rw [← e]
        simp [E1, b_p_folded_1, hpos, ic, hOl, appL, extL, cutG_1, el]
end
end KX

namespace KX
open PySem PySem.Spec PyProof.Rows L2 DL FL NdefX LamX

section
variable {g1 : List D → Option D} {g2 : D → List D → Option D} {d0 : D}
def E2 (d : D) (O F : List D) (x5 x7 : Option PV) : PEnv := [some (.val d), some (.cb 0), some (.cb 1), some (.lst O), some (.lst []), x5, some (.lst F), x7, none]
inductive JPop (O F rs : List D) (x : D) (x7 : Option PV) : Nat → List D → PEnv → Prop
  | mk {k : Nat} {acc : List D} (a b : List D) (h1 : rs = a ++ b) (h2 : b.length = k) (h3 : acc = b.reverse) : JPop O F rs x x7 k acc (E2 d0 O (F ++ a) (some (.val x)) x7)
theorem pops {O F rs : List D} {x : D} {x7 : Option PV} : ∃ acc ε', mLcL (cYes (DL.intsFrom 0 rs.length)) (gN 8) (mPure true) (e_p_folded_1 g1 g2) [8] (DL.intsFrom 0 rs.length) [] (E2 d0 O (F ++ rs) (some (.val x)) x7) = some (.ok acc, ε') ∧ JPop (d0 := d0) O F rs x x7 rs.length acc ε' := by
  refine comp_range (JPop (d0 := d0) O F rs x x7) (fun _ => rfl) ?_ (.mk rs [] (by simp) rfl rfl)
  rintro k acc ε hk ⟨a, b, h1, h2, h3⟩
  rcases snoc_cases a with rfl | ⟨a', y, rfl⟩
  · rw [h1] at hk
    simp at hk
    omega
  · have e : popL (F ++ (a' ++ [y])) = some (y, F ++ a') := by
      rw [← List.append_assoc]
      exact popL_snoc' _ _
    simp only [E2]
    simp [e_p_folded_1, h3, e]
    have := JPop.mk (d0 := d0) (O := O) (F := F) (rs := rs) (x := x) (x7 := x7) (k := k + 1) (acc := b.reverse ++ [y]) a' (y :: b) (by rw [h1]; simp) (by simp [h2]) (by simp)
    simpa [E2] using this
theorem step_leaf {O F : List D} {x r : D} {x5 x7 : Option PV} (hp : solid x = true) (hc : isCallD x = false) (hr : g1 [x] = some r) (hF : F.length ≤ 1000000) :
    gN 5 x (E2 d0 O F x5 x7) = some (E2 d0 O F (some (.val x)) x7) ∧ b_p_folded_2 g1 g2 (E2 d0 O F (some (.val x)) x7) = some (.ok .nx, E2 d0 O (F ++ [r]) (some (.val x)) x7) := by
  have ic := is_call_ok hp
  rw [hc] at ic
  refine ⟨by simp [E2], ?_⟩
  simp [E2, b_p_folded_2, ic, hr, hF, appL]
theorem step_call {O F rs : List D} {w : Str} {ds : List D} {r : D} {x5 x7 : Option PV} (hp : solidL ds = true) (hl : rs.length = ds.length) (hr : g2 (.str w) rs = some r) (hF : F.length ≤ 1000000) (hd : ds.length ≤ 1000000) :
    ∃ x7', gN 5 (.tup (.str w :: ds)) (E2 d0 O (F ++ rs) x5 x7) = some (E2 d0 O (F ++ rs) (some (.val (.tup (.str w :: ds)))) x7) ∧ b_p_folded_2 g1 g2 (E2 d0 O (F ++ rs) (some (.val (.tup (.str w :: ds)))) x7) = some (.ok .nx, E2 d0 O (F ++ [r]) (some (.val (.tup (.str w :: ds)))) x7') := by
  have ic : m_p_is_call [D.tup (.str w :: ds)] = some (.bl true) := is_call_ok (by simp [solidL, hp])
  obtain ⟨acc, ε', e, ⟨a, b, h1, h2, h3⟩⟩ := pops (g1 := g1) (g2 := g2) (d0 := d0) (O := O) (F := F) (rs := rs) (x := .tup (.str w :: ds)) (x7 := x7)
  have ha : a = [] := by
    have := congrArg List.length h1
    simp at this
    exact List.eq_nil_of_length_eq_zero (by omega)
  subst ha
  rw [List.nil_append] at h1
  subst h1
  subst h3
  obtain ⟨K, hK⟩ : ∃ K : Int, K = (ds.length : Int) := ⟨_, rfl⟩
  have hr1 := rng1_ok (j := K) (by omega) (by omega)
  have hKn : K.toNat = rs.length := by omega
  rw [hKn] at hr1
  have hlen : fLen [D.tup (.str w :: ds)] = some (.int (K + 1)) := by simp [hK]
  have hKm : rs.length ≤ 1000000 := by omega
  simp only [E2] at e
  rw [fLen_tup] at hlen
  refine ⟨some (.lst rs.reverse), by simp [E2], ?_⟩
  have hk1 : (((D.str w :: ds).length : Nat) : Int) = K + 1 := by simp [hK]
  have hsub : K + 1 - 1 = K := by omega
  simp [E2, b_p_folded_2, ic, hF, appL, ← hK, hsub, hr1, hKm, e, hr]
theorem mLoop_step {c : PEnv → Bool} {g : GM} {b : M Res} {x : D} {xs : List D} {ε ε1 ε2 : PEnv} (hc : c ε = true) (h1 : g x ε = some ε1) (h2 : b ε1 = some (.ok .nx, ε2)) : mLoop c g b (x :: xs) ε = mLoop c g b xs ε2 := by
  conv => lhs; unfold mLoop
  simp only [hc, if_true, h1, h2]
abbrev LP (g1 : List D → Option D) (g2 : D → List D → Option D) (d0 : D) (O : List D) (xs F : List D) (x5 x7 : Option PV) : Option (Out Res × PEnv) := mLoop (cRevL 3 O.reverse) (gN 5) (b_p_folded_2 g1 g2) xs (E2 d0 O F x5 x7)
theorem loop2L {O : List D} : ∀ {ds : List D}, (∀ d ∈ ds, solid d = true → ∀ r, foldD g1 g2 d = some r → ∀ (rest F : List D) (x5 x7 : Option PV), F.length + nodD d ≤ 1000000 → ∃ y5 y7, LP g1 g2 d0 O ((preD d).reverse ++ rest) F x5 x7 = LP g1 g2 d0 O rest (F ++ [r]) y5 y7) →
    solidL ds = true → ∀ rs, foldL g1 g2 ds = some rs → ∀ (rest F : List D) (x5 x7 : Option PV), F.length + nodL ds ≤ 1000000 → ∃ y5 y7, LP g1 g2 d0 O ((preL ds).reverse ++ rest) F x5 x7 = LP g1 g2 d0 O rest (F ++ rs) y5 y7
  | [], _, _, rs, h, rest, F, x5, x7, _ => by
    rw [foldL_nil] at h
    cases h
    exact ⟨x5, x7, by rw [preL_nil]; simp⟩
  | d :: ds, hd, hp, rs, h, rest, F, x5, x7, hl => by
    obtain ⟨r, rs', rfl, h1, h2⟩ := foldL_some h
    simp only [solidL, Bool.and_eq_true] at hp
    rw [nodL_cons] at hl
    have n1 := nodD_pos d
    obtain ⟨y5, y7, e1⟩ := hd d List.mem_cons_self hp.1 r h1 ((preL ds).reverse ++ rest) F x5 x7 (by omega)
    obtain ⟨z5, z7, e2⟩ := loop2L (fun x hx => hd x (List.mem_cons_of_mem _ hx)) hp.2 rs' h2 rest (F ++ [r]) y5 y7 (by simp; omega)
    refine ⟨z5, z7, ?_⟩
    rw [preL_cons, List.reverse_append, List.append_assoc, e1, e2]
    simp
theorem loop2 {O : List D} : ∀ d : D, solid d = true → ∀ r, foldD g1 g2 d = some r → ∀ (rest F : List D) (x5 x7 : Option PV), F.length + nodD d ≤ 1000000 → ∃ y5 y7, LP g1 g2 d0 O ((preD d).reverse ++ rest) F x5 x7 = LP g1 g2 d0 O rest (F ++ [r]) y5 y7 := by
  have hcy : ∀ (F : List D) (x5 x7 : Option PV), cRevL 3 O.reverse (E2 d0 O F x5 x7) = true := fun F x5 x7 => by
    simp [E2]
  refine D_ind (fun d hc => ?_) (fun w ds ih => ?_)
  · intro hp r hr rest F x5 x7 hl
    rw [foldD_leaf hc] at hr
    obtain ⟨e1, e2⟩ := step_leaf (g1 := g1) (g2 := g2) (d0 := d0) (O := O) (F := F) (x5 := x5) (x7 := x7) hp hc hr (by omega)
    refine ⟨some (.val d), x7, ?_⟩
    rw [preD_leaf hc]
    exact mLoop_step (hcy _ _ _) e1 e2
  · intro hp r hr rest F x5 x7 hl
    rw [foldD_call] at hr
    obtain ⟨rs, h1, h2⟩ := Option.bind_eq_some_iff.mp hr
    rw [nodD_call] at hl
    have hpd : solidL ds = true := solidL_call (by simpa using hp)
    have n1 := nod_len ds
    obtain ⟨y5, y7, e1⟩ := loop2L ih hpd rs h1 ([.tup (.str w :: ds)] ++ rest) F x5 x7 (by omega)
    obtain ⟨z7, e2, e3⟩ := step_call (g1 := g1) (g2 := g2) (d0 := d0) (O := O) (F := F) (x5 := y5) (x7 := y7) hpd (foldL_len h1) h2 (by omega) (by omega)
    refine ⟨some (.val (.tup (.str w :: ds))), z7, ?_⟩
    rw [preD_call, List.reverse_cons, List.append_assoc, e1]
    exact mLoop_step (hcy _ _ _) e2 e3
/-- what folded tells -/
theorem folded_ok {d r : D} (hp : solid d = true) (hn : nodD d < 100000) (h : foldD g1 g2 d = some r) : m_folded g1 g2 d = some r := by
  obtain ⟨y5, e1⟩ := loop1 (g1 := g1) (g2 := g2) (d := d) FUEL [d] [] none (by simp [FUEL]; exact hn) (by simp [solidL, hp]) (by simp; omega)
  rw [preL_one, List.nil_append] at e1
  obtain ⟨z5, z7, e2⟩ := loop2 (g1 := g1) (g2 := g2) (d0 := d) (O := preD d) d hp r h [] [] y5 none (by simp; omega)
  rw [List.append_nil, List.nil_append] at e2
  have e3 : LP g1 g2 d (preD d) [] [r] z5 z7 = some (.ok .nx, E2 d (preD d) [r] z5 z7) := by
    unfold LP mLoop
    simp [E2]
  rw [e3] at e2
  unfold m_folded
  rw [runC_run]
  have s0 : startP 9 [.val d, .cb 0, .cb 1] = [some (.val d), some (.cb 0), some (.cb 1), none, none, none, none, none, none] := rfl
  rw [s0]
  have hs : (mSeq (mSetO 3 (mMap .lst (mLst mNil)))
      (mSeq (mSetO 4 (mMap .lst (mLst (mCons (mVar 0) mNil))))
      (mSeq (mWhile (mB (mOp2 fGt (mLenL 4) (mPure (.int 0)))) (b_p_folded_1 g1 g2) FUEL)
      (mSeq (mSetO 6 (mMap .lst (mLst mNil)))
      (mSeq (mFor (mRevI 3) (cRevL 3) (gN 5) (b_p_folded_2 g1 g2))
      (mRet (mIxL 6 (mPure (.int 0))))))))) [some (.val d), some (.cb 0), some (.cb 1), none, none, none, none, none, none] = some (.ok (.rt (.val r)), E2 d (preD d) [r] z5 z7) := by
    refine (seq_nx (ε' := [some (.val d), some (.cb 0), some (.cb 1), some (.lst []), none, none, none, none, none]) (by simp)).trans ?_
    refine (seq_nx (ε' := E1 d [] [d] none) (by simp [E1])).trans ?_
    refine (seq_nx e1).trans ?_
    refine (seq_nx (ε' := E2 d (preD d) [] y5 none) (by simp [E1, E2])).trans ?_
    refine (seq_nx ((mFor_of (ds := (preD d).reverse) (ε' := E2 d (preD d) [] y5 none) (by simp [E2])).trans e2)).trans ?_
    simp [E2]
  rw [hs]
end
end KX

namespace KX
open PySem PySem.Spec PyProof.Rows L2 DL FL NdefX LamX

structure BK where
  ps : List Row
  ms : List Row
  as : List Ask
  cs : List Row
def BK.d (K : BK) : D := .tup [rowsD K.ps, rowsD K.ms, asksD K.as, rowsD K.cs, .tup []]
structure BK.Ok (K : BK) : Prop where
  pk : PlainsOk K.ps
  mo : MakersOk (namesOf K.ps) K.ms
  ao : AsksOk (namesOf K.ps) K.as
  th : th ∉ namesOf K.ps
  a1 : 1 ≤ K.as.length
  co : ∀ c ∈ K.cs, AskSorts (namesOf K.ps) c.2
  cl : K.cs.length ≤ 3
  ws : Words (wordsIn K.ps ++ (namesOf K.ms ++ (K.as.map (·.1) ++ namesOf K.cs)))
@[simp] theorem kd0 (K : BK) : fIx K.d (.int 0) = some (rowsD K.ps) := by simp [BK.d]
@[simp] theorem kd1 (K : BK) : fIx K.d (.int 1) = some (rowsD K.ms) := by simp [BK.d]
@[simp] theorem kd2 (K : BK) : fIx K.d (.int 2) = some (asksD K.as) := by simp [BK.d]
@[simp] theorem kd3 (K : BK) : fIx K.d (.int 3) = some (rowsD K.cs) := by simp [BK.d]
theorem row_named_all {α : Type} {toD : α → D} {nm : α → Str} (h : ∀ x, fIx (toD x) (.int 0) = some (.str (nm x))) (xs : List α) (w : Str) :
    m_p_row_named [.tup (xs.map toD), .str w] = some (match xs.find? (fun x => decide (nm x = w)) with | some x => toD x | none => .non) := by
  have lp := run_find (toD := toD) (g := gN 2) (b := b_p_row_named_1) (ε := [some (.val (.tup (xs.map toD))), some (.val (.str w)), none]) (fun x => decide (nm x = w)) (fun x => .val (toD x)) (fun x => [some (.val (.tup (xs.map toD))), some (.val (.str w)), some (.val (toD x))]) (fun x ε0 h0 => by
    refine ⟨[some (.val (.tup (xs.map toD))), some (.val (.str w)), some (.val (toD x))], ?_, ?_⟩
    · rcases h0 with rfl | ⟨y, rfl⟩ <;> simp
    · by_cases hx : nm x = w
      · simp [b_p_row_named_1, h, hx]
      · simp [b_p_row_named_1, h, hx]) xs [some (.val (.tup (xs.map toD))), some (.val (.str w)), none] (.inl rfl)
  obtain ⟨ε', e, _⟩ := lp
  have e' : mLoop (cYes (xs.map toD)) (gN 2) b_p_row_named_1 (xs.map toD) [some (.val (.tup (xs.map toD))), some (.val (.str w)), none] = _ := e
  cases hf : xs.find? (fun x => decide (nm x = w)) with
  | none =>
    rw [hf] at e'
    simp [m_p_row_named, e']
  | some x =>
    rw [hf] at e'
    simp [m_p_row_named, e']
def rowAt (rs : List Row) (w : Str) : Option Row := rs.find? fun x => decide (x.1 = w)
def askAt (rs : List Ask) (w : Str) : Option Ask := rs.find? fun x => decide (x.1 = w)
theorem maker_row_ok (K : BK) (w : Str) : m_p_maker_row [K.d, .str w] = some (match rowAt K.ms w with | some r => rowD r | none => .non) := by
  have := row_named_all (toD := rowD) (nm := (·.1)) fIx_rowD0 K.ms w
  have e : m_p_row_named [rowsD K.ms, .str w] = _ := this
  unfold rowAt
  cases hf : K.ms.find? (fun x => decide (x.1 = w)) with
  | none =>
    rw [hf] at e
    simp [m_p_maker_row, e]
  | some r =>
    rw [hf] at e
    simp [m_p_maker_row, e]
/-- the sorts and the sort of a word -/
def BK.row (K : BK) (w : Str) : Option (List Str × Str) := match rowAt K.ms w with
  | some r => some (r.2, th)
  | none => match askAt K.as w with
    | some a => some (a.2.1, a.2.2)
    | none => match rowAt K.cs w with
      | some c => some (c.2, th)
      | none => none
@[simp] theorem tru_rowD (r : Row) : truD (rowD r) = some true := by simp [rowD, truD]
@[simp] theorem tru_askD (r : Ask) : truD (askD r) = some true := by simp [askD, truD]
@[simp] theorem tru_non : truD .non = some false := rfl
@[simp] theorem isNon_row (r : Row) : isNon (rowD r) = false := rfl
@[simp] theorem isNon_ask (r : Ask) : isNon (askD r) = false := rfl
@[simp] theorem isNon_non : isNon .non = true := rfl
@[simp] theorem isNon_tup (ds : List D) : isNon (.tup ds) = false := rfl
@[simp] theorem isNon_str (x : Str) : isNon (.str x) = false := rfl
@[simp] theorem isNon_int (x : Int) : isNon (.int x) = false := rfl
@[simp] theorem isNon_strL (xs : List Str) : isNon (strL xs) = false := rfl
theorem rowAt_mem {rs : List Row} {w : Str} {r : Row} (h : rowAt rs w = some r) : r ∈ rs ∧ r.1 = w := ⟨List.mem_of_find?_eq_some h, by simpa using List.find?_some h⟩
theorem askAt_mem {rs : List Ask} {w : Str} {r : Ask} (h : askAt rs w = some r) : r ∈ rs ∧ r.1 = w := ⟨List.mem_of_find?_eq_some h, by simpa using List.find?_some h⟩
theorem askAt_none {rs : List Ask} {w : Str} (h : w ∉ rs.map (·.1)) : askAt rs w = none := by
  unfold askAt
  rw [List.find?_eq_none]
  intro x hx
  have : x.1 ≠ w := fun z => h (List.mem_map.mpr ⟨x, hx, z⟩)
  simpa using this
theorem rowAt_none {rs : List Row} {w : Str} (h : w ∉ namesOf rs) : rowAt rs w = none := by
  unfold rowAt
  rw [List.find?_eq_none]
  intro x hx
  have : x.1 ≠ w := fun z => h (List.mem_map.mpr ⟨x, hx, z⟩)
  simpa using this
theorem BK.Ok.maker_no_ask {K : BK} (h : K.Ok) {w : Str} {r : Row} (e : rowAt K.ms w = some r) : askAt K.as w = none := by
  obtain ⟨hr, hw⟩ := rowAt_mem e
  refine askAt_none fun q => ?_
  have := (List.nodup_append.mp h.ws.right.nd).2.2 w (by rw [← hw]; exact List.mem_map_of_mem hr) w (List.mem_append_left _ q)
  exact this rfl
theorem flat_strs (vs : List Str) : (vs.map D.str).all flatD = true := by
  rw [List.all_eq_true]
  intro x hx
  obtain ⟨v, _, rfl⟩ := List.mem_map.mp hx
  rfl
theorem in_strs (v : Str) (vs : List Str) : inD (.str v) (vs.map D.str) = decide (v ∈ vs) := by
  unfold inD
  rw [List.any_map]
  induction vs with
  | nil => simp
  | cons a vs ih =>
    rw [List.any_cons, ih]
    have e : eqV (vOf (D.str a)) (vOf (D.str v)) = decide (v = a) := by
      show (a == v) = decide (v = a)
      by_cases h : v = a
      · subst h; simp
      · have h' : ¬ a = v := fun z => h z.symm
        simp [h, h']
    show (eqV (vOf (D.str a)) (vOf (D.str v)) || _) = _
    rw [e]
    by_cases h : v = a <;> simp [h]
/-- the plain of a value -/
def BK.plain (K : BK) (v : Str) : Option Str := (K.ps.find? fun r => decide (v ∈ r.2)).map (·.1)
def optS : Option Str → D
  | some s => .str s
  | none => .non
theorem sort_of_value_ok (K : BK) (v : Str) : m_p_sort_of_value [K.d, .str v] = some (optS (K.plain v)) := by
  have lp := run_find (toD := rowD) (g := gTup 2 (gCons (gN 2) (gCons (gN 3) gNil))) (b := b_p_sort_of_value_1) (ε := [some (.val K.d), some (.val (.str v)), none, none]) (fun r => decide (v ∈ r.2)) (fun r => .val (.str r.1)) (fun r => [some (.val K.d), some (.val (.str v)), some (.val (.str r.1)), some (.val (strL r.2))]) (fun x ε0 h0 => by
    refine ⟨[some (.val K.d), some (.val (.str v)), some (.val (.str x.1)), some (.val (strL x.2))], ?_, ?_⟩
    · rcases h0 with rfl | ⟨y, rfl⟩ <;> simp [rowD]
    · have hin := in_strs v x.2
      have hfl := flat_strs x.2
      by_cases hx : v ∈ x.2
      · simp [b_p_sort_of_value_1, hx, strL, flatD, hin]
      · simp [b_p_sort_of_value_1, hx, strL, flatD, hin]) K.ps [some (.val K.d), some (.val (.str v)), none, none] (.inl rfl)
  obtain ⟨ε', e, _⟩ := lp
  have e' : mLoop (cYes (K.ps.map rowD)) (gTup 2 (gCons (gN 2) (gCons (gN 3) gNil))) b_p_sort_of_value_1 (K.ps.map rowD) [some (.val K.d), some (.val (.str v)), none, none] = _ := e
  unfold BK.plain
  cases hf : K.ps.find? (fun r => decide (v ∈ r.2)) with
  | none =>
    rw [hf] at e'
    simp [m_p_sort_of_value, e', optS]
  | some x =>
    rw [hf] at e'
    simp [m_p_sort_of_value, e', optS]
mutual
def soD (K : BK) (ss : List Str) : D → Option Str
  | .tup (.str w :: ds) => match K.row w with
    | some r => if soL K ss ds = r.1.map some then some r.2 else none
    | none => none
  | .int i => if 0 ≤ i then ss[i.toNat]? else none
  | .str v => K.plain v
  | _ => none
def soL (K : BK) (ss : List Str) : List D → List (Option Str)
  | [] => []
  | d :: ds => soD K ss d :: soL K ss ds
end
theorem soL_map (K : BK) (ss : List Str) : ∀ ds : List D, soL K ss ds = ds.map (soD K ss)
  | [] => by unfold soL; rfl
  | d :: ds => by
    conv => lhs; unfold soL
    rw [soL_map K ss ds]
    rfl
theorem soD_call (K : BK) (ss : List Str) (w : Str) (ds : List D) : soD K ss (.tup (.str w :: ds)) = match K.row w with
    | some r => if ds.map (soD K ss) = r.1.map some then some r.2 else none
    | none => none := by
  conv => lhs; unfold soD
  rw [soL_map]
@[simp] theorem soD_int (K : BK) (ss : List Str) (i : Int) : soD K ss (.int i) = if 0 ≤ i then ss[i.toNat]? else none := by unfold soD; rfl
@[simp] theorem soD_str (K : BK) (ss : List Str) (v : Str) : soD K ss (.str v) = K.plain v := by unfold soD; rfl
theorem atI_out {α : Type} {xs : List α} {i : Nat} (h : i < xs.length) : atI xs (i : Int) = some xs[i] := atI_nat (List.getElem?_eq_getElem h)
theorem eqv_optS (a b : Option Str) : PyData.eqv (optS a).py (optS b).py = decide (a = b) := by
  cases a <;> cases b
  · rfl
  · rfl
  · rfl
  · rename_i x y
    show (x == y) = _
    by_cases h : x = y <;> simp [h]
theorem pys_map (ds : List D) : pys ds = ds.map D.py := by
  induction ds with
  | nil => rfl
  | cons d ds ih =>
    conv => lhs; unfold pys
    rw [ih]
    rfl
theorem eqvAll_optS : ∀ as bs : List (Option Str), PyData.eqvAll ((as.map optS).map D.py) ((bs.map optS).map D.py) = decide (as = bs)
  | [], [] => rfl
  | [], _ :: _ => rfl
  | _ :: _, [] => rfl
  | a :: as, b :: bs => by
    simp only [List.map_cons, PyData.eqvAll]
    rw [eqv_optS, eqvAll_optS as bs]
    by_cases h : a = b <;> by_cases h2 : as = bs <;> simp [h, h2]
theorem depth_optS : ∀ as : List (Option Str), PyData.depthAll ((as.map optS).map D.py) = 0
  | [] => by simp [PyData.depthAll]
  | a :: as => by
    simp only [List.map_cons, PyData.depthAll]
    rw [depth_optS as]
    cases a <;> simp [optS, D.py, PyData.depth]
theorem plain_optS (as : List (Option Str)) : plainL (as.map optS) = true := plainL_of fun d hd => by
  obtain ⟨a, _, rfl⟩ := List.mem_map.mp hd
  cases a <;> simp [optS]
theorem fEqL_optS (as bs : List (Option Str)) : fEqL (as.map optS) (bs.map optS) = some (.bl (decide (as = bs))) := by
  unfold fEqL
  have e1 : (D.ilst (as.map optS)).py = .list ((as.map optS).map D.py) := by
    show PyData.list (pys _) = _
    rw [pys_map]
  have e2 : (D.ilst (bs.map optS)).py = .list ((bs.map optS).map D.py) := by
    show PyData.list (pys _) = _
    rw [pys_map]
  have hd : min (D.ilst (as.map optS)).py.depth (D.ilst (bs.map optS)).py.depth ≤ 60 := by
    rw [e1]
    simp only [PyData.depth, depth_optS]
    omega
  rw [if_pos ⟨plain_optS as, plain_optS bs, hd⟩, e1, e2]
  simp only [PyData.eqv]
  rw [eqvAll_optS]
theorem strs_optS (ss : List Str) : ss.map D.str = (ss.map some).map optS := by
  rw [List.map_map]
  rfl
end KX

namespace KX
open PySem PySem.Spec PyProof.Rows L2 DL FL NdefX LamX

mutual
def subD (ts : List D) : D → D
  | .tup (.str w :: ds) => .tup (.str w :: subL ts ds)
  | .int i => ts.getD i.toNat .non
  | d => d
def subL (ts : List D) : List D → List D
  | [] => []
  | d :: ds => subD ts d :: subL ts ds
end
theorem subL_map (ts : List D) : ∀ ds : List D, subL ts ds = ds.map (subD ts)
  | [] => by unfold subL; rfl
  | d :: ds => by
    conv => lhs; unfold subL
    rw [subL_map ts ds]
    rfl
@[simp] theorem subD_call (ts : List D) (w : Str) (ds : List D) : subD ts (.tup (.str w :: ds)) = .tup (.str w :: ds.map (subD ts)) := by
  conv => lhs; unfold subD
  rw [subL_map]
@[simp] theorem subD_int (ts : List D) (i : Int) : subD ts (.int i) = ts.getD i.toNat .non := by unfold subD; rfl
@[simp] theorem subD_str (ts : List D) (v : Str) : subD ts (.str v) = .str v := by unfold subD; rfl
/-- of what is typed: its leaves are variables and values -/
theorem leaf_cases {K : BK} {ss : List Str} {d : D} {s : Str} (h : soD K ss d = some s) (hc : isCallD d = false) : (∃ i : Nat, d = .int i ∧ ss[i]? = some s) ∨ ∃ v, d = .str v ∧ K.plain v = some s := by
  cases d with
  | int i =>
    rw [soD_int] at h
    split at h
    · refine .inl ⟨i.toNat, by rw [Int.toNat_of_nonneg (by assumption)], h⟩
    · cases h
  | str v => exact .inr ⟨v, rfl, by rwa [soD_str] at h⟩
  | tup ds =>
    cases ds with
    | nil => unfold soD at h; cases h
    | cons x ds => cases x <;> first | (simp at hc; done) | (unfold soD at h; cases h)
  | _ => unfold soD at h; cases h
theorem call_typed {K : BK} {ss : List Str} {w : Str} {ds : List D} {s : Str} (h : soD K ss (.tup (.str w :: ds)) = some s) : ∃ r, K.row w = some r ∧ ds.map (soD K ss) = r.1.map some ∧ r.2 = s := by
  rw [soD_call] at h
  cases hr : K.row w with
  | none => rw [hr] at h; cases h
  | some r =>
    rw [hr] at h
    dsimp only at h
    split at h
    · cases h
      exact ⟨r, rfl, by assumption, rfl⟩
    · cases h
theorem typed_parts {K : BK} {ss : List Str} {ds : List D} {rs : List Str} (h : ds.map (soD K ss) = rs.map some) : ∀ d ∈ ds, ∃ s ∈ rs, soD K ss d = some s := fun d hd => by
  have : soD K ss d ∈ rs.map some := by
    rw [← h]
    exact List.mem_map_of_mem hd
  obtain ⟨s, hs, e⟩ := List.mem_map.mp this
  exact ⟨s, hs, e.symm⟩
/-- things that fit sorts -/
def Fits (K : BK) (ss ss' : List Str) (ts : List D) : Prop := ts.length = ss.length ∧ ∀ (i : Nat) (s : Str), ss[i]? = some s → ∃ t, ts[i]? = some t ∧ soD K ss' t = some s
theorem sub_typed {K : BK} {ss ss' : List Str} {ts : List D} (hf : Fits K ss ss' ts) : ∀ (d : D) (s : Str), soD K ss d = some s → soD K ss' (subD ts d) = some s := by
  refine D_ind (fun d hc s h => ?_) (fun w ds ih s h => ?_)
  · rcases leaf_cases h hc with ⟨i, rfl, hi⟩ | ⟨v, rfl, hv⟩
    · obtain ⟨t, e, ht⟩ := hf.2 i s hi
      rw [subD_int, Int.toNat_natCast, List.getD_eq_getElem?_getD, e]
      exact ht
    · rw [subD_str, soD_str]
      exact hv
  · obtain ⟨r, hr, he, rfl⟩ := call_typed h
    rw [subD_call, soD_call, hr]
    dsimp only
    rw [if_pos]
    rw [List.map_map, ← he]
    refine List.map_congr_left fun d hd => ?_
    obtain ⟨s, _, hs⟩ := typed_parts he d hd
    rw [hs]
    exact ih d hd s hs
theorem words_short {w : Str} (h : okW w = true) : (w.cps.toList.all fun c => decide (c < 16 ^ 8)) = true ∧ w.cps.size ≤ 8 := ⟨(okW_short h).2, (okW_short h).1⟩
theorem row_word {K : BK} (h : K.Ok) {w : Str} {r : List Str × Str} (e : K.row w = some r) : okW w = true := by
  unfold BK.row at e
  have W := h.ws.right
  cases h1 : rowAt K.ms w with
  | some q =>
    obtain ⟨a, b⟩ := rowAt_mem h1
    exact W.ok w (by rw [← b]; exact List.mem_append_left _ (List.mem_map_of_mem a))
  | none =>
    rw [h1] at e
    cases h2 : askAt K.as w with
    | some q =>
      obtain ⟨a, b⟩ := askAt_mem h2
      exact W.ok w (by rw [← b]; exact List.mem_append_right _ (List.mem_append_left _ (List.mem_map_of_mem a)))
    | none =>
      rw [h2] at e
      dsimp only at e
      cases h3 : rowAt K.cs w with
      | some q =>
        obtain ⟨a, b⟩ := rowAt_mem h3
        exact W.ok w (by rw [← b]; exact List.mem_append_right _ (List.mem_append_right _ (List.mem_map_of_mem a)))
      | none => rw [h3] at e; cases e
theorem plain_word {K : BK} (h : K.Ok) {v s : Str} (e : K.plain v = some s) : okW v = true ∧ ∃ r ∈ K.ps, r.1 = s ∧ v ∈ r.2 := by
  unfold BK.plain at e
  obtain ⟨r, h1, rfl⟩ := Option.map_eq_some_iff.mp e
  have hm := List.mem_of_find?_eq_some h1
  have hv : v ∈ r.2 := by simpa using List.find?_some h1
  exact ⟨h.ws.left.ok v (List.mem_flatMap.mpr ⟨r, hm, List.mem_cons_of_mem _ hv⟩), r, hm, rfl, hv⟩
theorem row_len {K : BK} (h : K.Ok) {w : Str} {r : List Str × Str} (e : K.row w = some r) : r.1.length ≤ 3 := by
  unfold BK.row at e
  have as2 : ∀ {ss : List Str}, AskSorts (namesOf K.ps) ss → ss.length ≤ 2 := fun h => by
    rcases h with rfl | ⟨s, _, rfl⟩ <;> simp
  cases h1 : rowAt K.ms w with
  | some q =>
    rw [h1] at e
    cases e
    exact (h.mo.sorts q (rowAt_mem h1).1).1
  | none =>
    rw [h1] at e
    cases h2 : askAt K.as w with
    | some q =>
      rw [h2] at e
      cases e
      have := as2 (h.ao.ok q (askAt_mem h2).1).1
      dsimp only
      omega
    | none =>
      rw [h2] at e
      dsimp only at e
      cases h3 : rowAt K.cs w with
      | some q =>
        rw [h3] at e
        cases e
        have := as2 (h.co q (rowAt_mem h3).1)
        dsimp only
        omega
      | none => rw [h3] at e; cases e
theorem tameL_of : ∀ {ds : List D}, (∀ d ∈ ds, tame d = true) → tameL ds = true
  | [], _ => rfl
  | x :: ds, h => by
    simp only [tameL, Bool.and_eq_true]
    exact ⟨h x List.mem_cons_self, tameL_of fun d hd => h d (List.mem_cons_of_mem _ hd)⟩
theorem tameL_app : ∀ {a b : List D}, tameL a = true → tameL b = true → tameL (a ++ b) = true
  | [], b, _, h => h
  | x :: a, b, h1, h2 => by
    simp only [List.cons_append, tameL, Bool.and_eq_true] at h1 ⊢
    exact ⟨h1.1, tameL_app h1.2 h2⟩
theorem wtL_of {c : Nat} : ∀ {ds : List D}, (∀ d ∈ ds, wt d + 1 ≤ c * nodD d) → wtL ds ≤ c * nodL ds
  | [], _ => by simp [wtL]
  | x :: ds, h => by
    have h1 := h x List.mem_cons_self
    have h2 := wtL_of fun d hd => h d (List.mem_cons_of_mem _ hd)
    simp only [wtL, nodL_cons, Nat.mul_add]
    omega
/-- short terms: what repr and == take -/
structure Sh (d : D) : Prop where
  tm : tame d = true
  wt : wt d + 1 ≤ 20 * nodD d
theorem Sh.plain {d : D} (h : Sh d) : d.plain = true := (tame_plain d h.tm).1
theorem Sh.solid {d : D} (h : Sh d) : KX.solid d = true := solid_of_plain h.plain
theorem int_wt {i : Nat} (h : i < 1000) : wt (.int (i : Int)) ≤ 11 := by
  unfold wt
  split
  · omega
  · have : (i : Int).natAbs < 2 ^ 10 := by simp; omega
    have := PySem.Flt.log2_lt_of (by decide) this
    omega
theorem typed_sh {K : BK} (h : K.Ok) {ss : List Str} (hl : ss.length ≤ 1000) : ∀ (d : D) (s : Str), soD K ss d = some s → Sh d := by
  refine D_ind (fun d hc s e => ?_) (fun w ds ih s e => ?_)
  · rcases leaf_cases e hc with ⟨i, rfl, hi⟩ | ⟨v, rfl, hv⟩
    · have hlt : i < ss.length := (List.getElem?_eq_some_iff.mp hi).1
      refine ⟨?_, ?_⟩
      · simp only [tame, Bool.and_eq_true, decide_eq_true_eq]
        omega
      · rw [nodD_leaf hc]
        have := int_wt (i := i) (by omega)
        omega
    · obtain ⟨hv, _⟩ := plain_word h hv
      obtain ⟨w1, w2⟩ := words_short hv
      refine ⟨?_, ?_⟩
      · simp only [tame]
        exact w1
      · rw [nodD_leaf hc]
        simp only [FL.wt]
        omega
  · obtain ⟨r, hr, he, rfl⟩ := call_typed e
    obtain ⟨w1, w2⟩ := words_short (row_word h hr)
    have hd : ∀ d ∈ ds, Sh d := fun d hd => by
      obtain ⟨s, _, hs⟩ := typed_parts he d hd
      exact ih d hd s hs
    refine ⟨?_, ?_⟩
    · simp only [tame, tameL, Bool.and_eq_true]
      exact ⟨w1, tameL_of fun d h => (hd d h).tm⟩
    · rw [nodD_call]
      have := wtL_of (c := 20) fun d h => (hd d h).wt
      simp only [FL.wt, wtL]
      omega
mutual
def szD : D → Nat
  | .tup (.str _ :: ds) => szL ds + 1
  | _ => 0
def szL : List D → Nat
  | [] => 0
  | d :: ds => szD d + szL ds
end
@[simp] theorem szD_call (w : Str) (ds : List D) : szD (.tup (.str w :: ds)) = szL ds + 1 := by
  conv => lhs; unfold szD
theorem szD_leaf {d : D} (h : isCallD d = false) : szD d = 0 := by
  unfold szD
  split
  · simp at h
  · rfl
theorem szL_sum : ∀ ds : List D, szL ds = (ds.map szD).sum
  | [] => by unfold szL; rfl
  | d :: ds => by
    conv => lhs; unfold szL
    rw [szL_sum ds]
    simp
theorem ints_sum (ds : List D) (f : D → Nat) : intsL (ds.map fun d => D.int (f d : Nat)) = some (ds.map fun d => ((f d : Nat) : Int)) := by
  have := intsL_map (ds.map fun d => ((f d : Nat) : Int))
  rwa [List.map_map] at this
theorem sum_cast (xs : List D) (f : D → Nat) : (xs.map fun d => ((f d : Nat) : Int)).sum = (((xs.map f).sum : Nat) : Int) := by
  induction xs with
  | nil => rfl
  | cons x xs ih => simp [ih]
end KX

namespace KX
open PySem PySem.Spec PyProof.Rows L2 DL FL NdefX LamX

theorem dp_mem {d : D} : ∀ {ds : List D}, d ∈ ds → dp d ≤ dpL ds
  | [], h => nomatch h
  | x :: ds, h => by
    simp only [dpL]
    rcases List.mem_cons.mp h with rfl | h
    · omega
    · have := dp_mem h
      omega
theorem dpL_le {ds : List D} {n : Nat} (h : ∀ d ∈ ds, dp d ≤ n) : dpL ds ≤ n := by
  induction ds with
  | nil => simp [dpL]
  | cons x ds ih =>
    simp only [dpL]
    have h1 := h x List.mem_cons_self
    have h2 := ih fun d hd => h d (List.mem_cons_of_mem _ hd)
    omega
@[simp] theorem dp_call (w : Str) (ds : List D) : dp (.tup (.str w :: ds)) = dpL ds + 1 := by
  simp [dp, dpL]
theorem dp_leaf {K : BK} {ss : List Str} {d : D} {s : Str} (h : soD K ss d = some s) (hc : isCallD d = false) : dp d = 0 := by
  rcases leaf_cases h hc with ⟨i, rfl, hi⟩ | ⟨v, rfl, hv⟩ <;> simp [dp]
theorem map_id_D (ds : List D) : ds = ds.map fun d => d := by simp
theorem cut1 (w : D) (ds : List D) : cutG (w :: ds) (some 1) none = ds := cutG_1 _
theorem repr_sh {d : D} (h : Sh d) (hn : nodD d ≤ 40000) (hd : dp d ≤ 61) (hk : isCallD d = true ∨ (∃ i : Nat, d = .int i ∧ i < 1000) ∨ ∃ v, d = .str v) : ∃ z, fReprV [d] = some (.str z) := by
  rcases hk with hc | ⟨i, rfl, hi⟩ | ⟨v, rfl⟩
  · obtain ⟨w, ds, rfl⟩ := isCall_eq hc
    have ht : tameL (.str w :: ds) = true := by
      have := h.tm
      simpa only [tame] using this
    have hw := h.wt
    simp only [FL.wt] at hw
    have hd2 : dpL (.str w :: ds) ≤ 60 := by
      simp only [dp] at hd
      omega
    exact ⟨_, repr_tame ht (by omega) hd2⟩
  · have : (i : Int).natAbs < 2 ^ 10 := by simp; omega
    have := PySem.Flt.log2_lt_of (by decide) this
    exact ⟨toString (i : Int), by
      show (if _ then _ else none) = _
      rw [if_pos (by omega)]⟩
  · refine ⟨reprText v, ?_⟩
    show (if _ then _ else none) = _
    rw [if_pos]
    have ht := h.tm
    have hw := h.wt
    simp only [tame] at ht
    rw [nodD_leaf rfl] at hw
    simp only [FL.wt] at hw
    have hs : (PyData.str v).shown.length ≤ sizeLine := by
      refine PyData.shown_fits (B := 8) (by decide) (by decide) ?_ ?_
      · simp only [PyData.leavesShort]
        exact ht
      · simp only [PyData.weight]
        have : (2 : Nat) ^ 20 = 1048576 := by decide
        omega
    simpa only [PyData.shown] using hs
mutual
theorem eqv_self : ∀ d : D, PyData.eqv d.py d.py = true
  | .non => rfl
  | .bl b => by simp [D.py, PyData.eqv]
  | .int i => by simp [D.py, PyData.eqv]
  | .str x => by simp [D.py, PyData.eqv]
  | .ty _ => rfl
  | .ref _ => rfl
  | .edic => rfl
  | .tup ds => by
    simp only [D.py, PyData.eqv]
    exact eqvAll_self ds
  | .ilst ds => by
    simp only [D.py, PyData.eqv]
    exact eqvAll_self ds
theorem eqvAll_self : ∀ ds : List D, PyData.eqvAll (pys ds) (pys ds) = true
  | [] => rfl
  | d :: ds => by
    simp only [pys, PyData.eqvAll, eqv_self d, eqvAll_self ds, Bool.and_self]
end
theorem fEq_self {d : D} {neg : Bool} (h : tame d = true) (hd : dp d ≤ 60) : fEq neg d d = some (.bl (!neg)) := by
  obtain ⟨h1, _, _, _, _, h6⟩ := tame_plain d h
  have go : fEqP neg d d = some (.bl (!neg)) := by
    unfold fEqP
    rw [if_pos ⟨h1, h1, by rw [h6]; omega⟩, eqv_self]
    cases neg <;> rfl
  cases d with
  | str x => cases neg <;> simp
  | int x => cases neg <;> simp
  | _ => exact go
end KX

namespace KX
open PySem PySem.Spec PyProof.Rows L2 DL FL NdefX LamX

mutual
/-- the sort of what is made of makers, values and variables -/
def maD (K : BK) (ss : List Str) : D → Option Str
  | .tup (.str w :: ds) => match rowAt K.ms w with
    | some r => if maL K ss ds = r.2.map some then some th else none
    | none => none
  | .int i => if 0 ≤ i then ss[i.toNat]? else none
  | .str v => K.plain v
  | _ => none
def maL (K : BK) (ss : List Str) : List D → List (Option Str)
  | [] => []
  | d :: ds => maD K ss d :: maL K ss ds
end
theorem maL_map (K : BK) (ss : List Str) : ∀ ds : List D, maL K ss ds = ds.map (maD K ss)
  | [] => by unfold maL; rfl
  | d :: ds => by
    conv => lhs; unfold maL
    rw [maL_map K ss ds]
    rfl
theorem maD_call (K : BK) (ss : List Str) (w : Str) (ds : List D) : maD K ss (.tup (.str w :: ds)) = match rowAt K.ms w with
    | some r => if ds.map (maD K ss) = r.2.map some then some th else none
    | none => none := by
  conv => lhs; unfold maD
  rw [maL_map]
@[simp] theorem maD_int (K : BK) (ss : List Str) (i : Int) : maD K ss (.int i) = if 0 ≤ i then ss[i.toNat]? else none := by unfold maD; rfl
@[simp] theorem maD_str (K : BK) (ss : List Str) (v : Str) : maD K ss (.str v) = K.plain v := by unfold maD; rfl
section
variable {K : BK} {ss : List Str}
theorem made_call {w : Str} {ds : List D} {s : Str} (h : maD K ss (.tup (.str w :: ds)) = some s) : ∃ r, rowAt K.ms w = some r ∧ ds.map (maD K ss) = r.2.map some ∧ s = th := by
  rw [maD_call] at h
  cases hr : rowAt K.ms w with
  | none => rw [hr] at h; cases h
  | some r =>
    rw [hr] at h
    dsimp only at h
    split at h
    · cases h
      exact ⟨r, rfl, by assumption, rfl⟩
    · cases h
theorem made_parts {ds : List D} {rs : List Str} (h : ds.map (maD K ss) = rs.map some) : ∀ d ∈ ds, ∃ s ∈ rs, maD K ss d = some s := fun d hd => by
  have : maD K ss d ∈ rs.map some := by
    rw [← h]
    exact List.mem_map_of_mem hd
  obtain ⟨s, hs, e⟩ := List.mem_map.mp this
  exact ⟨s, hs, e.symm⟩
theorem made_leaf {d : D} {s : Str} (h : maD K ss d = some s) (hc : isCallD d = false) : (∃ i : Nat, d = .int i ∧ ss[i]? = some s) ∨ ∃ v, d = .str v ∧ K.plain v = some s := by
  cases d with
  | int i =>
    rw [maD_int] at h
    split at h
    · refine .inl ⟨i.toNat, by rw [Int.toNat_of_nonneg (by assumption)], h⟩
    · cases h
  | str v => exact .inr ⟨v, rfl, by rwa [maD_str] at h⟩
  | tup ds =>
    cases ds with
    | nil => unfold maD at h; cases h
    | cons x ds => cases x <;> first | (simp at hc; done) | (unfold maD at h; cases h)
  | _ => unfold maD at h; cases h
/-- what is made is typed -/
theorem made_typed : ∀ (d : D) (s : Str), maD K ss d = some s → soD K ss d = some s := by
  refine D_ind (fun d hc s h => ?_) (fun w ds ih s h => ?_)
  · rcases made_leaf h hc with ⟨i, rfl, hi⟩ | ⟨v, rfl, hv⟩
    · rw [soD_int, if_pos (by omega), Int.toNat_natCast]
      exact hi
    · rw [soD_str]
      exact hv
  · obtain ⟨r, hr, he, rfl⟩ := made_call h
    have e : K.row w = some (r.2, th) := by
      unfold BK.row
      rw [hr]
    rw [soD_call, e]
    dsimp only
    rw [if_pos]
    rw [← he]
    refine List.map_congr_left fun d hd => ?_
    obtain ⟨s, _, hs⟩ := made_parts he d hd
    rw [hs]
    exact ih d hd s hs
theorem made_sub {ss' : List Str} {ts : List D} (hl : ts.length = ss.length) (hf : ∀ (i : Nat) (s : Str), ss[i]? = some s → ∃ t, ts[i]? = some t ∧ maD K ss' t = some s) : ∀ (d : D) (s : Str), maD K ss d = some s → maD K ss' (subD ts d) = some s := by
  refine D_ind (fun d hc s h => ?_) (fun w ds ih s h => ?_)
  · rcases made_leaf h hc with ⟨i, rfl, hi⟩ | ⟨v, rfl, hv⟩
    · obtain ⟨t, e, ht⟩ := hf i s hi
      rw [subD_int, Int.toNat_natCast, List.getD_eq_getElem?_getD, e]
      exact ht
    · rw [subD_str, maD_str]
      exact hv
  · obtain ⟨r, hr, he, rfl⟩ := made_call h
    rw [subD_call, maD_call, hr]
    dsimp only
    rw [if_pos]
    rw [List.map_map, ← he]
    refine List.map_congr_left fun d hd => ?_
    obtain ⟨s, _, hs⟩ := made_parts he d hd
    rw [hs]
    exact ih d hd s hs
theorem made_leaf_ok (K : BK) {d : D} (hp : solid d = true) (hc : isCallD d = false) : g_p_is_made_of_leaf [K.d] [d] = some (optS (maD K [] d)) := by
  cases d with
  | int i =>
    rw [maD_int]
    simp [g_p_is_made_of_leaf, fIsi, tyP, subTy, optS]
  | str v =>
    rw [maD_str]
    simp [g_p_is_made_of_leaf, fIsi, tyP, subTy, sort_of_value_ok]
  | tup ds =>
    have e : maD K [] (.tup ds) = none := by
      cases ds with
      | nil => unfold maD; rfl
      | cons x ds => cases x <;> first | (unfold maD; rfl) | (simp at hc)
    rw [e]
    simp [g_p_is_made_of_leaf, fIsi, tyP, subTy, optS]
  | ty n => simp [solid] at hp
  | ref a => simp [solid] at hp
  | non => unfold maD; simp [g_p_is_made_of_leaf, fIsi, tyP, subTy, optS]
  | bl b => unfold maD; simp [g_p_is_made_of_leaf, fIsi, tyP, subTy, optS]
  | ilst ds => unfold maD; simp [g_p_is_made_of_leaf, fIsi, tyP, subTy, optS]
  | edic => unfold maD; simp [g_p_is_made_of_leaf, fIsi, tyP, subTy, optS]
theorem made_call_ok (K : BK) (w : Str) (os : List (Option Str)) : g_p_is_made_of_call [K.d] (.str w) (os.map optS) = some (optS (match rowAt K.ms w with
    | some r => if os = r.2.map some then some th else none
    | none => none)) := by
  have e1 := maker_row_ok K w
  cases hr : rowAt K.ms w with
  | none =>
    rw [hr] at e1
    simp [g_p_is_made_of_call, e1, optS]
  | some r =>
    rw [hr] at e1
    have e3 := fEqL_optS (r.2.map some) os
    rw [← strs_optS] at e3
    obtain ⟨L, hL⟩ : ∃ L, L = os.map optS := ⟨_, rfl⟩
    by_cases hq : os = r.2.map some
    · have hq' : r.2.map some = os := hq.symm
      simp only [hq', decide_true] at e3
      dsimp only
      rw [if_pos hq]
      rw [← hL] at e3 ⊢
      simp [g_p_is_made_of_call, e1, strL, e3, optS]
    · have hq' : ¬ r.2.map some = os := fun z => hq z.symm
      simp only [hq', decide_false] at e3
      dsimp only
      rw [if_neg hq]
      rw [← hL] at e3 ⊢
      simp [g_p_is_made_of_call, e1, strL, e3, optS]
theorem fold_made (K : BK) : ∀ d : D, solid d = true → foldD (g_p_is_made_of_leaf [K.d]) (g_p_is_made_of_call [K.d]) d = some (optS (maD K [] d)) := by
  refine D_ind (fun d hc hp => ?_) (fun w ds ih hp => ?_)
  · rw [foldD_leaf hc]
    exact made_leaf_ok K hp hc
  · have hpd : solidL ds = true := solidL_call (by simpa using hp)
    rw [foldD_call, foldL_of (f := fun d => optS (maD K [] d)) fun d hd => ih d hd (solidL_mem hpd hd)]
    have e : ds.map (fun d => optS (maD K [] d)) = (ds.map (maD K [])).map optS := by
      rw [List.map_map]
      rfl
    rw [e, maD_call]
    exact made_call_ok K w _
theorem eq_optS (o : Option Str) : fEq false (optS o) (.str (Str.ofString "thing")) = some (.bl (decide (o = some th))) := by
  cases o with
  | none => rfl
  | some s =>
    simp [optS]
theorem is_made_ok (K : BK) {d : D} (hp : solid d = true) (hn : nodD d < 100000) : m_p_is_made [K.d, d] = some (.bl (decide (maD K [] d = some th))) := by
  have e := folded_ok hp hn (fold_made K d hp)
  have e2 := eq_optS (maD K [] d)
  simp [m_p_is_made, e, e2]
end
end KX

namespace KX
open PySem PySem.Spec PyProof.Rows L2 DL FL NdefX LamX

def enumF {α : Type} : Nat → List α → List (Nat × α)
  | _, [] => []
  | k, x :: xs => (k, x) :: enumF (k + 1) xs
theorem enumF_mem {α : Type} : ∀ {xs : List α} {k i : Nat} {x : α}, (i, x) ∈ enumF k xs → k ≤ i ∧ xs[i - k]? = some x
  | [], k, i, x, h => nomatch h
  | y :: xs, k, i, x, h => by
    rcases List.mem_cons.mp h with h | h
    · cases h
      exact ⟨Nat.le_refl _, by simp⟩
    · obtain ⟨h1, h2⟩ := enumF_mem h
      refine ⟨by omega, ?_⟩
      obtain ⟨j, rfl⟩ : ∃ j, i = k + 1 + j := ⟨i - (k + 1), by omega⟩
      rw [show k + 1 + j - (k + 1) = j by omega] at h2
      rw [show k + 1 + j - k = j + 1 by omega]
      simpa using h2
theorem enumF_len {α : Type} : ∀ (xs : List α) (k : Nat), (enumF k xs).length = xs.length
  | [], _ => rfl
  | x :: xs, k => by simp [enumF, enumF_len xs]
theorem pairs_enum {α : Type} (f : α → D) : ∀ (xs : List α) (k : Nat), pairsFrom k (xs.map f) = (enumF k xs).map fun p => D.tup [.int (p.1 : Nat), f p.2]
  | [], _ => rfl
  | x :: xs, k => by
    simp only [List.map_cons, pairsFrom, enumF]
    rw [pairs_enum f xs]
/-- the places of a sort -/
def placesOf (sorts : List Str) (nm : Str) : List Nat := ((enumF 0 sorts).filter fun p => decide (p.2 = nm)).map (·.1)
theorem placesOf_mem {sorts : List Str} {nm : Str} {i : Nat} (h : i ∈ placesOf sorts nm) : sorts[i]? = some nm := by
  unfold placesOf at h
  obtain ⟨p, hp, rfl⟩ := List.mem_map.mp h
  obtain ⟨h1, h2⟩ := List.mem_filter.mp hp
  have := (enumF_mem (i := p.1) (x := p.2) h1).2
  simp at h2 this
  rw [this, h2]
theorem placesOf_len (sorts : List Str) (nm : Str) : (placesOf sorts nm).length ≤ sorts.length := by
  unfold placesOf
  rw [List.length_map]
  exact Nat.le_trans (List.length_filter_le _ _) (by rw [enumF_len]; exact Nat.le_refl _)

theorem rowAt_of : ∀ {rs : List Row} {r : Row}, (namesOf rs).Nodup → r ∈ rs → rowAt rs r.1 = some r
  | [], r, _, h => nomatch h
  | a :: rs, r, nd, h => by
    unfold namesOf at nd
    rw [List.map_cons, List.nodup_cons] at nd
    unfold rowAt
    rcases List.mem_cons.mp h with rfl | h
    · rw [List.find?_cons_of_pos (by simp)]
    · have ne : a.1 ≠ r.1 := fun z => nd.1 (by rw [z]; exact List.mem_map_of_mem h)
      rw [List.find?_cons_of_neg (by simpa using ne)]
      exact rowAt_of (rs := rs) nd.2 h
theorem askAt_of : ∀ {rs : List Ask} {r : Ask}, (rs.map (·.1)).Nodup → r ∈ rs → askAt rs r.1 = some r
  | [], r, _, h => nomatch h
  | a :: rs, r, nd, h => by
    rw [List.map_cons, List.nodup_cons] at nd
    unfold askAt
    rcases List.mem_cons.mp h with rfl | h
    · rw [List.find?_cons_of_pos (by simp)]
    · have ne : a.1 ≠ r.1 := fun z => nd.1 (by rw [z]; exact List.mem_map_of_mem h)
      rw [List.find?_cons_of_neg (by simpa using ne)]
      exact askAt_of (rs := rs) nd.2 h
section
variable {K : BK}
theorem BK.Ok.makers_nd (h : K.Ok) : (namesOf K.ms).Nodup := h.ws.right.left.nd
theorem BK.Ok.asks_nd (h : K.Ok) : (K.as.map (·.1)).Nodup := h.ws.right.right.left.nd
theorem BK.Ok.changes_nd (h : K.Ok) : (namesOf K.cs).Nodup := h.ws.right.right.right.nd
theorem row_maker (h : K.Ok) {r : Row} (hr : r ∈ K.ms) : K.row r.1 = some (r.2, th) := by
  unfold BK.row
  rw [rowAt_of h.makers_nd hr]
theorem not_maker (h : K.Ok) {w : Str} (hw : w ∈ K.as.map (·.1) ++ namesOf K.cs) : rowAt K.ms w = none := rowAt_none fun q =>
  (List.nodup_append.mp h.ws.right.nd).2.2 w q w hw rfl
theorem row_ask (h : K.Ok) {a : Ask} (ha : a ∈ K.as) : K.row a.1 = some (a.2.1, a.2.2) := by
  unfold BK.row
  rw [not_maker h (List.mem_append_left _ (List.mem_map_of_mem ha)), askAt_of h.asks_nd ha]
theorem row_change (h : K.Ok) {c : Row} (hc : c ∈ K.cs) : K.row c.1 = some (c.2, th) := by
  have hm : c.1 ∈ namesOf K.cs := List.mem_map_of_mem hc
  unfold BK.row
  rw [not_maker h (List.mem_append_right _ hm), askAt_none fun q => (List.nodup_append.mp h.ws.right.right.nd).2.2 c.1 q c.1 hm rfl, rowAt_of h.changes_nd hc]
theorem ask_sorts {names ss : List Str} (h : AskSorts names ss) : ∀ s ∈ ss, s = th ∨ s ∈ names := fun s hs => by
  rcases h with rfl | ⟨q, hq, rfl⟩
  · simp at hs
    exact .inl hs
  · simp at hs
    rcases hs with rfl | rfl
    · exact .inl rfl
    · exact .inr hq
theorem find_plain {v : Str} : ∀ {ps : List Row} {r : Row}, (wordsIn ps).Nodup → r ∈ ps → v ∈ r.2 → ps.find? (fun r => decide (v ∈ r.2)) = some r
  | [], r, _, h, _ => nomatch h
  | a :: ps, r, nd, h, hv => by
    unfold wordsIn at nd
    rw [List.flatMap_cons, List.nodup_append] at nd
    rcases List.mem_cons.mp h with rfl | h
    · rw [List.find?_cons_of_pos (by simpa using hv)]
    · have ne : v ∉ a.2 := fun z => nd.2.2 v (List.mem_cons_of_mem _ z) v (List.mem_flatMap.mpr ⟨r, h, List.mem_cons_of_mem _ hv⟩) rfl
      rw [List.find?_cons_of_neg (by simpa using ne)]
      exact find_plain nd.2.1 h hv
theorem plain_of (h : K.Ok) {v : Str} {r : Row} (hr : r ∈ K.ps) (hv : v ∈ r.2) : K.plain v = some r.1 := by
  unfold BK.plain
  rw [find_plain h.ws.left.nd hr hv]
  rfl
theorem plains_nd (h : K.Ok) : (namesOf K.ps).Nodup := names_sub.nodup h.ws.left.nd
end
def kvsOf (ps : List Row) : List (Key × D) := ps.map fun r => (.inr r.1, strL r.2)
@[simp] theorem pairKs_rows (ps : List Row) : pairKs (ps.map rowD) = some (kvsOf ps) := by
  induction ps with
  | nil => rfl
  | cons r ps ih =>
    show pairKs (.tup [.str r.1, strL r.2] :: ps.map rowD) = _
    unfold pairKs
    rw [keyOf_str]
    dsimp only
    rw [ih]
    rfl
theorem merge_nd : ∀ (kvs acc : List (Key × D)), (acc ++ kvs).Pairwise (fun a b => a.1 ≠ b.1) → mergeD acc kvs = acc ++ kvs
  | [], acc, _ => by simp [mergeD]
  | kv :: kvs, acc, h => by
    have ha : (acc.any fun x => decide (x.1 = kv.1)) = false := by
      rw [List.any_eq_false]
      intro x hx
      have := (List.pairwise_append.mp h).2.2 x hx kv List.mem_cons_self
      simpa using this
    have e : mergeD acc (kv :: kvs) = mergeD (acc ++ [kv]) kvs := by
      unfold mergeD
      rw [List.foldl_cons]
      congr 1
      unfold putD
      rw [if_neg (by rw [ha]; decide)]
    rw [e, merge_nd kvs (acc ++ [kv]) (by simpa using h)]
    simp
theorem kvs_nd {ps : List Row} (nd : (namesOf ps).Nodup) : (kvsOf ps).Pairwise (fun a b => a.1 ≠ b.1) := by
  unfold kvsOf
  rw [List.pairwise_map]
  unfold namesOf List.Nodup at nd
  rw [List.pairwise_map] at nd
  exact nd.imp fun h z => h (Sum.inr.inj z)
theorem valD_kvs : ∀ {ps : List Row} {r : Row}, (namesOf ps).Nodup → r ∈ ps → valD (kvsOf ps) (.inr r.1) = some (strL r.2)
  | [], r, _, h => nomatch h
  | a :: ps, r, nd, h => by
    unfold namesOf at nd
    rw [List.map_cons, List.nodup_cons] at nd
    show valD ((.inr a.1, strL a.2) :: kvsOf ps) _ = _
    rcases List.mem_cons.mp h with rfl | h
    · exact valD_pos rfl
    · have ne : a.1 ≠ r.1 := fun z => nd.1 (by rw [z]; exact List.mem_map_of_mem h)
      rw [valD_neg fun z => ne (Sum.inr.inj z)]
      exact valD_kvs (ps := ps) nd.2 h
theorem dict_row {ps : List Row} {r : Row} (nd : (namesOf ps).Nodup) (h : r ∈ ps) : valD (mergeD [] (kvsOf ps)) (.inr r.1) = some (strL r.2) := by
  rw [merge_nd (kvsOf ps) [] (by simpa using kvs_nd nd), List.nil_append]
  exact valD_kvs nd h
inductive JBk (ps : List Row) (n : Int) (rs0 : List Row) (x1 x2 x4 : Option PV) : List Row → PEnv → Prop
  | mk {p : PV} {rest : List Row} {L : List D} {x6 x7 : Option PV} (as : List Ask) (h1 : rs0 = as.map (fun a => (a.1, a.2.1)) ++ rest) (h2 : L = as.map askD) (h3 : ∀ a ∈ as, a.2.2 ∈ namesOf ps) (hp : Hand (n + as.length) p) :
      JBk ps n rs0 x1 x2 x4 rest [some p, x1, x2, some (.val (rowsD ps)), x4, some (.lst L), x6, x7, none]
theorem bare_kind_ok {n many : Int} {p : PV} (h : Hand n p) (hn : n ≤ 600000) (m0 : 0 ≤ many) (m1 : many ≤ 3) :
    ∃ (K : BK) (p' : PV), m_l_bare_kind [p, .val (.int many)] = some (.ok (.val K.d), [p', .val (.int many)]) ∧ K.Ok ∧ Hand (n + 100) p' := by
  obtain ⟨ws, p1, e1, hws, hwl, hp1⟩ := words_ok (many := 40) h (by omega) (by omega) (by omega)
  obtain ⟨ps, p2, ws1, e2, hps, T1, hp2⟩ := plains_ok (ws := ws) hp1 (by omega) (by omega)
  have l1 := T1.len
  have W1 := hws.perm T1.perm
  have hthp : th ∉ namesOf ps := fun q => W1.right.no_th (names_sub.subset q)
  obtain ⟨ms, p3, ws2, e3, hms, T2, hp3⟩ := makers_ok (ws := ws1) hp2 (by omega) (by omega) hps hthp
  have l2 := T2.len
  obtain ⟨m2, p5, e5, m10, m14, hp5⟩ := size_ok (few := 2) (most := 4) hp3 (by omega) (by omega) (by omega) (by omega)
  obtain ⟨rs, p6, ws3, e6, hrl, hrs, T3, hp6⟩ := askings_ok (ws := ws2) (many := m2) hp5 (by omega) (by omega) (by omega) (by omega) hps
  have l3 := T3.len
  have hpos := hps.pos
  have hfew := hps.few
  obtain ⟨ε', er, ⟨as, has, rfl, hao, hp7⟩⟩ := run_goes (toD := rowD) (c := cYes (rs.map rowD)) (g := gTup 2 (gCons (gN 6) (gCons (gN 7) gNil))) (b := b_l_bare_kind_1) (JBk ps (n + 70) rs (some (.val (.int many))) (some (.lst (ws3.map .str))) (some (.val (rowsD ms)))) (fun _ _ _ => rfl) (by
      rintro r rest ε ⟨as, h1, rfl, h3, hp⟩
      rename_i q x6 x7
      have hal : as.length ≤ 5 := by
        have : rs.length ≤ 5 := by omega
        rw [h1, List.length_append, List.length_map] at this
        omega
      obtain ⟨a, q2, e, hq, hq2⟩ := pickRow_ok hp (by omega) hpos (by omega)
      obtain ⟨r0, r1⟩ := r
      have hal2 : as.length ≤ 1000000 := by omega
      simp [rowD, b_l_bare_kind_1, e, hal2]
      have := JBk.mk (ps := ps) (n := n + 70) (rs0 := rs) (x1 := some (.val (.int many))) (x2 := some (.lst (ws3.map .str))) (x4 := some (.val (rowsD ms))) (rest := rest) (p := q2) (x6 := some (.val (.str r0))) (x7 := some (.val (strL r1))) (as ++ [(r0, r1, a.1)]) (by simp [h1]) rfl (fun x hx => by
        rcases List.mem_append.mp hx with z | z
        · exact h3 x z
        · rw [List.mem_singleton] at z
          subst z
          exact List.mem_map_of_mem hq) (by
        rw [List.length_append, List.length_singleton]
        exact hq2.mono (by omega))
      simpa [askD, rowD] using this)
    rs [some p6, some (.val (.int many)), some (.lst (ws3.map .str)), some (.val (rowsD ps)), some (.val (rowsD ms)), some (.lst []), none, none, none] (JBk.mk [] rfl rfl (fun _ h => nomatch h) (hp6.mono (by simp; omega)))
  rename_i p7 x6 x7
  simp only [List.append_nil] at has
  have hal : as.length = rs.length := by rw [has, List.length_map]
  have hasn : as.map (·.1) = namesOf rs := by
    unfold namesOf
    rw [has, List.map_map]
    rfl
  have aok : AsksOk (namesOf ps) as := ⟨by omega, fun a ha => ⟨hrs (a.1, a.2.1) (by rw [has]; exact List.mem_map.mpr ⟨a, ha, rfl⟩), hao a ha⟩⟩
  obtain ⟨d, p8, e8, d0, d4, hp8⟩ := take_ok (many := many + 1) hp7 (by omega) (by omega) (by omega)
  obtain ⟨cs, p9, ws4, e10, hcl, hcs, T4, hp9⟩ := askings_ok (ws := ws3) (many := d) hp8 (by omega) (by omega) (by omega) (by omega) hps
  have TT := ((T1.trans T2).trans T3).trans T4
  have W : Words (wordsIn ps ++ (namesOf ms ++ (as.map (·.1) ++ namesOf cs))) := by
    have := (hws.perm TT.perm).right
    rw [hasn]
    simpa [List.append_assoc] using this
  refine ⟨⟨ps, ms, as, cs⟩, p9, ?_, ⟨hps, hms, aok, hthp, by show 1 ≤ as.length; omega, hcs, by show cs.length ≤ 3; omega, W⟩, hp9.mono (by omega)⟩
  unfold m_l_bare_kind
  refine fnF_of (ε := [some p9, some (.val (.int many)), some (.lst (ws4.map .str)), some (.val (rowsD ps)), some (.val (rowsD ms)), some (.lst (as.map askD)), x6, x7, some (.lst (cs.map rowD))]) rfl ?_ (by simp)
  refine (seq_nx (ε' := [some p1, some (.val (.int many)), some (.lst (ws.map .str)), none, none, none, none, none, none]) (by
    simp [e1])).trans ?_
  refine (seq_nx (ε' := [some p2, some (.val (.int many)), some (.lst (ws1.map .str)), some (.val (rowsD ps)), none, none, none, none, none]) (by
    simp [e2])).trans ?_
  refine (seq_nx (ε' := [some p3, some (.val (.int many)), some (.lst (ws2.map .str)), some (.val (rowsD ps)), some (.val (rowsD ms)), some (.lst []), none, none, none]) (by
    simp [e3])).trans ?_
  refine (seq_nx ((mFor_of (ds := rs.map rowD) (ε' := [some p6, some (.val (.int many)), some (.lst (ws3.map .str)), some (.val (rowsD ps)), some (.val (rowsD ms)), some (.lst []), none, none, none]) (by
    simp [e5, e6])).trans er)).trans ?_
  refine (seq_nx (ε' := [some p9, some (.val (.int many)), some (.lst (ws4.map .str)), some (.val (rowsD ps)), some (.val (rowsD ms)), some (.lst (as.map askD)), x6, x7, some (.lst (cs.map rowD))]) (by
    simp [e8, e10])).trans ?_
  simp [BK.d, rowsD, asksD, FL.short]
end KX

namespace KX
open PySem PySem.Spec PyProof.Rows L2 DL FL NdefX LamX
/-- the first item of which something is so, any slots behind a miss -/
theorem run_find3 {α : Type} {toD : α → D} {g : GM} {b : M Res} (hit : α → Bool) (out : α → PV) (J : PEnv → Prop) {P : α → Prop}
    (h : ∀ x ε, P x → J ε → ∃ ε1 ε2, g (toD x) ε = some ε1 ∧ b ε1 = some (if hit x = true then .ok (.rt (out x)) else .ok .nx, ε2) ∧ (hit x = false → J ε2)) :
    ∀ (xs : List α) (ε : PEnv), (∀ x ∈ xs, P x) → J ε → ∃ ε', mLoop (fun _ => true) g b (xs.map toD) ε = some (match xs.find? hit with | some x => .ok (.rt (out x)) | none => .ok .nx, ε') ∧ (xs.find? hit = none → J ε')
  | [], ε, _, hJ => ⟨ε, rfl, fun _ => hJ⟩
  | x :: xs, ε, hP, hJ => by
    obtain ⟨ε1, ε2, e1, e2, k⟩ := h x ε (hP x List.mem_cons_self) hJ
    by_cases hx : hit x = true
    · refine ⟨ε2, ?_, fun z => ?_⟩
      · simp only [List.map_cons, mLoop, if_true, e1, e2]
        rw [if_pos hx, List.find?_cons_of_pos hx]
      · rw [List.find?_cons_of_pos hx] at z
        cases z
    · have hf : hit x = false := by simpa using hx
      obtain ⟨ε', e3, k3⟩ := run_find3 hit out J h xs ε2 (fun y hy => hP y (List.mem_cons_of_mem _ hy)) (k hf)
      refine ⟨ε', ?_, ?_⟩
      · simp only [List.map_cons, mLoop, if_true, e1, e2]
        rw [if_neg hx, List.find?_cons_of_neg hx]
        exact e3
      · rw [List.find?_cons_of_neg hx]
        exact k3
theorem run_find2 {α : Type} {toD : α → D} {g : GM} {b : M Res} (hit : α → Bool) (out : α → PV) (J : PEnv → Prop)
    (h : ∀ x ε, J ε → ∃ ε1 ε2, g (toD x) ε = some ε1 ∧ b ε1 = some (if hit x = true then .ok (.rt (out x)) else .ok .nx, ε2) ∧ (hit x = false → J ε2)) (xs : List α) (ε : PEnv) (hJ : J ε) :
    ∃ ε', mLoop (fun _ => true) g b (xs.map toD) ε = some (match xs.find? hit with | some x => .ok (.rt (out x)) | none => .ok .nx, ε') ∧ (xs.find? hit = none → J ε') :=
  run_find3 (P := fun _ => True) hit out J (fun x ε _ hJ => h x ε hJ) xs ε (fun _ _ => trivial) hJ
theorem seq_rt2 {p q : M Res} {ε ε' : PEnv} {v : PV} (h : p ε = some (.ok (.rt v), ε')) : mSeq p q ε = some (.ok (.rt v), ε') := by
  rw [mSeq_run]
  simp [h]
theorem head_find {α β : Type} (xs : List α) (p : α → Bool) (f : α → β) (z : β) : ∃ r, (xs.filter p).map f ++ [z] = (match xs.find? p with | some x => f x | none => z) :: r := by
  induction xs with
  | nil => exact ⟨[], rfl⟩
  | cons x xs ih =>
    by_cases h : p x = true
    · rw [List.filter_cons_of_pos h, List.find?_cons_of_pos h]
      exact ⟨_, rfl⟩
    · rw [List.filter_cons_of_neg h, List.find?_cons_of_neg h]
      exact ih
theorem fEq_optS (as bs : List (Option Str)) : fEq false (.ilst (as.map optS)) (.ilst (bs.map optS)) = some (.bl (decide (as = bs))) := by
  have := fEqL_optS as bs
  unfold fEqL at this
  show fEqP false _ _ = _
  unfold fEqP
  split at this
  · rename_i hc
    rw [if_pos ⟨by simpa [D.plain] using hc.1, by simpa [D.plain] using hc.2.1, hc.2.2⟩]
    simpa using this
  · cases this
/-- a maker, an ask or a change -/
structure AR where
  d : D
  w : Str
  r : List Str × Str
  h0 : fIx d (.int 0) = some (.str w)
  h1 : fIx d (.int 1) = some (strL r.1)
  h2 : ∃ ds, fAdd d (.tup [.str th]) = some (.tup ds) ∧ atI ds 2 = some (.str r.2)
def AR.row (x : Row) : AR := ⟨rowD x, x.1, (x.2, th), by simp, by simp, ⟨_, rfl, rfl⟩⟩
def AR.ask (a : Ask) : AR := ⟨askD a, a.1, (a.2.1, a.2.2), by simp, by simp, ⟨_, rfl, rfl⟩⟩
def BK.all (K : BK) : List AR := K.ms.map AR.row ++ (K.as.map AR.ask ++ K.cs.map AR.row)
theorem all_d (K : BK) : K.all.map AR.d = K.ms.map rowD ++ (K.as.map askD ++ K.cs.map rowD) := by
  unfold BK.all
  simp only [List.map_append, List.map_map]
  rfl
theorem all_find (K : BK) (w : Str) : (K.all.find? fun x => decide (x.w = w)).map AR.r = K.row w := by
  unfold BK.all BK.row
  rw [List.find?_append, List.find?_append, List.find?_map, List.find?_map, List.find?_map]
  have e1 : ((fun x : AR => decide (x.w = w)) ∘ AR.row) = fun x : Row => decide (x.1 = w) := rfl
  have e2 : ((fun x : AR => decide (x.w = w)) ∘ AR.ask) = fun x : Ask => decide (x.1 = w) := rfl
  rw [e1, e2]
  unfold rowAt askAt
  cases K.ms.find? (fun x => decide (x.1 = w)) with
  | some r => rfl
  | none =>
    cases K.as.find? (fun x => decide (x.1 = w)) with
    | some r => rfl
    | none =>
      cases K.cs.find? (fun x => decide (x.1 = w)) with
      | some r => rfl
      | none => rfl
theorem if_true' {c : M Bool} {a b : M Res} {ε ε' : PEnv} {r : Option (Out Res × PEnv)} (h : c ε = some (.ok true, ε')) (h2 : a ε' = r) : mIf c a b ε = r := by
  rw [mIf_run]
  simp [h, h2]
theorem mLc_of {p : M (List D)} {c : List D → PEnv → Bool} {g : GM} {tt : M Bool} {te : M D} {vs : List Nat} {ε ε1 : PEnv} {ds : List D} {r : Option (Out (List D) × PEnv)} (h : p ε = some (.ok ds, ε1)) (hl : ds.length ≤ 1000000) (h2 : mLcL (c ds) g tt te vs ds [] ε1 = r) : mLc p c g tt te vs ε = r := by
  rw [mLc_run]
  simp [h, hl, h2]
theorem nodL_sub {a b : List D} (h : a.Sublist b) : nodL a ≤ nodL b := by
  induction h with
  | slnil => exact Nat.le_refl _
  | cons x h ih => rw [nodL_cons]; omega
  | cons_cons x h ih => rw [nodL_cons, nodL_cons]; omega
theorem dpL_sub {a b : List D} (h : a.Sublist b) : dpL a ≤ dpL b := by
  induction h with
  | slnil => exact Nat.le_refl _
  | cons x h ih => simp only [dpL]; omega
  | cons_cons x h ih => simp only [dpL]; omega
theorem dpL_app (a b : List D) : dpL (a ++ b) = max (dpL a) (dpL b) := by
  induction a with
  | nil => simp [dpL]
  | cons x a ih => simp only [List.cons_append, dpL, ih]; omega
theorem solidL_app {a b : List D} (h : solidL a = true) (g : solidL b = true) : solidL (a ++ b) = true := solidL_of fun d hd => by
  rcases List.mem_append.mp hd with z | z
  · exact solidL_mem h z
  · exact solidL_mem g z
theorem solidL_sub {a b : List D} (s : a.Sublist b) (h : solidL b = true) : solidL a = true := solidL_of fun d hd => solidL_mem h (s.subset hd)
theorem cut_sub {α : Type} (xs : List α) (lo hi : Option Int) : (cutG xs lo hi).Sublist xs := (List.take_sublist _ _).trans (List.drop_sublist _ _)
theorem nodD_tup (ds : List D) : nodD (.tup ds) ≤ nodL ds + 1 := by
  cases hc : isCallD (.tup ds) with
  | false => rw [nodD_leaf hc]; omega
  | true =>
    obtain ⟨w, es, e⟩ := isCall_eq hc
    cases e
    rw [nodD_call, nodL_cons]
    omega
theorem dp_tup (ds : List D) : dp (.tup ds) = dpL ds + 1 := by simp [dp]
section
variable {K : BK} {ss : List Str}
def BK.all4 (K : BK) : List AR := K.ms.map AR.row ++ (K.as.map AR.ask ++ (K.cs.map AR.row ++ K.ps.map AR.row))
theorem all4_d (K : BK) : K.all4.map AR.d = K.ms.map rowD ++ (K.as.map askD ++ (K.cs.map rowD ++ K.ps.map rowD)) := by
  unfold BK.all4
  simp only [List.map_append, List.map_map]
  rfl
end
end KX

namespace KX
open PySem PySem.Spec PyProof.Rows L2 DL FL NdefX LamX

theorem seq_rt' {p q : M Res} {ε ε' : PEnv} {r : Res} (h : p ε = some (.ok r, ε')) (hr : r ≠ .nx) : mSeq p q ε = some (.ok r, ε') := by
  rw [mSeq_run]
  cases r with
  | nx => exact absurd rfl hr
  | _ => simp [h]
/-- how many nodes at most -/
def mc : Nat → Nat
  | 0 => 4
  | d + 1 => 1 + 3 * mc d
def EM (K : BK) (p : PV) (deep : Int) (x3 x4 x5 x6 : Option PV) : PEnv := [some p, some (.val K.d), some (.val (.int deep)), x3, x4, x5, x6]
section
variable {K : BK}
def lowM (K : BK) (deep : Int) : List Row := K.ms.filter fun r => decide (0 < deep) || decide (th ∉ r.2)
theorem lowM_ne (hK : K.Ok) (deep : Int) : lowM K deep ≠ [] := by
  obtain ⟨r, hr, hth⟩ := hK.mo.first
  have : r ∈ lowM K deep := List.mem_filter.mpr ⟨hr, by simp [hth]⟩
  exact List.ne_nil_of_mem this
theorem low_comp {m : FM} {deep : Int} {p : PV} {x3 x4 x5 x6 : Option PV} (h4 : x4 = none) :
    mLcL (cYes (K.ms.map rowD)) (gN 4) (t_l_made_1 m) (e_l_made_1 m) [4] (K.ms.map rowD) [] (EM K p deep x3 x4 x5 x6) = some (.ok ((lowM K deep).map rowD), EM K p deep x3 x4 x5 x6) := by
  subst h4
  refine comp_look (toD := rowD) (fun r => decide (0 < deep) || decide (th ∉ r.2)) rowD rfl K.ms fun r _ => ?_
  have h1 := in_strs th r.2
  have h2 := flat_strs r.2
  by_cases hd : 0 < deep
  · simp [EM, rowD, strL, t_l_made_1, e_l_made_1, hd]
  · by_cases hq : th ∈ r.2
    · simp only [hq, decide_true] at h1
      simp [EM, rowD, strL, t_l_made_1, e_l_made_1, flatD, h1, hq, hd]
    · simp only [hq, decide_false] at h1
      simp [EM, rowD, strL, t_l_made_1, e_l_made_1, flatD, h1, hq, hd]
/-- the promise -/
def MDP (K : BK) (m : FM) (deep : Int) (c dm : Nat) (hb : Int) : Prop := ∀ (p : PV) (h : Int), Hand h p → h ≤ hb → ∃ t p', m [p, .val K.d, .val (.int deep)] = some (.ok (.val t), [p', .val K.d, .val (.int deep)]) ∧ maD K [] t = some th ∧ nodD t ≤ c ∧ Hand (h + 4 * nodD t) p' ∧ dp t ≤ dm
inductive JMp (K : BK) (deep : Int) (h : Int) (c dm : Nat) (qs : List Str) (x3 x4 : Option PV) : List Str → PEnv → Prop
  | mk {p : PV} {rest : List Str} {x6 : Option PV} (done : List Str) (ds : List D) (h1 : qs = done ++ rest) (h2 : ds.map (maD K []) = done.map some) (h3 : nodL ds ≤ done.length * c) (h4 : ∀ d ∈ ds, dp d ≤ dm) (hp : Hand (h + 4 * nodL ds) p) :
      JMp K deep h c dm qs x3 x4 rest (EM K p deep x3 x4 (some (.val (.tup ds))) x6)
theorem parts_made (hK : K.Ok) {m : FM} {deep h hb : Int} {c dm : Nat} {qs : List Str} {p : PV} {x3 x4 x6 : Option PV} (hl : qs.length ≤ 3) (hp : Hand h p) (hc : 1 ≤ c) (hh : h + 12 * c ≤ 800000) (kid : ∀ q ∈ qs, q = th → MDP K m (deep - 1) c dm hb) (hhb : h + 8 * c ≤ hb) (hq : ∀ q ∈ qs, q = th ∨ q ∈ namesOf K.ps) :
    ∃ ds p' y6, mLoop (cYes (qs.map D.str)) (gN 6) (b_l_made_1 m) (qs.map D.str) (EM K p deep x3 x4 (some (.val (.tup []))) x6) = some (.ok .nx, EM K p' deep x3 x4 (some (.val (.tup ds))) y6) ∧
      ds.map (maD K []) = qs.map some ∧ nodL ds ≤ qs.length * c ∧ (∀ d ∈ ds, dp d ≤ dm) ∧ Hand (h + 4 * nodL ds) p' := by
  obtain ⟨ε', er, ⟨done, ds, h1, h2, h3, h4, hp'⟩⟩ := run_goes (toD := D.str) (c := cYes (qs.map D.str)) (g := gN 6) (b := b_l_made_1 m) (JMp K deep h c dm qs x3 x4) (fun _ _ _ => rfl) (by
      rintro q rest ε ⟨done, ds, h1, h2, h3, h4, hp'⟩
      rename_i p1 x6
      have hqm : q ∈ qs := by rw [h1]; simp
      have hlen : ds.length = done.length := by
        have := congrArg List.length h2
        simpa using this
      have hq3 : done.length + 1 ≤ 3 := by
        rw [h1, List.length_append, List.length_cons] at hl
        omega
      have hm2 : done.length * c ≤ 2 * c := Nat.mul_le_mul_right c (by omega)
      have hcl : ds.length + 1 ≤ 1000000 := by omega
      have fin : ∀ (t : D) (p2 : PV), maD K [] t = some q → nodD t ≤ c → dp t ≤ dm → Hand (h + 4 * nodL ds + 4 * nodD t) p2 → JMp K deep h c dm qs x3 x4 rest (EM K p2 deep x3 x4 (some (.val (.tup (ds ++ [t])))) (some (.val (.str q)))) := fun t p2 ht hn hd hp2 =>
        JMp.mk (done ++ [q]) (ds ++ [t]) (by rw [h1]; simp) (by simp [h2, ht]) (by
          rw [List.length_append, List.length_singleton, nodL_app, Nat.add_mul]
          simp
          omega) (fun d hd2 => by
          rcases List.mem_append.mp hd2 with z | z
          · exact h4 d z
          · rw [List.mem_singleton] at z
            exact z ▸ hd) (by
          refine hp2.mono ?_
          rw [nodL_app]
          simp
          omega)
      by_cases hth : q = th
      · obtain ⟨t, p2, e, ht, hn, hp2, hd⟩ := kid q hqm hth p1 _ hp' (by omega)
        have := fin t p2 (by rw [hth]; exact ht) hn hd hp2
        subst hth
        simp only [EM] at this ⊢
        simp [b_l_made_1, e, FL.short, hcl]
        exact this
      · have hqn : q ∈ namesOf K.ps := (hq q hqm).resolve_left hth
        obtain ⟨r, hr, hrs⟩ := List.mem_map.mp hqn
        have hv := hK.pk.vals r hr
        have hd := dict_row (plains_nd hK) hr
        rw [hrs] at hd
        obtain ⟨x, p2, e2, hx, hp2⟩ := pickT_ok (xs := r.2.map D.str) hp' (by omega) (List.ne_nil_of_length_pos (by rw [List.length_map]; omega)) (by simp; omega)
        obtain ⟨v, hv, rfl⟩ := List.mem_map.mp hx
        have := fin (.str v) p2 (by rw [maD_str, plain_of hK hr hv, hrs]) (by rw [nodD_leaf rfl]; exact hc) (by simp [dp]) (hp2.mono (by rw [nodD_leaf rfl]; omega))
        have hne : ¬ q = Str.ofString "thing" := hth
        have e2' : m_l_pick [p1, .val (strL r.2)] = some (.ok (.val (.str v)), [p2, .val (strL r.2)]) := e2
        simp only [EM] at this ⊢
        simp [b_l_made_1, hne, hd, e2', FL.short, hcl]
        exact this)
    qs (EM K p deep x3 x4 (some (.val (.tup []))) x6) (JMp.mk [] [] (by simp) rfl (by simp) (fun _ h => nomatch h) (by simpa using hp))
  rename_i p' y6
  rw [List.append_nil] at h1
  subst h1
  exact ⟨ds, p', y6, er, h2, h3, h4, hp'⟩
theorem mc_pos (d : Nat) : 1 ≤ mc d := by cases d <;> simp [mc]
theorem made_one (hK : K.Ok) {n : Nat} {deep h hb : Int} {c dm : Nat} {p : PV} (hp : Hand h p) (hc : 1 ≤ c) (hh : h + 1 + 12 * c ≤ 800000) (kid : ∀ r ∈ lowM K deep, ∀ q ∈ r.2, q = th → MDP K (m_l_made n) (deep - 1) c dm hb) (hhb : h + 1 + 8 * c ≤ hb) :
    ∃ t p', m_l_made (n + 1) [p, .val K.d, .val (.int deep)] = some (.ok (.val t), [p', .val K.d, .val (.int deep)]) ∧ maD K [] t = some th ∧ nodD t ≤ 1 + 3 * c ∧ Hand (h + 4 * nodD t) p' ∧ dp t ≤ dm + 1 := by
  have hml := hK.mo.few
  have hll : (lowM K deep).length ≤ K.ms.length := List.length_filter_le _ _
  obtain ⟨x, p1, e1, hx, hp1⟩ := pickL_ok (xs := (lowM K deep).map rowD) hp (by omega) (by simpa using lowM_ne hK deep) (by rw [List.length_map]; omega)
  obtain ⟨r, hr, rfl⟩ := List.mem_map.mp hx
  have hrm : r ∈ K.ms := (List.mem_filter.mp hr).1
  obtain ⟨s1, s2, s3⟩ := hK.mo.sorts r hrm
  obtain ⟨ds, p2, y6, el, hd1, hd2, hd3, hp2⟩ := parts_made hK (m := m_l_made n) (deep := deep) (h := h + 1) (hb := hb) (c := c) (dm := dm) (qs := r.2) (x3 := some (.lst ((lowM K deep).map rowD))) (x4 := some (.val (rowD r))) (x6 := none) s1 hp1 hc (by omega) (kid r hr) (by omega) s2
  have hlen : ds.length = r.2.length := by
    have := congrArg List.length hd1
    simpa using this
  have hm3 : r.2.length * c ≤ 3 * c := Nat.mul_le_mul_right c s1
  refine ⟨.tup (.str r.1 :: ds), p2, ?_, ?_, by rw [nodD_call]; omega, hp2.mono (by rw [nodD_call]; omega), by rw [dp_call]; have := dpL_le hd3; omega⟩
  · have lc := low_comp (K := K) (m := m_l_made n) (deep := deep) (p := p) (x3 := none) (x4 := none) (x5 := none) (x6 := none) rfl
    have hml2 : K.ms.length ≤ 1000000 := by omega
    have hdl : 1 + ds.length ≤ 1000000 := by omega
    simp only [EM] at lc el
    unfold m_l_made
    refine fnF_of (ε := [some p2, some (.val K.d), some (.val (.int deep)), some (.lst ((lowM K deep).map rowD)), some (.val (rowD r)), some (.val (.tup ds)), y6]) rfl ?_ (by simp)
    refine (seq_nx (ε' := [some p, some (.val K.d), some (.val (.int deep)), some (.lst ((lowM K deep).map rowD)), none, none, none]) (by
      simp [hml2, lc])).trans ?_
    refine (seq_nx (ε' := [some p1, some (.val K.d), some (.val (.int deep)), some (.lst ((lowM K deep).map rowD)), some (.val (rowD r)), none, none]) (by
      simp [e1])).trans ?_
    refine (seq_nx (ε' := [some p1, some (.val K.d), some (.val (.int deep)), some (.lst ((lowM K deep).map rowD)), some (.val (rowD r)), some (.val (.tup [])), none]) (by
      simp [FL.short])).trans ?_
    refine (seq_nx ((mFor_of (ds := r.2.map D.str) (ε' := [some p1, some (.val K.d), some (.val (.int deep)), some (.lst ((lowM K deep).map rowD)), some (.val (rowD r)), some (.val (.tup [])), none]) (by
      simp)).trans el)).trans ?_
    simp [FL.short, hdl]
  · rw [maD_call, rowAt_of hK.makers_nd hrm]
    dsimp only
    rw [if_pos hd1]
theorem made_ok (hK : K.Ok) : ∀ (d n : Nat), d + 1 ≤ n → d ≤ 5 → MDP K (m_l_made n) (d : Int) (mc d) (d + 1) (600000 - 100 * mc d)
  | 0, n, hn, _ => fun p h hp hh => by
    obtain ⟨n, rfl⟩ : ∃ j, n = j + 1 := ⟨n - 1, by omega⟩
    have hm : mc 0 = 4 := rfl
    obtain ⟨t, p', e, a, b, c, d⟩ := made_one hK (n := n) (deep := (0 : Nat)) (hb := 700000) (c := 1) (dm := 0) hp (by omega) (by omega) (fun r hr q hq hth => by
      have := (List.mem_filter.mp hr).2
      simp at this
      exact absurd (hth ▸ hq) this) (by omega)
    exact ⟨t, p', e, a, by omega, c, by omega⟩
  | d + 1, n, hn, hd => fun p h hp hh => by
    obtain ⟨n, rfl⟩ : ∃ j, n = j + 1 := ⟨n - 1, by omega⟩
    have hm : mc (d + 1) = 1 + 3 * mc d := rfl
    have hmp := mc_pos d
    have hmb : mc d ≤ 400 := by
      have : ∀ d, d ≤ 4 → mc d ≤ 400 := by decide
      exact this d (by omega)
    rw [hm] at hh
    have ih := made_ok hK d n (by omega) (by omega)
    obtain ⟨t, p', e, a, b, c, d'⟩ := made_one hK (n := n) (deep := ((d + 1 : Nat) : Int)) (hb := 600000 - 100 * mc d) (c := mc d) (dm := d + 1) hp hmp (by omega) (fun r hr q hq hth => by
      have e : ((d + 1 : Nat) : Int) - 1 = (d : Int) := by omega
      rw [e]
      exact ih) (by omega)
    exact ⟨t, p', e, a, by omega, c, by omega⟩
end
end KX

namespace KX
open PySem PySem.Spec PyProof.Rows L2 DL FL NdefX LamX
theorem pairs_zip : ∀ (ss : List Str) (ds : List D), DL.pairsOf (ss.map D.str) ds = (ss.zip ds).map fun p => .tup [.str p.1, p.2]
  | [], ds => by cases ds <;> simp [DL.pairsOf]
  | s :: ss, [] => by simp [DL.pairsOf]
  | s :: ss, d :: ds => by
    simp only [List.map_cons, List.zip_cons_cons, DL.pairsOf, pairs_zip ss ds]
section
variable {K : BK}
def fits1 (K : BK) (p : Str × D) : Bool := decide (maD K [] p.2 = some p.1)
theorem all_fit : ∀ (ss : List Str) (ds : List D), ds.length = ss.length → ((ss.zip ds).find? fun p => !fits1 K p) = none → ds.map (maD K []) = ss.map some
  | [], [], _, _ => rfl
  | s :: ss, d :: ds, hl, h => by
    rw [List.zip_cons_cons] at h
    by_cases hf : fits1 K (s, d) = true
    · rw [List.find?_cons_of_neg (by simp [hf])] at h
      have := all_fit ss ds (by simpa using hl) h
      have hf' : maD K [] d = some s := by simpa [fits1] using hf
      simp [this, hf']
    · rw [List.find?_cons_of_pos (by simp [hf])] at h
      cases h
theorem not_fit : ∀ (ss : List Str) (ds : List D) (x : Str × D), ((ss.zip ds).find? fun p => !fits1 K p) = some x → ds.map (maD K []) ≠ ss.map some
  | [], ds, x, h => by cases ds <;> simp at h
  | s :: ss, [], x, h => by simp at h
  | s :: ss, d :: ds, x, h => by
    rw [List.zip_cons_cons] at h
    by_cases hf : fits1 K (s, d) = true
    · rw [List.find?_cons_of_neg (by simp [hf])] at h
      have := not_fit ss ds x h
      intro z
      simp at z
      exact this (by simpa using z.2)
    · intro z
      simp at z
      exact hf (by simp [fits1, z.1])
/-- no name of plains is the word of things -/
theorem leaf_no (hK : K.Ok) {d : D} (hc : isCallD d = false) : maD K [] d ≠ some th := by
  intro z
  rcases made_leaf z hc with ⟨i, rfl, hi⟩ | ⟨v, rfl, hv⟩
  · simp at hi
  · obtain ⟨_, r, hr, hs, _⟩ := plain_word hK hv
    exact hK.th (by
      rw [← hs]
      unfold namesOf
      exact List.mem_map_of_mem hr)
theorem part_ok (hK : K.Ok) {n : Nat} {s : Str} {d : D} (hs : s = th ∨ s ∈ namesOf K.ps) (hd : solid d = true) (ih : m_l_is_made n [K.d, d] = some (.bl (decide (maD K [] d = some th)))) {x1 x2 : Option PV} :
    b_l_is_made_1 (m_l_is_made n) [some (.val K.d), x1, x2, none, some (.val (.str s)), some (.val d)] = some (if (!fits1 K (s, d)) = true then .ok (.rt (.val (.bl false))) else .ok .nx, [some (.val K.d), x1, x2, none, some (.val (.str s)), some (.val d)]) := by
  unfold fits1
  by_cases hth : s = th
  · subst hth
    by_cases h : maD K [] d = some th
    · simp only [h, decide_true] at ih
      simp [b_l_is_made_1, ih, h]
    · simp only [h, decide_false] at ih
      simp [b_l_is_made_1, ih, h]
  · have hqn : s ∈ namesOf K.ps := hs.resolve_left hth
    obtain ⟨r, hr, hrs⟩ := List.mem_map.mp hqn
    have hdr := dict_row (plains_nd hK) hr
    rw [hrs] at hdr
    have hne : ¬ s = Str.ofString "thing" := hth
    have other : ∀ (e : D), maD K [] e ≠ some s → solid e = true → (∀ v, e ≠ .str v) → ∃ t, tyP e = some t ∧ t ≠ "str" := fun e _ he hv => by
      cases e with
      | str v => exact absurd rfl (hv v)
      | ty n => simp [solid] at he
      | ref a => simp [solid] at he
      | _ => exact ⟨_, rfl, by decide⟩
    by_cases hstr : ∃ v, d = .str v
    · obtain ⟨v, rfl⟩ := hstr
      have hin := in_strs v r.2
      have hfl := flat_strs r.2
      have hiff : (maD K [] (.str v) = some s) ↔ v ∈ r.2 := by
        rw [maD_str]
        constructor
        · intro z
          obtain ⟨_, r2, hr2, hs2, hv2⟩ := plain_word hK z
          have : r2 = r := by
            have e1 := dict_row (plains_nd hK) hr2
            have e2 := rowAt_of (plains_nd hK) hr2
            have e3 := rowAt_of (plains_nd hK) hr
            rw [hs2, ← hrs, e3] at e2
            exact (Option.some.inj e2).symm
          exact this ▸ hv2
        · intro z
          rw [plain_of hK hr z, hrs]
      by_cases hv : v ∈ r.2
      · have h := hiff.mpr hv
        simp only [hv, decide_true] at hin
        simp [b_l_is_made_1, hne, hdr, fIsi, tyP, subTy, h, strL, flatD, hin]
      · have h : ¬ maD K [] (.str v) = some s := fun z => hv (hiff.mp z)
        simp only [hv, decide_false] at hin
        rw [maD_str] at h
        simp [b_l_is_made_1, hne, hdr, fIsi, tyP, subTy, h, strL, flatD, hin]
    · have h : maD K [] d ≠ some s := fun z => by
        cases hc : isCallD d with
        | false =>
          rcases made_leaf z hc with ⟨i, rfl, hi⟩ | ⟨v, rfl, hv⟩
          · simp at hi
          · exact hstr ⟨v, rfl⟩
        | true =>
          obtain ⟨w, ds, rfl⟩ := isCall_eq hc
          obtain ⟨_, _, _, e⟩ := made_call z
          exact hth e
      obtain ⟨t, ht, hts⟩ := other d h hd fun v z => hstr ⟨v, z⟩
      have hsub : subTy t "str" = false := by
        have : t = "NoneType" ∨ t = "bool" ∨ t = "int" ∨ t = "tuple" ∨ t = "list" ∨ t = "dict" := by
          cases d with
          | str v => exact absurd ⟨v, rfl⟩ hstr
          | ty n => cases ht
          | ref a => cases ht
          | _ => cases ht; simp
        rcases this with rfl | rfl | rfl | rfl | rfl | rfl <;> rfl
      simp [b_l_is_made_1, hne, fIsi, ht, hsub, h]
theorem law_is_made_ok (hK : K.Ok) : ∀ (d : D) (n : Nat), solid d = true → nodD d ≤ 100000 → dp d < n → m_l_is_made n [K.d, d] = some (.bl (decide (maD K [] d = some th))) := by
  have hml : K.ms.length ≤ 5 := hK.mo.few
  have hml2 : K.ms.length ≤ 1000000 := by omega
  refine D_ind (fun d hc n hs hn hd => ?_) (fun w ds ih n hs hn hd => ?_)
  · obtain ⟨n, rfl⟩ : ∃ m, n = m + 1 := ⟨n - 1, by omega⟩
    have hno := leaf_no hK hc
    simp only [hno, decide_false]
    cases d with
    | tup ds =>
      cases ds with
      | nil => simp [m_l_is_made, fIsi, tyP, subTy]
      | cons x ds =>
        have hx : solid x = true := by
          rw [solid_tup] at hs
          exact solidL_mem hs List.mem_cons_self
        cases x <;> first | (simp at hc; done) | (simp [solid] at hx; done) | simp [m_l_is_made, fIsi, tyP, subTy]
    | ty n => simp [solid] at hs
    | ref a => simp [solid] at hs
    | _ => simp [m_l_is_made, fIsi, tyP, subTy]
  · obtain ⟨n, rfl⟩ : ∃ m, n = m + 1 := ⟨n - 1, by omega⟩
    rw [dp_call] at hd
    rw [nodD_call] at hn
    rw [solid_tup] at hs
    have hsd := solidL_call hs
    have hdl := nod_len ds
    have hds : ds.length ≤ 1000000 := by omega
    have ec := comp_look (toD := rowD) (c := cYes (K.ms.map rowD)) (g := gN 3) (tt := t_l_is_made_1 (m_l_is_made n)) (te := e_l_is_made_1 (m_l_is_made n)) (vs := [3]) (ε := [some (.val K.d), some (.val (.tup (.str w :: ds))), none, none, none, none]) (fun r => decide (r.1 = w)) rowD rfl K.ms fun r hr => by
      simp [t_l_is_made_1, e_l_is_made_1]
    obtain ⟨r', e2⟩ := head_find K.ms (fun r => decide (r.1 = w)) rowD (.tup [.str "", .non])
    obtain ⟨F, hF⟩ : ∃ F, F = (K.ms.filter fun r => decide (r.1 = w)).map rowD := ⟨_, rfl⟩
    have hFl : F.length + 1 ≤ 1000000 := by
      have : F.length ≤ K.ms.length := by rw [hF, List.length_map]; exact List.length_filter_le _ _
      omega
    rw [← hF] at ec e2
    have hrow : K.ms.find? (fun r => decide (r.1 = w)) = rowAt K.ms w := rfl
    rw [hrow] at e2
    rw [maD_call]
    have s1 : ∀ q, mSeq (mIf (mOr (mNot (mB (mCB fIsi (mCons (mVar 1) (mCons (mPure (.ty "tuple")) mNil))))) (mOr (mB (mOp2 fEqU (mVar 1) (mTup mNil))) (mNot (mB (mCB fIsi (mCons (mIx (mVar 1) (mPure (.int 0))) (mCons (mPure (.ty "str")) mNil))))))) (mRet (mPure (.bl false))) (mPure .nx)) q [some (.val K.d), some (.val (.tup (.str w :: ds))), none, none, none, none] = q [some (.val K.d), some (.val (.tup (.str w :: ds))), none, none, none, none] := fun q => seq_nx (by simp [fIsi, tyP, subTy, FL.short])
    have s2 : ∀ q x r0, F ++ [.tup [.str "", .non]] = x :: r0 → mSeq (mSet 2 (mIxF (mCatFF (mLc (mItT (mIx (mVar 0) (mPure (.int 1)))) cYes (gN 3) (t_l_is_made_1 (m_l_is_made n)) (e_l_is_made_1 (m_l_is_made n)) [3]) (mLst (mCons (mTup (mCons (mPure (.str "")) (mCons (mPure .non) mNil))) mNil))) (mPure (.int 0)))) q [some (.val K.d), some (.val (.tup (.str w :: ds))), none, none, none, none] = q [some (.val K.d), some (.val (.tup (.str w :: ds))), some (.val x), none, none, none] := fun q x r0 h => seq_nx (by
      simp [hml2, ec, hFl, h, FL.short])
    cases hr : rowAt K.ms w with
    | none =>
      rw [hr] at e2
      dsimp only at e2 ⊢
      refine fnP_of (ε := [some (.val K.d), some (.val (.tup (.str w :: ds))), some (.val (.tup [.str "", .non])), none, none, none]) rfl ((s1 _).trans ((s2 _ _ _ e2).trans (seq_rt2 ?_)))
      simp
    | some r =>
      rw [hr] at e2
      dsimp only at e2 ⊢
      obtain ⟨hrm, hrw⟩ := rowAt_mem hr
      obtain ⟨t1, t2, t3⟩ := hK.mo.sorts r hrm
      by_cases hlen : ds.length = r.2.length
      · obtain ⟨ε', e, hn2⟩ := run_find3 (toD := fun p : Str × D => .tup [.str p.1, p.2]) (g := gTup 2 (gCons (gN 4) (gCons (gN 5) gNil))) (b := b_l_is_made_1 (m_l_is_made n)) (fun p => !fits1 K p) (fun _ => .val (.bl false)) (fun ε => ∃ x4 x5, ε = [some (.val K.d), some (.val (.tup (.str w :: ds))), some (.val (rowD r)), none, x4, x5]) (P := fun p => p ∈ r.2.zip ds) (fun p ε hp ⟨x4, x5, hε⟩ => by
          subst hε
          obtain ⟨m1, m2⟩ := List.of_mem_zip hp
          have := part_ok hK (n := n) (s := p.1) (d := p.2) (t2 _ m1) (solidL_mem hsd m2) (ih p.2 m2 n (solidL_mem hsd m2) (by have := nod_mem m2; omega) (by have := dp_mem m2; omega)) (x1 := some (.val (.tup (.str w :: ds)))) (x2 := some (.val (rowD r)))
          exact ⟨[some (.val K.d), some (.val (.tup (.str w :: ds))), some (.val (rowD r)), none, some (.val (.str p.1)), some (.val p.2)], _, by simp, this, fun _ => ⟨_, _, rfl⟩⟩) (r.2.zip ds) [some (.val K.d), some (.val (.tup (.str w :: ds))), some (.val (rowD r)), none, none, none] (fun _ h => h) ⟨none, none, rfl⟩
        rw [← pairs_zip] at e
        have eI : (mZip (mCons (mIx (mVar 2) (mPure (.int 1))) (mCons (mSlT (mVar 1) (mPart (mPure (.int 1))) mNoPart) mNil))) [some (.val K.d), some (.val (.tup (.str w :: ds))), some (.val (rowD r)), none, none, none] = some (.ok (DL.pairsOf (r.2.map D.str) ds), [some (.val K.d), some (.val (.tup (.str w :: ds))), some (.val (rowD r)), none, none, none]) := by
          simp [cut1, strL, rowD]
        have eF := (mFor_of (c := cYes) (g := gTup 2 (gCons (gN 4) (gCons (gN 5) gNil))) (b := b_l_is_made_1 (m_l_is_made n)) eI).trans e
        obtain ⟨N, hN⟩ : ∃ N : Int, N = (ds.length : Int) := ⟨_, rfl⟩
        have l1 : fLen [.tup (.str w :: ds)] = some (.int (N + 1)) := by rw [fLen_tup, hN]; simp
        have l2 : fLen [strL r.2] = some (.int N) := by rw [fLen_strL, ← hlen, hN]
        rw [fLen_tup] at l1
        rw [fLen_strL] at l2
        have s3 : ∀ q, mSeq (mIf (mOr (mB (mIsN (mIx (mVar 2) (mPure (.int 1))))) (mB (mOp2 (fEq true) (mCB fLen (mCons (mVar 1) mNil)) (mOp2 fAdd (mPure (.int 1)) (mCB fLen (mCons (mIx (mVar 2) (mPure (.int 1))) mNil)))))) (mRet (mPure (.bl false))) (mPure .nx)) q [some (.val K.d), some (.val (.tup (.str w :: ds))), some (.val (rowD r)), none, none, none] = q [some (.val K.d), some (.val (.tup (.str w :: ds))), some (.val (rowD r)), none, none, none] := fun q => seq_nx (by
          have : N + 1 = 1 + N := by omega
          simp at l1
          simp [isNon, strL, l1, l2, this])
        refine fnP_of (ε := ε') rfl ((s1 _).trans ((s2 _ _ _ e2).trans ((s3 _).trans ?_)))
        cases hf : (r.2.zip ds).find? (fun p => !fits1 K p) with
        | none =>
          rw [hf] at eF
          refine (seq_nx eF).trans ?_
          have := all_fit r.2 ds hlen hf
          simp [maL_map, this]
        | some x =>
          rw [hf] at eF
          refine (seq_rt2 eF).trans ?_
          have := not_fit r.2 ds x hf
          simp [maL_map, this]
      · have hno : ¬ maL K [] ds = r.2.map some := by
          rw [maL_map]
          intro z
          have := congrArg List.length z
          simp at this
          exact hlen this
        obtain ⟨N, hN⟩ : ∃ N : Int, N = (ds.length : Int) := ⟨_, rfl⟩
        obtain ⟨M, hM⟩ : ∃ M : Int, M = (r.2.length : Int) := ⟨_, rfl⟩
        have hne : ¬ N + 1 = 1 + M := by omega
        have l1 : fLen [.tup (.str w :: ds)] = some (.int (N + 1)) := by rw [fLen_tup, hN]; simp
        have l2 : fLen [strL r.2] = some (.int M) := by rw [fLen_strL, hM]
        rw [fLen_tup] at l1
        rw [fLen_strL] at l2
        refine fnP_of (ε := [some (.val K.d), some (.val (.tup (.str w :: ds))), some (.val (rowD r)), none, none, none]) rfl ((s1 _).trans ((s2 _ _ _ e2).trans (seq_rt2 ?_)))
        simp at l1
        rw [maL_map] at hno
        simp [maL_map, hno, l1, l2, hne]
end
end KX

namespace KX
open PySem PySem.Spec PyProof.Rows L2 DL FL NdefX LamX
theorem last_ok (xs : List Str) (h : 1 ≤ xs.length) : ∃ v, atI (xs.map D.str) (-1) = some (.str v) := by
  refine ⟨(xs.getLast?).getD "", ?_⟩
  obtain ⟨ys, y, rfl⟩ : ∃ ys y, xs = ys ++ [y] := by
    rcases List.eq_nil_or_concat xs with e | ⟨ys, y, e⟩
    · rw [e] at h; simp at h
    · exact ⟨ys, y, by rw [e]; simp⟩
  have e : ixN (ys ++ [y]).length (-1) = some ys.length := by
    unfold ixN
    rw [List.length_append, List.length_singleton, if_neg (by omega), if_pos (by omega)]
    congr 1
    omega
  unfold atI
  rw [List.length_map, e]
  simp
def Odd1 (t x : D) : Prop := solid x = true ∧ nodD x ≤ nodD t + 2 ∧ dp x ≤ dp t + 1
section
variable {K : BK}
inductive JOa (K : BK) (t : D) (p : PV) : List Row → PEnv → Prop
  | mk {rest : List Row} (L : List D) (x4 x5 : Option PV) (h0 : ∀ r ∈ rest, r ∈ K.ps) (h1 : ∀ x ∈ L, Odd1 t x) (h2 : 9 ≤ L.length) (h3 : L.length + 3 * rest.length ≤ 40) : JOa K t p rest [some p, some (.val K.d), some (.val t), some (.lst L), x4, x5, none]
inductive JOb (K : BK) (t : D) (p : PV) (x4 x5 : Option PV) : List AR → PEnv → Prop
  | mk {rest : List AR} (L : List D) (x6 : Option PV) (h1 : ∀ x ∈ L, Odd1 t x) (h2 : 9 ≤ L.length) (h3 : L.length + 3 * rest.length ≤ 100) : JOb K t p x4 x5 rest [some p, some (.val K.d), some (.val t), some (.lst L), x4, x5, x6]
theorem odd_ok (hK : K.Ok) {t : D} (ht : solid t = true) {h : Int} {p : PV} (hp : Hand h p) (hh : h ≤ 900000) :
    ∃ d p', m_l_odd [p, .val K.d, .val t] = some (.ok (.val d), [p', .val K.d, .val t]) ∧ solid d = true ∧ nodD d ≤ nodD t + 2 ∧ dp d ≤ dp t + 1 ∧ Hand (h + 1) p' := by
  have hml : K.ms.length ≤ 5 := hK.mo.few
  have hm1 := hK.mo.pos
  have hal := hK.ao.few
  have hcl := hK.cl
  have hfew := hK.pk.few
  have hpos := nodD_pos t
  have gstr : ∀ v : Str, Odd1 t (.str v) := fun v => ⟨rfl, by rw [nodD_leaf rfl]; omega, by simp [dp]⟩
  obtain ⟨ε1, er1, ⟨L1, x4, x5, _, g1, g2, g3⟩⟩ := run_goes (toD := rowD) (c := cYes (K.ps.map rowD)) (g := gTup 2 (gCons (gN 4) (gCons (gN 5) gNil))) (b := b_l_odd_1) (JOa K t p) (fun _ _ _ => rfl) (by
      rintro r rest ε ⟨L, x4, x5, h0, h1, h2, h3⟩
      have hr := h0 r List.mem_cons_self
      have hv := (hK.pk.vals r hr).1
      obtain ⟨v, hv1⟩ : ∃ v, atI (r.2.map D.str) 0 = some (.str v) := by
        obtain ⟨x, e, hm, _⟩ := atI_lt (xs := r.2.map D.str) (i := 0) (by omega) (by rw [List.length_map]; omega)
        obtain ⟨v, _, rfl⟩ := List.mem_map.mp hm
        exact ⟨v, e⟩
      obtain ⟨u, hu⟩ := last_ok r.2 hv
      simp only [List.length_cons] at h3
      have hl : L.length + 3 ≤ 1000000 := by omega
      have i0 : fIx (strL r.2) (.int 0) = some (.str v) := hv1
      have i1 : fIx (strL r.2) (.int (-1)) = some (.str u) := hu
      simp [rowD, b_l_odd_1, fNeg, i0, i1, FL.short, extL, hl]
      exact JOa.mk (L ++ [.str r.1, .str v, .str u]) _ _ (fun x hx => h0 x (List.mem_cons_of_mem _ hx)) (fun x hx => by
        rcases List.mem_append.mp hx with z | z
        · exact h1 x z
        · simp only [List.mem_cons, List.not_mem_nil, or_false] at z
          rcases z with rfl | rfl | rfl <;> exact gstr _) (by simp; omega) (by simp; omega))
    K.ps [some p, some (.val K.d), some (.val t), some (.lst [.int 0, .bl true, .non, .str "novalue", .tup [], .ilst [], t, .str "thing", .tup [.str "noword"]]), none, none, none]
    (JOa.mk _ _ _ (fun _ h => h) (fun x hx => by
      simp only [List.mem_cons, List.not_mem_nil, or_false] at hx
      rcases hx with rfl | rfl | rfl | rfl | rfl | rfl | rfl | rfl | rfl
      · exact ⟨rfl, by rw [nodD_leaf rfl]; omega, by simp [dp]⟩
      · exact ⟨rfl, by rw [nodD_leaf rfl]; omega, by simp [dp]⟩
      · exact ⟨rfl, by rw [nodD_leaf rfl]; omega, by simp [dp]⟩
      · exact gstr _
      · exact ⟨rfl, by rw [nodD_leaf rfl]; omega, by simp [dp, dpL]⟩
      · exact ⟨rfl, by rw [nodD_leaf rfl]; omega, by simp [dp, dpL]⟩
      · exact ⟨ht, by omega, by omega⟩
      · exact gstr _
      · exact ⟨rfl, by simp, by simp [dp, dpL]⟩) (by simp) (by simp; omega))
  obtain ⟨R, hR⟩ : ∃ R, R = K.ms.map rowD ++ (K.as.map askD ++ K.cs.map rowD) := ⟨_, rfl⟩
  have l1 : K.ms.length + K.as.length ≤ 1000000 := by omega
  have l2 : K.ms.length + K.as.length + K.cs.length ≤ 1000000 := by omega
  have l3 : K.ms.length + (K.as.length + K.cs.length) ≤ 1000000 := by omega
  have hall : K.all.length ≤ 13 := by
    unfold BK.all
    simp
    omega
  simp only [List.length_nil] at g3
  obtain ⟨ε2, er2, ⟨L2, x6, k1, k2, k3⟩⟩ := run_goes (toD := AR.d) (c := cYes (K.all.map AR.d)) (g := gN 6) (b := b_l_odd_2) (JOb K t p x4 x5) (fun _ _ _ => rfl) (by
      rintro a rest ε ⟨L, x6, h1, h2, h3⟩
      have a0 := a.h0
      simp only [List.length_cons] at h3
      have hl : L.length + 3 ≤ 1000000 := by omega
      simp [b_l_odd_2, a0, FL.short, extL, hl]
      exact JOb.mk (rest := rest) (L ++ [.str a.w, .tup [.str a.w], .tup [.str a.w, t]]) _ (fun x hx => by
        rcases List.mem_append.mp hx with z | z
        · exact h1 x z
        · simp only [List.mem_cons, List.not_mem_nil, or_false] at z
          rcases z with rfl | rfl | rfl
          · exact gstr _
          · exact ⟨rfl, by simp, by simp [dp, dpL]⟩
          · exact ⟨by simp [solidL, ht], by simp, by simp [dp, dpL]⟩) (by simp; omega) (by simp; omega))
    K.all [some p, some (.val K.d), some (.val t), some (.lst L1), x4, x5, none] (JOb.mk L1 none g1 g2 (by omega))
  rw [all_d, ← hR] at er2
  obtain ⟨d, p', e, hm, hp'⟩ := pickL_ok (xs := L2) hp (by omega) (fun z => by rw [z] at k2; simp at k2) (by simp only [List.length_nil] at k3; omega)
  obtain ⟨a1, a2, a3⟩ := k1 d hm
  refine ⟨d, p', ?_, a1, a2, a3, hp'⟩
  refine fnF_of (ε := [some p', some (.val K.d), some (.val t), some (.lst L2), x4, x5, x6]) rfl ?_ rfl
  refine (seq_nx (ε' := [some p, some (.val K.d), some (.val t), some (.lst [.int 0, .bl true, .non, .str "novalue", .tup [], .ilst [], t, .str "thing", .tup [.str "noword"]]), none, none, none]) (by simp [FL.short])).trans ?_
  refine (seq_nx ((mFor_of (ds := K.ps.map rowD) (by simp [rowsD])).trans er1)).trans ?_
  refine (seq_nx ((mFor_of (ds := R) (by simp [rowsD, asksD, l1, l2, l3, hR])).trans er2)).trans ?_
  simp [e]
end
end KX

namespace KX
open PySem PySem.Spec PyProof.Rows L2 DL FL NdefX LamX
section
variable {K : BK} {ss : List Str}
theorem bent_ok (hK : K.Ok) {N : Nat} (hN : N ≤ 1000) : ∀ (n : Nat) (t : D) (s : Str), maD K [] t = some s → dp t < n → nodD t ≤ N → ∀ (h : Int) (p : PV), Hand h p → h + 10 * n ≤ 900000 →
    ∃ d p', m_l_bent n [p, .val K.d, .val t] = some (.ok (.val d), [p', .val K.d, .val t]) ∧ solid d = true ∧ nodD d ≤ (2 * N + 1) * dp t + 2 * N + 4 ∧ dp d ≤ dp t + 1 ∧ Hand (h + 10 * n) p'
  | 0, t, s, _, hd, _, _, _, _, _ => by omega
  | n + 1, t, s, ht, hd, hn, h, p, hp, hh => by
    have hsh := typed_sh (ss := []) hK (by simp) t s (made_typed t s ht)
    have hso := hsh.solid
    obtain ⟨MB, hM⟩ : ∃ MB, MB = (2 * N + 1) * dp t := ⟨_, rfl⟩
    rw [← hM]
    have odd : ∀ q k, Hand k q → k ≤ h + 1 → ∃ d p', m_l_odd [q, .val K.d, .val t] = some (.ok (.val d), [p', .val K.d, .val t]) ∧ solid d = true ∧ nodD d ≤ MB + 2 * N + 4 ∧ dp d ≤ dp t + 1 ∧ Hand (h + 10 * (n + 1 : Nat)) p' := fun q k hq hk => by
      have hMN : nodD t ≤ N := hn
      obtain ⟨d, p', e, a1, a2, a3, a4⟩ := odd_ok hK hso hq (by omega)
      exact ⟨d, p', e, a1, by omega, by omega, a4.mono (by omega)⟩
    cases hc : isCallD t with
    | false =>
      obtain ⟨d, p', e, a1, a2, a3, a4⟩ := odd p h hp (by omega)
      refine ⟨d, p', ?_, a1, a2, a3, a4⟩
      refine fnF_of (ε := [some p', some (.val K.d), some (.val t), none, none, none]) rfl ?_ rfl
      refine seq_rt2 ?_
      rcases made_leaf ht hc with ⟨i, rfl, _⟩ | ⟨v, rfl, _⟩
      · simp [fIsi, tyP, subTy, e]
      · simp [fIsi, tyP, subTy, e]
    | true =>
      obtain ⟨w, ds, rfl⟩ := isCall_eq hc
      obtain ⟨r, hr, he, rfl⟩ := made_call ht
      obtain ⟨hr3, _, _⟩ := hK.mo.sorts r (rowAt_mem hr).1
      have hlen : ds.length = r.2.length := by
        have := congrArg List.length he
        simpa using this
      obtain ⟨d1, p1, e1, b0, b1, hp1⟩ := take_ok (many := 4) hp (by omega) (by omega) (by omega)
      by_cases hz : d1 = 0
      · subst hz
        obtain ⟨d, p', e, a1, a2, a3, a4⟩ := odd p1 _ hp1 (by omega)
        refine ⟨d, p', ?_, a1, a2, a3, a4⟩
        refine fnF_of (ε := [some p', some (.val K.d), some (.val (.tup (.str w :: ds))), none, none, none]) rfl ?_ rfl
        refine seq_rt2 ?_
        simp [fIsi, tyP, subTy, e1, e]
      · obtain ⟨at_, p2, e2, c0, c1, hp2⟩ := take_ok (many := ((ds.length : Nat) : Int) + 1) hp1 (by omega) (by omega) (by omega)
        obtain ⟨l, hl⟩ : ∃ l, l = D.str w :: ds := ⟨_, rfl⟩
        have hll : l.length = ds.length + 1 := by rw [hl]; rfl
        have hnl : nodL l = nodL ds + 1 := by rw [hl, nodL_cons, nodD_leaf rfl]; omega
        have hdl : dpL l = dpL ds := by rw [hl]; simp [dpL, dp]
        have hsl' : solidL l = true := by rw [hl]; simpa using hso
        have hnt : nodL ds + 1 ≤ N := by simpa using hn
        have hcut : ∀ lo hi, (cutG l lo hi).length ≤ ds.length + 1 := fun lo hi => by rw [← hll]; exact (cut_sub l lo hi).length_le
        have ncut : ∀ lo hi, nodL (cutG l lo hi) ≤ N := fun lo hi => by have := nodL_sub (cut_sub l lo hi); omega
        have dcut : ∀ lo hi, dpL (cutG l lo hi) ≤ dpL ds := fun lo hi => by have := dpL_sub (cut_sub l lo hi); omega
        have scut : ∀ lo hi, solidL (cutG l lo hi) = true := fun lo hi => solidL_sub (cut_sub l lo hi) hsl'
        have hdt : dp (.tup (.str w :: ds)) = dpL ds + 1 := dp_call w ds
        rw [hdt] at hd hM ⊢
        have fst : ∀ (q : M Res) , mSeq (mIf (mOr (mNot (mB (mCB fIsi (mCons (mVar 2) (mCons (mPure (.ty "tuple")) mNil))))) (mB (mOp2 (fEq false) (mV (mCall m_l_take (mArgS 0 (mArgV (mPure (.int 4)) (mPure []))))) (mPure (.int 0))))) (mRet (mV (mCall m_l_odd (mArgS 0 (mArgV (mVar 1) (mArgV (mVar 2) (mPure []))))))) (mPure .nx))
            (mSeq (mSet 3 (mV (mCall m_l_take (mArgS 0 (mArgV (mCB fLen (mCons (mVar 2) mNil)) (mPure [])))))) q) [some p, some (.val K.d), some (.val (.tup (.str w :: ds))), none, none, none] =
            q [some p2, some (.val K.d), some (.val (.tup (.str w :: ds))), some (.val (.int at_)), none, none] := fun q => by
          refine (seq_nx (ε' := [some p1, some (.val K.d), some (.val (.tup (.str w :: ds))), none, none, none]) (by simp [fIsi, tyP, subTy, e1, hz])).trans ?_
          exact seq_nx (by simp [e2])
        by_cases ha : at_ = 0
        · subst ha
          obtain ⟨R, hR⟩ : ∃ R, R = K.ms.map rowD ++ (K.as.map askD ++ K.cs.map rowD) := ⟨_, rfl⟩
          have hml : K.ms.length ≤ 5 := hK.mo.few
          have hm1 := hK.mo.pos
          have hal := hK.ao.few
          have hcl := hK.cl
          have l1 : K.ms.length + K.as.length ≤ 1000000 := by omega
          have l2 : K.ms.length + K.as.length + K.cs.length ≤ 1000000 := by omega
          have l3 : K.ms.length + (K.as.length + K.cs.length) ≤ 1000000 := by omega
          have hRl : R.length ≤ 1000000 := by
            rw [hR]
            simp
            omega
          have ec := comp_look (toD := AR.d) (c := cYes R) (g := gN 5) (tt := mPure true) (te := e_l_bent_1 (m_l_bent n)) (vs := [5]) (ε := [some p2, some (.val K.d), some (.val (.tup (.str w :: ds))), some (.val (.int 0)), none, none]) (fun _ => true) (fun x => .str x.w) rfl K.all fun x hx => by
            have := x.h0
            simp [e_l_bent_1, this]
          rw [all_d, ← hR, List.filter_eq_self.mpr fun _ _ => rfl] at ec
          obtain ⟨W, hW⟩ : ∃ W, W = K.all.map fun x => D.str x.w := ⟨_, rfl⟩
          rw [← hW] at ec
          have hWl : W.length = K.ms.length + (K.as.length + K.cs.length) := by
            rw [hW, List.length_map, BK.all]
            simp
          have hW0 : W ≠ [] := fun z => by
            rw [z] at hWl
            simp at hWl
            omega
          obtain ⟨x1, p3, e3, m1, hp3⟩ := pickL_ok hp2 (by omega) hW0 (by omega)
          obtain ⟨w1, rfl⟩ : ∃ w, x1 = .str w := by
            rw [hW] at m1
            obtain ⟨a, _, rfl⟩ := List.mem_map.mp m1
            exact ⟨_, rfl⟩
          obtain ⟨c2, hc2⟩ : ∃ c, c = cutG l none (some (-1)) := ⟨_, rfl⟩
          obtain ⟨c3, hc3⟩ : ∃ c, c = cutG l (some (-1)) none := ⟨_, rfl⟩
          have hl2 := hcut none (some (-1))
          have hl3 := hcut (some (-1)) none
          rw [← hc2] at hl2
          rw [← hc3] at hl3
          obtain ⟨x, p4, e4, m4, hp4⟩ := pickL_ok (xs := [D.tup (.str w1 :: ds), .tup c2, .tup (.str w :: (ds ++ c3)), .ilst (.str w :: ds), .tup (.str w :: (ds ++ [.tup (.str w :: ds)]))]) hp3 (by omega) (by simp) (by simp)
          refine ⟨x, p4, ?_, ?_, ?_, ?_, hp4.mono (by omega)⟩
          · refine fnF_of (ε := [some p4, some (.val K.d), some (.val (.tup (.str w :: ds))), some (.val (.int 0)), some (.val (.str w1)), none]) rfl ((fst _).trans (seq_rt2 (if_true' (ε' := [some p2, some (.val K.d), some (.val (.tup (.str w :: ds))), some (.val (.int 0)), none, none]) (by simp) ?_))) rfl
            have q1 : 1 + ds.length ≤ 1000000 := by omega
            have q2 : ds.length + 1 + c3.length ≤ 1000000 := by omega
            have q3 : ds.length + 1 + 1 ≤ 1000000 := by omega
            have hc2' : cutG (D.str w :: ds) none (some (-1)) = c2 := by rw [hc2, hl]
            have hc3' : cutG (D.str w :: ds) (some (-1)) none = c3 := by rw [hc3, hl]
            have its : items (.tup (D.str w :: ds)) = some (D.str w :: ds) := rfl
            refine (seq_nx (ε' := [some p3, some (.val K.d), some (.val (.tup (.str w :: ds))), some (.val (.int 0)), some (.val (.str w1)), none]) (by
              simp [rowsD, asksD, l1, l2, l3, ← hR, ec, hRl, e3])).trans ?_
            simp [cut1, q1, q2, q3, hc2', hc3', FL.short, fNeg, its, e4]
          · simp only [List.mem_cons, List.not_mem_nil, or_false] at m4
            have s2 := scut none (some (-1))
            have s3 := scut (some (-1)) none
            rw [← hc2] at s2
            rw [← hc3] at s3
            have sd : solidL ds = true := by
              rw [hl] at hsl'
              exact solidL_call hsl'
            rcases m4 with rfl | rfl | rfl | rfl | rfl
            · simp [solidL, sd]
            · simp [s2]
            · simp [solidL, solidL_app sd s3]
            · simp
            · simp [solidL, solidL_app sd (b := [.tup (.str w :: ds)]) (by simp [solidL, sd])]
          · simp only [List.mem_cons, List.not_mem_nil, or_false] at m4
            have s2 := ncut none (some (-1))
            have s3 := ncut (some (-1)) none
            rw [← hc2] at s2
            rw [← hc3] at s3
            rcases m4 with rfl | rfl | rfl | rfl | rfl
            · simp; omega
            · have := nodD_tup c2; omega
            · simp [nodL_app]; omega
            · rw [nodD_leaf rfl]; omega
            · simp [nodL_app]; omega
          · simp only [List.mem_cons, List.not_mem_nil, or_false] at m4
            have s2 := dcut none (some (-1))
            have s3 := dcut (some (-1)) none
            rw [← hc2] at s2
            rw [← hc3] at s3
            rcases m4 with rfl | rfl | rfl | rfl | rfl
            · simp
            · have := dp_tup c2; omega
            · simp [dpL_app]; omega
            · simp [dp, dpL]
            · simp [dpL_app, dp, dpL]
        · obtain ⟨x, hx, hxm, hxi⟩ := atI_lt (xs := l) (i := at_) c0 (by omega)
          have hxd : x ∈ ds := by
            have : at_.toNat = (at_.toNat - 1) + 1 := by omega
            rw [this, hl, List.getElem?_cons_succ] at hxi
            exact List.mem_of_getElem? hxi
          obtain ⟨q, _, hq⟩ := made_parts he x hxd
          have hxn := nod_mem hxd
          have hxp := dp_mem hxd
          obtain ⟨d, p3, e3, a1, a2, a3, hp3⟩ := bent_ok hK hN n x q hq (by omega) (by omega) (h + 1 + 1) p2 hp2 (by omega)
          obtain ⟨c1', hc1⟩ : ∃ c, c = cutG l none (some at_) := ⟨_, rfl⟩
          obtain ⟨c2, hc2⟩ : ∃ c, c = cutG l (some (at_ + 1)) none := ⟨_, rfl⟩
          have hl1 := hcut none (some at_)
          have hl2 := hcut (some (at_ + 1)) none
          have n1 := ncut none (some at_)
          have n2 := ncut (some (at_ + 1)) none
          have d1 := dcut none (some at_)
          have d2 := dcut (some (at_ + 1)) none
          have s1 := scut none (some at_)
          have s2 := scut (some (at_ + 1)) none
          rw [← hc1] at hl1 n1 d1 s1
          rw [← hc2] at hl2 n2 d2 s2
          have hmul : (2 * N + 1) * dp x ≤ (2 * N + 1) * dpL ds := Nat.mul_le_mul_left _ hxp
          have hMB : MB = (2 * N + 1) * dpL ds + (2 * N + 1) := by rw [hM, Nat.mul_add, Nat.mul_one]
          refine ⟨.tup (c1' ++ (d :: c2)), p3, ?_, ?_, ?_, ?_, hp3.mono (by omega)⟩
          · refine fnF_of (ε := [some p3, some (.val K.d), some (.val (.tup (.str w :: ds))), some (.val (.int at_)), none, none]) rfl ((fst _).trans ((seq_nx (ε' := [some p2, some (.val K.d), some (.val (.tup (.str w :: ds))), some (.val (.int at_)), none, none]) (by simp [ha])).trans ?_)) rfl
            rw [hl] at hc1 hc2 hx
            have q1 : c1'.length + 1 ≤ 1000000 := by omega
            have q2 : c1'.length + (1 + c2.length) ≤ 1000000 := by omega
            have q3 : c1'.length + 1 + c2.length ≤ 1000000 := by omega
            simp [← hc1, ← hc2, hx, e3, q1, q2, q3, FL.short]
          · rw [solid_tup]
            exact solidL_app s1 (by simp only [solidL, a1, s2, Bool.and_self])
          · have := nodD_tup (c1' ++ (d :: c2))
            rw [nodL_app, nodL_cons] at this
            omega
          · rw [dp_tup, dpL_app]
            simp only [dpL]
            omega
end
end KX

namespace KX
open PySem PySem.Spec PyProof.Rows L2 DL FL NdefX LamX
section
variable {K : BK}
abbrev ET (K : BK) (x0 x1 : Option PV) (p : PV) (x4 x5 x6 x7 x8 x9 : Option PV) : PEnv := [x0, x1, some p, some (.val K.d), x4, x5, x6, x7, x8, x9]
inductive JB (K : BK) (n : Int) (x0 x1 x4 x5 x6 x8 x9 : Option PV) : Nat → List D → PEnv → Prop
  | mk {p : PV} {i : Nat} (ts : List D) (h0 : ts.length = i) (h1 : ∀ t ∈ ts, solid t = true ∧ nodD t ≤ 40000 ∧ dp t ≤ 20) (hp : Hand (n + 600 * i) p) : JB K n x0 x1 x4 x5 x6 x8 x9 i ts (ET K x0 x1 p x4 x5 x6 none x8 x9)
theorem bents_ok (hK : K.Ok) {t : D} {s : Str} (ht : maD K [] t = some s) (hn : nodD t ≤ 600) (hd : dp t ≤ 16) {n : Int} {p : PV} (h : Hand n p) (hh : n ≤ 800000) {x0 x1 x4 x6 x8 x9 : Option PV} :
    ∃ ts p', mLcL (cYes (DL.intsFrom 0 6)) (gN 7) (mPure true) e_law_1 [7] (DL.intsFrom 0 6) [] (ET K x0 x1 p x4 (some (.val t)) x6 none x8 x9) = some (.ok ts, ET K x0 x1 p' x4 (some (.val t)) x6 none x8 x9) ∧
      ts.length = 6 ∧ (∀ t ∈ ts, solid t = true ∧ nodD t ≤ 40000 ∧ dp t ≤ 20) ∧ Hand (n + 3600) p' := by
  obtain ⟨acc, ε', er, ⟨ts, h0, h1, hp⟩⟩ := comp_range (n := 6) (c := cYes (DL.intsFrom 0 6)) (g := gN 7) (tt := mPure true) (te := e_law_1) (vs := [7]) (JB K n x0 x1 x4 (some (.val t)) x6 x8 x9) (fun _ => rfl) (by
      rintro i acc ε hi ⟨ts, h0, h1, hp⟩
      rename_i p1
      obtain ⟨d, p2, e, a1, a2, a3, hp2⟩ := bent_ok hK (N := 600) (by omega) 60 t s ht (by omega) hn (n + 600 * i) p1 hp (by omega)
      have hm : (2 * 600 + 1) * dp t ≤ (2 * 600 + 1) * 16 := Nat.mul_le_mul_left _ hd
      simp [e_law_1, e, ET]
      have := JB.mk (K := K) (n := n) (x0 := x0) (x1 := x1) (x4 := x4) (x5 := some (.val t)) (x6 := x6) (x8 := x8) (x9 := x9) (p := p2) (i := i + 1) (acc ++ [d]) (by simp [h0]) (fun x hx => by
        rcases List.mem_append.mp hx with z | z
        · exact h1 x z
        · rw [List.mem_singleton] at z
          subst z
          exact ⟨a1, by omega, by omega⟩) (hp2.mono (by omega))
      simpa [ET] using this)
    (ε := ET K x0 x1 p x4 (some (.val t)) x6 none x8 x9) (JB.mk [] rfl (fun _ z => nomatch z) (by simpa using h))
  rename_i p'
  exact ⟨acc, p', er, h0, h1, hp.mono (by omega)⟩
theorem repr_bl (b : Bool) : ∃ z, fReprV [.bl b] = some (.str z) := ⟨_, rfl⟩
theorem alike_loop (hK : K.Ok) {ts all : List D} (h : ∀ t ∈ ts, solid t = true ∧ nodD t ≤ 40000 ∧ dp t ≤ 20) {x0 x1 x2 x4 x5 x7 x9 : Option PV} {o : Option D} :
    ∃ (o' : Option D) (y9 : Option PV), mLoop (cSlot 6 all) (gN 8) b_law_1 ts [x0, x1, x2, some (.val K.d), x4, x5, some (.lst all), x7, o.map .val, x9] = some (.ok .nx, [x0, x1, x2, some (.val K.d), x4, x5, some (.lst all), x7, o'.map .val, y9]) := by
  obtain ⟨ε', e, _, o', y9, rfl⟩ := run_goes (toD := fun d : D => d) (c := cSlot 6 all) (g := gN 8) (b := b_law_1) (fun rest ε => (∀ t ∈ rest, solid t = true ∧ nodD t ≤ 40000 ∧ dp t ≤ 20) ∧ ∃ (o : Option D) (y9 : Option PV), ε = [x0, x1, x2, some (.val K.d), x4, x5, some (.lst all), x7, o.map .val, y9]) (fun _ ε ⟨_, o, y9, hε⟩ => by
      subst hε
      simp [sameL_refl]) (by
    rintro d rest ε ⟨hr, o, y9, rfl⟩
    obtain ⟨a1, a2, a3⟩ := hr d List.mem_cons_self
    have hr' := fun d hd => hr d (List.mem_cons_of_mem _ hd)
    have e1 := is_made_ok K a1 (by omega)
    have e2 := law_is_made_ok hK d 60 a1 (by omega) (by omega)
    obtain ⟨b, hb⟩ : ∃ b, b = decide (maD K [] d = some th) := ⟨_, rfl⟩
    rw [← hb] at e1 e2
    obtain ⟨z, e3⟩ := repr_bl b
    simp [b_law_1, e1, e2, e3, FL.short]
    exact ⟨hr', some d, rfl⟩) ts _ ⟨h, o, x9, rfl⟩
  rw [List.map_id'] at e
  exact ⟨o', y9, e⟩
theorem turn_ok (hK : K.Ok) {n : Int} {p : PV} (h : Hand n p) (hn : n ≤ 300000) {x0 x1 x4 x5 x6 x9 : Option PV} {o : Option D} :
    ∃ (p' : PV) (y5 y6 y9 : Option PV) (o' : Option D), b_law_2 (ET K x0 x1 p x4 x5 x6 none (o.map .val) x9) = some (.ok .nx, ET K x0 x1 p' x4 y5 y6 none (o'.map .val) y9) ∧ Hand (n + 8000) p' := by
  obtain ⟨d, p1, e1, d0, d1, hp1⟩ := take_ok (many := 5) h (by omega) (by omega) (by omega)
  obtain ⟨D0, hD0⟩ : ∃ D0 : Nat, d = (D0 : Int) := ⟨d.toNat, by omega⟩
  have hmc : mc D0 ≤ mc 4 := by
    have : D0 = 0 ∨ D0 = 1 ∨ D0 = 2 ∨ D0 = 3 ∨ D0 = 4 := by omega
    rcases this with rfl | rfl | rfl | rfl | rfl <;> decide
  have hmc4 : mc 4 = 364 := by decide
  obtain ⟨t, p2, e2, ht, hnt, hp2, hdt⟩ := made_ok hK D0 60 (by omega) (by omega) p1 _ hp1 (by omega)
  rw [← hD0] at e2
  obtain ⟨ts, p3, e3, hl3, hts, hp3⟩ := bents_ok hK ht (by omega) (by omega) hp2 (by omega) (x0 := x0) (x1 := x1) (x4 := x4) (x6 := x6) (x8 := o.map .val) (x9 := x9)
  have sht := typed_sh (ss := []) hK (by simp) t th (made_typed t th ht)
  have f1 := is_made_ok K sht.solid (by omega)
  simp only [ht, decide_true] at f1
  obtain ⟨o', y9, e4⟩ := alike_loop hK (ts := t :: ts) (all := t :: ts) (fun x hx => by
    rcases List.mem_cons.mp hx with rfl | z
    · exact ⟨sht.solid, by omega, by omega⟩
    · exact hts x z) (x0 := x0) (x1 := x1) (x2 := some p3) (x4 := x4) (x5 := some (.val t)) (x7 := none) (o := o) (x9 := x9)
  refine ⟨p3, some (.val t), some (.lst (t :: ts)), y9, o', ?_, hp3.mono (by omega)⟩
  have hr := rng1_ok (j := 6) (by omega) (by omega)
  simp only [ET] at e3 ⊢
  unfold b_law_2
  refine (seq_nx (ε' := [x0, x1, some p2, some (.val K.d), x4, some (.val t), x6, none, o.map .val, x9]) (by simp [e1, e2])).trans ?_
  have hg : mRng1 (mCons (mPure (.int 6)) mNil) [x0, x1, some p2, some (.val K.d), x4, some (.val t), x6, none, o.map .val, x9] = some (.ok (DL.intsFrom 0 6), [x0, x1, some p2, some (.val K.d), x4, some (.val t), x6, none, o.map .val, x9]) := mRng1_of (ds := [.int 6]) (by simp) hr
  have hlc : mLc (mRng1 (mCons (mPure (.int 6)) mNil)) cYes (gN 7) (mPure true) e_law_1 [7] [x0, x1, some p2, some (.val K.d), x4, some (.val t), x6, none, o.map .val, x9] = _ := mLc_of hg (by simp) e3
  have hl7 : 1 + ts.length ≤ 1000000 := by omega
  refine (seq_nx (ε' := [x0, x1, some p3, some (.val K.d), x4, some (.val t), some (.lst (t :: ts)), none, o.map .val, x9]) (by
    simp [hr, e3, FL.short, hl7])).trans ?_
  refine (seq_nx (ε' := [x0, x1, some p3, some (.val K.d), x4, some (.val t), some (.lst (t :: ts)), none, o.map .val, x9]) (by simp [f1])).trans ?_
  exact (mFor_of (ds := t :: ts) (by simp)).trans e4
theorem solid_rows (rs : List Row) : solid (rowsD rs) = true := by
  unfold rowsD
  rw [solid_tup]
  refine solidL_of fun d hd => ?_
  obtain ⟨r, _, rfl⟩ := List.mem_map.mp hd
  have : solidL (r.2.map D.str) = true := solidL_of fun d hd => by
    obtain ⟨v, _, rfl⟩ := List.mem_map.mp hd
    rfl
  simp [rowD, strL, solidL, this]
theorem solid_asks (rs : List Ask) : solid (asksD rs) = true := by
  unfold asksD
  rw [solid_tup]
  refine solidL_of fun d hd => ?_
  obtain ⟨r, _, rfl⟩ := List.mem_map.mp hd
  have : solidL (r.2.1.map D.str) = true := solidL_of fun d hd => by
    obtain ⟨v, _, rfl⟩ := List.mem_map.mp hd
    rfl
  simp [askD, strL, solidL, this]
theorem none_of (hK : K.Ok) : ∀ d ∈ [D.non, .int 0, .bl true, .tup [], .ilst [], .edic, .str "", K.d, rowsD K.ms], m_p_is_made [K.d, d] = some (.bl false) := fun d hd => by
  have go : ∀ d : D, solid d = true → isCallD d = false → m_p_is_made [K.d, d] = some (.bl false) := fun d h1 h2 => by
    have e := is_made_ok K h1 (by rw [nodD_leaf h2]; omega)
    have := leaf_no hK h2
    simp only [this, decide_false] at e
    exact e
  simp only [List.mem_cons, List.not_mem_nil, or_false] at hd
  rcases hd with rfl | rfl | rfl | rfl | rfl | rfl | rfl | rfl | rfl
  · exact go _ rfl rfl
  · exact go _ rfl rfl
  · exact go _ rfl rfl
  · exact go _ rfl rfl
  · exact go _ rfl rfl
  · exact go _ rfl rfl
  · exact go _ rfl rfl
  · exact go _ (by simp [BK.d, solidL, solid_rows, solid_asks]) rfl
  · refine go _ (solid_rows _) ?_
    unfold rowsD
    cases K.ms <;> rfl
theorem cell_ok {ns : List Int} (hl : ns.length ≤ 63) {k : Int} (k0 : 0 ≤ k) (k1 : k ≤ 100) {x2 x3 x4 x5 x6 x9 : Option PV} {o : Option D} :
    ∃ (y2 y3 y4 y5 y6 y9 : Option PV) (o' : Option D), b_law_3 [some (.val (.ilst (ns.map D.int))), some (.val (.int k)), x2, x3, x4, x5, x6, none, o.map .val, x9] =
      some (.ok .nx, [some (.val (.ilst (ns.map D.int))), some (.val (.int k)), y2, y3, y4, y5, y6, none, o'.map .val, y9]) := by
  obtain ⟨p, e1, hp⟩ := hand_ok hl k0 k1
  obtain ⟨K, p2, e2, hK, hp2⟩ := bare_kind_ok (many := 3) hp (by omega) (by omega) (by omega)
  obtain ⟨ε', er, p3, y4, y5, y6, y9, o', hp3, rfl⟩ := run_range (c := cYes (DL.intsFrom 0 6)) (n := 6) (g := gN 4) (b := b_law_2) (fun j ε => ∃ (p : PV) (x4 x5 x6 x9 : Option PV) (o : Option D), Hand (100 + 8000 * j) p ∧ ε = ET K (some (.val (.ilst (ns.map D.int)))) (some (.val (.int k))) p x4 x5 x6 none (o.map .val) x9) (fun _ => rfl) (by
      rintro j ε hj ⟨q, x4, x5, x6, x9, o, hq, rfl⟩
      obtain ⟨q2, y5, y6, y9, o', e, hq2⟩ := turn_ok hK hq (by omega) (x0 := some (.val (.ilst (ns.map D.int)))) (x1 := some (.val (.int k))) (x4 := some (.val (.int j))) (x5 := x5) (x6 := x6) (o := o) (x9 := x9)
      change Goes (b_law_2 (ET K (some (.val (.ilst (ns.map D.int)))) (some (.val (.int k))) q (some (.val (.int j))) x5 x6 none (o.map .val) x9)) _
      rw [e]
      exact ⟨rfl, q2, _, y5, y6, y9, o', hq2.mono (by omega), rfl⟩)
    (ε := ET K (some (.val (.ilst (ns.map D.int)))) (some (.val (.int k))) p2 x4 x5 x6 none (o.map .val) x9) ⟨p2, x4, x5, x6, x9, o, by simpa using hp2, rfl⟩
  refine ⟨some p3, some (.val K.d), y4, y5, y6, y9, o', ?_⟩
  unfold b_law_3
  refine (seq_nx (ε' := [some (.val (.ilst (ns.map D.int))), some (.val (.int k)), some p, x3, x4, x5, x6, none, o.map .val, x9]) (by
    simp [e1])).trans ?_
  refine (seq_nx (ε' := [some (.val (.ilst (ns.map D.int))), some (.val (.int k)), some p2, some (.val K.d), x4, x5, x6, none, o.map .val, x9]) (by
    simp [e2])).trans ?_
  have hr := rng1_ok (j := 6) (by omega) (by omega)
  refine (seq_nx ((mFor_of (mRng1_of (ds := [.int 6]) (by simp) hr)).trans er)).trans ?_
  have ec := comp_look (toD := fun d : D => d) (c := cYes [D.non, .int 0, .bl true, .tup [], .ilst [], .edic, .str "", K.d, rowsD K.ms]) (g := gN 8) (tt := mPure true) (te := e_law_2) (vs := [8]) (ε := [some (.val (.ilst (ns.map D.int))), some (.val (.int k)), some p3, some (.val K.d), y4, y5, y6, none, o'.map .val, y9]) (fun _ => true) (fun _ => .bl true) rfl [D.non, .int 0, .bl true, .tup [], .ilst [], .edic, .str "", K.d, rowsD K.ms] fun d hd => by
    have := none_of hK d hd
    cases o' <;> simp [e_law_2, this, FL.short]
  rw [List.map_id', List.filter_eq_self.mpr fun _ _ => rfl] at ec
  simp only [List.map_cons, List.map_nil] at ec
  simp [ET, FL.short, ec, bools]
end
theorem law_true : ∀ ns : List Int, ns.length ≤ 63 → m_law [.ilst (ns.map D.int)] = some (.bl true) := fun ns hl => by
  obtain ⟨z, hz, z0, z1⟩ : ∃ z : Int, (∀ ε : PEnv, ε[0]? = some (some (.val (.ilst (ns.map D.int)))) → (mCons (mCB fMax (mCons (mPure (.int 2)) (mCons (mCB fMin (mCons (mPure (.int 4)) (mCons (mCB fLen (mCons (mVar 0) mNil)) mNil))) mNil))) mNil) ε = some (.ok [.int z], ε)) ∧ 0 ≤ z ∧ z ≤ 100 := by
    obtain ⟨N, hN⟩ : ∃ N : Int, N = (ns.length : Int) := ⟨_, rfl⟩
    refine ⟨if (if N < 4 then N else 4) > 2 then (if N < 4 then N else 4) else 2, fun ε h => ?_, by split <;> omega, by split <;> omega⟩
    have e : fLen [.ilst (ns.map D.int)] = some (.int N) := by rw [fLen_ilst, List.length_map, hN]
    rw [fLen_ilst] at e
    simp [h, e]
    simp at e
    rw [e]
  obtain ⟨ε', er, x2, x3, x4, x5, x6, x9, x1, o, rfl⟩ := run_range (c := cYes (DL.intsFrom 0 z.toNat)) (n := z.toNat) (g := gN 1) (b := b_law_3) (fun k ε => ∃ (x2 x3 x4 x5 x6 x9 x1 : Option PV) (o : Option D), ε = [some (.val (.ilst (ns.map D.int))), x1, x2, x3, x4, x5, x6, none, o.map .val, x9]) (fun _ => rfl) (by
      rintro k ε hk ⟨x2, x3, x4, x5, x6, x9, x1, o, rfl⟩
      obtain ⟨K, hK⟩ : ∃ K : Int, K = (k : Nat) := ⟨_, rfl⟩
      obtain ⟨y2, y3, y4, y5, y6, y9, o', e⟩ := cell_ok hl (k := K) (by omega) (by omega) (x2 := x2) (x3 := x3) (x4 := x4) (x5 := x5) (x6 := x6) (o := o) (x9 := x9)
      rw [← hK]
      change Goes (b_law_3 [some (.val (.ilst (ns.map D.int))), some (.val (.int K)), x2, x3, x4, x5, x6, none, o.map .val, x9]) _
      rw [e]
      exact ⟨rfl, y2, y3, y4, y5, y6, y9, _, o', rfl⟩)
    (ε := [some (.val (.ilst (ns.map D.int))), none, none, none, none, none, none, none, none, none]) ⟨none, none, none, none, none, none, none, none, rfl⟩
  have hf := (mFor_of (c := cYes) (g := gN 1) (b := b_law_3) (mRng1_of (hz [some (.val (.ilst (ns.map D.int))), none, none, none, none, none, none, none, none, none] rfl) (rng1_ok (by omega) (by omega)))).trans er
  have hs := (seq_nx (q := mRet (mPure (.bl true))) hf).trans (show _ = some (.ok (.rt (.val (.bl true))), _) from rfl)
  exact fnP_of rfl hs
end KX

namespace KX
open PySem PySem.Spec PyProof.Rows L2 DL FL
theorem all_mk {l : PySem.W.OpenLaw} {w : World} {K : PySem.W.Frag} {h : Heap} {mg : Str → Option Value} {fa : Addr} (X : K.In h) (G : h.Ns mainGlobals mg) (hfa : mg "law" = some (.ref fa))
    {f0 : Addr} {od0 an0 : Option Addr} {sl0 : Array (Option Value)} {oc0 kV0 dc0 pm0 cd0 ct0 : Value} (a0 : PySem.W.nsIn K mainGlobals "row_named" = some (some (.ref f0))) (l0 : K.lookup f0 = some ⟨oc0, od0, .func (PySem.W.fnOf "row_named" "row_named" (defArgs s_p_row_named) (defBody s_p_row_named) (defScope s_p_row_named) .none kV0 dc0 pm0 an0 cd0 ct0), sl0⟩) (c0 : PySem.W.codeIn K cd0 "row_named" = true) (k0 : PySem.W.keepIn K (.ref f0) = true)
    {f1 : Addr} {od1 an1 : Option Addr} {sl1 : Array (Option Value)} {oc1 kV1 dc1 pm1 cd1 ct1 : Value} (a1 : PySem.W.nsIn K mainGlobals "maker_row" = some (some (.ref f1))) (l1 : K.lookup f1 = some ⟨oc1, od1, .func (PySem.W.fnOf "maker_row" "maker_row" (defArgs s_p_maker_row) (defBody s_p_maker_row) (defScope s_p_maker_row) .none kV1 dc1 pm1 an1 cd1 ct1), sl1⟩) (c1 : PySem.W.codeIn K cd1 "maker_row" = true) (k1 : PySem.W.keepIn K (.ref f1) = true)
    {f2 : Addr} {od2 an2 : Option Addr} {sl2 : Array (Option Value)} {oc2 kV2 dc2 pm2 cd2 ct2 : Value} (a2 : PySem.W.nsIn K mainGlobals "sort_of_value" = some (some (.ref f2))) (l2 : K.lookup f2 = some ⟨oc2, od2, .func (PySem.W.fnOf "sort_of_value" "sort_of_value" (defArgs s_p_sort_of_value) (defBody s_p_sort_of_value) (defScope s_p_sort_of_value) .none kV2 dc2 pm2 an2 cd2 ct2), sl2⟩) (c2 : PySem.W.codeIn K cd2 "sort_of_value" = true) (k2 : PySem.W.keepIn K (.ref f2) = true)
    {f3 : Addr} {od3 an3 : Option Addr} {sl3 : Array (Option Value)} {oc3 kV3 dc3 pm3 cd3 ct3 : Value} (a3 : PySem.W.nsIn K mainGlobals "is_call" = some (some (.ref f3))) (l3 : K.lookup f3 = some ⟨oc3, od3, .func (PySem.W.fnOf "is_call" "is_call" (defArgs s_p_is_call) (defBody s_p_is_call) (defScope s_p_is_call) .none kV3 dc3 pm3 an3 cd3 ct3), sl3⟩) (c3 : PySem.W.codeIn K cd3 "is_call" = true) (k3 : PySem.W.keepIn K (.ref f3) = true)
    {f4 : Addr} {od4 an4 : Option Addr} {sl4 : Array (Option Value)} {oc4 kV4 dc4 pm4 cd4 ct4 : Value} (a4 : PySem.W.nsIn K mainGlobals "folded" = some (some (.ref f4))) (l4 : K.lookup f4 = some ⟨oc4, od4, .func (PySem.W.fnOf "folded" "folded" (defArgs s_p_folded) (defBody s_p_folded) (defScope s_p_folded) .none kV4 dc4 pm4 an4 cd4 ct4), sl4⟩) (c4 : PySem.W.codeIn K cd4 "folded" = true) (k4 : PySem.W.keepIn K (.ref f4) = true)
    {f5 : Addr} {od5 an5 : Option Addr} {sl5 : Array (Option Value)} {oc5 kV5 dc5 pm5 ct5 : Value} {cc5 PP5 : Addr} {ce5 : Value} {cdd5 : Option Addr} {us5 : Array Value} {csl5 : Array (Option Value)} (a5 : PySem.W.nsIn K mainGlobals "is_made" = some (some (.ref f5))) (l5 : K.lookup f5 = some ⟨oc5, od5, .func (PySem.W.fnOf "is_made" "is_made" (defArgs s_p_is_made) (defBody s_p_is_made) (defScope s_p_is_made) .none kV5 dc5 pm5 an5 (.ref cc5) ct5), sl5⟩) (c5 : PySem.W.codeIn K (.ref cc5) "is_made" = true) (k5 : PySem.W.keepIn K (.ref f5) = true)
    (d5 : K.lookup cc5 = some ⟨ce5, cdd5, .fields us5, csl5⟩) (u5 : us5[11]? = some (.ref PP5)) (n5 : K.lookup PP5 = none) (h5 : PySem.W.codeHdIn K cc5 PP5 = true)
    {f6 : Addr} {od6 an6 : Option Addr} {sl6 : Array (Option Value)} {oc6 kV6 dc6 pm6 cd6 ct6 : Value} (a6 : PySem.W.nsIn K mainGlobals "_law_hand" = some (some (.ref f6))) (l6 : K.lookup f6 = some ⟨oc6, od6, .func (PySem.W.fnOf "_law_hand" "_law_hand" (defArgs s_l_hand) (defBody s_l_hand) (defScope s_l_hand) .none kV6 dc6 pm6 an6 cd6 ct6), sl6⟩) (c6 : PySem.W.codeIn K cd6 "_law_hand" = true) (k6 : PySem.W.keepIn K (.ref f6) = true)
    {f7 : Addr} {od7 an7 : Option Addr} {sl7 : Array (Option Value)} {oc7 kV7 dc7 pm7 cd7 ct7 : Value} (a7 : PySem.W.nsIn K mainGlobals "_law_take" = some (some (.ref f7))) (l7 : K.lookup f7 = some ⟨oc7, od7, .func (PySem.W.fnOf "_law_take" "_law_take" (defArgs s_l_take) (defBody s_l_take) (defScope s_l_take) .none kV7 dc7 pm7 an7 cd7 ct7), sl7⟩) (c7 : PySem.W.codeIn K cd7 "_law_take" = true) (k7 : PySem.W.keepIn K (.ref f7) = true)
    {f8 : Addr} {od8 an8 : Option Addr} {sl8 : Array (Option Value)} {oc8 kV8 dc8 pm8 cd8 ct8 : Value} (a8 : PySem.W.nsIn K mainGlobals "_law_pick" = some (some (.ref f8))) (l8 : K.lookup f8 = some ⟨oc8, od8, .func (PySem.W.fnOf "_law_pick" "_law_pick" (defArgs s_l_pick) (defBody s_l_pick) (defScope s_l_pick) .none kV8 dc8 pm8 an8 cd8 ct8), sl8⟩) (c8 : PySem.W.codeIn K cd8 "_law_pick" = true) (k8 : PySem.W.keepIn K (.ref f8) = true)
    {f9 : Addr} {od9 an9 : Option Addr} {sl9 : Array (Option Value)} {oc9 kV9 dc9 pm9 cd9 ct9 : Value} (a9 : PySem.W.nsIn K mainGlobals "_law_words" = some (some (.ref f9))) (l9 : K.lookup f9 = some ⟨oc9, od9, .func (PySem.W.fnOf "_law_words" "_law_words" (defArgs s_l_words) (defBody s_l_words) (defScope s_l_words) .none kV9 dc9 pm9 an9 cd9 ct9), sl9⟩) (c9 : PySem.W.codeIn K cd9 "_law_words" = true) (k9 : PySem.W.keepIn K (.ref f9) = true)
    {f10 : Addr} {od10 an10 : Option Addr} {sl10 : Array (Option Value)} {oc10 kV10 dc10 pm10 cd10 ct10 : Value} (a10 : PySem.W.nsIn K mainGlobals "_law_size" = some (some (.ref f10))) (l10 : K.lookup f10 = some ⟨oc10, od10, .func (PySem.W.fnOf "_law_size" "_law_size" (defArgs s_l_size) (defBody s_l_size) (defScope s_l_size) .none kV10 dc10 pm10 an10 cd10 ct10), sl10⟩) (c10 : PySem.W.codeIn K cd10 "_law_size" = true) (k10 : PySem.W.keepIn K (.ref f10) = true)
    {f11 : Addr} {od11 an11 : Option Addr} {sl11 : Array (Option Value)} {oc11 kV11 dc11 pm11 cd11 ct11 : Value} (a11 : PySem.W.nsIn K mainGlobals "_law_plains" = some (some (.ref f11))) (l11 : K.lookup f11 = some ⟨oc11, od11, .func (PySem.W.fnOf "_law_plains" "_law_plains" (defArgs s_l_plains) (defBody s_l_plains) (defScope s_l_plains) .none kV11 dc11 pm11 an11 cd11 ct11), sl11⟩) (c11 : PySem.W.codeIn K cd11 "_law_plains" = true) (k11 : PySem.W.keepIn K (.ref f11) = true)
    {f12 : Addr} {od12 an12 : Option Addr} {sl12 : Array (Option Value)} {oc12 kV12 dc12 pm12 cd12 ct12 : Value} (a12 : PySem.W.nsIn K mainGlobals "_law_makers" = some (some (.ref f12))) (l12 : K.lookup f12 = some ⟨oc12, od12, .func (PySem.W.fnOf "_law_makers" "_law_makers" (defArgs s_l_makers) (defBody s_l_makers) (defScope s_l_makers) .none kV12 dc12 pm12 an12 cd12 ct12), sl12⟩) (c12 : PySem.W.codeIn K cd12 "_law_makers" = true) (k12 : PySem.W.keepIn K (.ref f12) = true)
    {f13 : Addr} {od13 an13 : Option Addr} {sl13 : Array (Option Value)} {oc13 kV13 dc13 pm13 cd13 ct13 : Value} (a13 : PySem.W.nsIn K mainGlobals "_law_askings" = some (some (.ref f13))) (l13 : K.lookup f13 = some ⟨oc13, od13, .func (PySem.W.fnOf "_law_askings" "_law_askings" (defArgs s_l_askings) (defBody s_l_askings) (defScope s_l_askings) .none kV13 dc13 pm13 an13 cd13 ct13), sl13⟩) (c13 : PySem.W.codeIn K cd13 "_law_askings" = true) (k13 : PySem.W.keepIn K (.ref f13) = true)
    {f14 : Addr} {od14 an14 : Option Addr} {sl14 : Array (Option Value)} {oc14 kV14 dc14 pm14 cd14 ct14 : Value} (a14 : PySem.W.nsIn K mainGlobals "_law_bare_kind" = some (some (.ref f14))) (l14 : K.lookup f14 = some ⟨oc14, od14, .func (PySem.W.fnOf "_law_bare_kind" "_law_bare_kind" (defArgs s_l_bare_kind) (defBody s_l_bare_kind) (defScope s_l_bare_kind) .none kV14 dc14 pm14 an14 cd14 ct14), sl14⟩) (c14 : PySem.W.codeIn K cd14 "_law_bare_kind" = true) (k14 : PySem.W.keepIn K (.ref f14) = true)
    {f15 : Addr} {od15 an15 : Option Addr} {sl15 : Array (Option Value)} {oc15 kV15 dc15 pm15 cd15 ct15 : Value} (a15 : PySem.W.nsIn K mainGlobals "_law_made" = some (some (.ref f15))) (l15 : K.lookup f15 = some ⟨oc15, od15, .func (PySem.W.fnOf "_law_made" "_law_made" (defArgs s_l_made) (defBody s_l_made) (defScope s_l_made) .none kV15 dc15 pm15 an15 cd15 ct15), sl15⟩) (c15 : PySem.W.codeIn K cd15 "_law_made" = true) (k15 : PySem.W.keepIn K (.ref f15) = true)
    {f16 : Addr} {od16 an16 : Option Addr} {sl16 : Array (Option Value)} {oc16 kV16 dc16 pm16 cd16 ct16 : Value} (a16 : PySem.W.nsIn K mainGlobals "_law_is_made" = some (some (.ref f16))) (l16 : K.lookup f16 = some ⟨oc16, od16, .func (PySem.W.fnOf "_law_is_made" "_law_is_made" (defArgs s_l_is_made) (defBody s_l_is_made) (defScope s_l_is_made) .none kV16 dc16 pm16 an16 cd16 ct16), sl16⟩) (c16 : PySem.W.codeIn K cd16 "_law_is_made" = true) (k16 : PySem.W.keepIn K (.ref f16) = true)
    {f17 : Addr} {od17 an17 : Option Addr} {sl17 : Array (Option Value)} {oc17 kV17 dc17 pm17 cd17 ct17 : Value} (a17 : PySem.W.nsIn K mainGlobals "_law_odd" = some (some (.ref f17))) (l17 : K.lookup f17 = some ⟨oc17, od17, .func (PySem.W.fnOf "_law_odd" "_law_odd" (defArgs s_l_odd) (defBody s_l_odd) (defScope s_l_odd) .none kV17 dc17 pm17 an17 cd17 ct17), sl17⟩) (c17 : PySem.W.codeIn K cd17 "_law_odd" = true) (k17 : PySem.W.keepIn K (.ref f17) = true)
    {f18 : Addr} {od18 an18 : Option Addr} {sl18 : Array (Option Value)} {oc18 kV18 dc18 pm18 cd18 ct18 : Value} (a18 : PySem.W.nsIn K mainGlobals "_law_bent" = some (some (.ref f18))) (l18 : K.lookup f18 = some ⟨oc18, od18, .func (PySem.W.fnOf "_law_bent" "_law_bent" (defArgs s_l_bent) (defBody s_l_bent) (defScope s_l_bent) .none kV18 dc18 pm18 an18 cd18 ct18), sl18⟩) (c18 : PySem.W.codeIn K cd18 "_law_bent" = true) (k18 : PySem.W.keepIn K (.ref f18) = true)
    {f19 : Addr} {od19 an19 : Option Addr} {sl19 : Array (Option Value)} {oc19 kV19 dc19 pm19 cd19 ct19 : Value} (a19 : PySem.W.nsIn K mainGlobals "law" = some (some (.ref f19))) (l19 : K.lookup f19 = some ⟨oc19, od19, .func (PySem.W.fnOf "law" "law" (defArgs s_law) (defBody s_law) (defScope s_law) .none kV19 dc19 pm19 an19 cd19 ct19), sl19⟩) (c19 : PySem.W.codeIn K cd19 "law" = true) (k19 : PySem.W.keepIn K (.ref f19) = true)
    {tk0 : Tok} (t0 : PySem.W.nsIn K mainGlobals "THING" = some (some (.str "thing" tk0)))
    (z0 : PySem.W.nsIn K mainGlobals "len" = some none)
    (z1 : PySem.W.nsIn K mainGlobals "range" = some none)
    (z2 : PySem.W.nsIn K mainGlobals "int" = some none)
    (z3 : PySem.W.nsIn K mainGlobals "tuple" = some none)
    (z4 : PySem.W.nsIn K mainGlobals "list" = some none)
    (z5 : PySem.W.nsIn K mainGlobals "dict" = some none)
    (z6 : PySem.W.nsIn K mainGlobals "min" = some none)
    (z7 : PySem.W.nsIn K mainGlobals "max" = some none)
    (z8 : PySem.W.nsIn K mainGlobals "enumerate" = some none)
    (z9 : PySem.W.nsIn K mainGlobals "repr" = some none)
    (z10 : PySem.W.nsIn K mainGlobals "isinstance" = some none)
    (z11 : PySem.W.nsIn K mainGlobals "all" = some none)
    (z12 : PySem.W.nsIn K mainGlobals "any" = some none)
    (z13 : PySem.W.nsIn K mainGlobals "sum" = some none)
    (z14 : PySem.W.nsIn K mainGlobals "sorted" = some none)
    (z15 : PySem.W.nsIn K mainGlobals "zip" = some none)
    (z16 : PySem.W.nsIn K mainGlobals "reversed" = some none)
    (z17 : PySem.W.nsIn K mainGlobals "str" = some none)
    (z18 : PySem.W.nsIn K mainGlobals "bool" = some none)
    (z19 : PySem.W.nsIn K mainGlobals "set" = some none)
    : ∃ (fd : FuncData) (Ts : List Addr) (nm : Nat → Nat → Str), (∀ (s : Shared) (v : Value), BindsTo s fd ⟨[v], []⟩ [("_law_script", v)]) ∧ (∀ P ∈ Ts, K.lookup P = none ∧ ∃ y c, y ∈ (["is_made"] : List Str) ∧ PySem.W.codeHdIn K c P = true ∧ TabAt K mg y c P) ∧ ∀ base : Heap, K.In base → base.Ns mainGlobals mg → (∀ P ∈ Ts, base.BuiltinsAt mg P ∧ mainGlobals ≠ P) → @FnD (ambOf Ts nm) l.prog w K mg base 64 fa fd ["_law_script"] (spP m_law) := by
  have e := hfa.symm.trans (PySem.W.mg_of X G a19)
  cases e
  have B : BI mg := ⟨fun x hx => by
    simp only [bltNames, List.mem_cons, List.not_mem_nil, or_false] at hx
    rcases hx with rfl | rfl | rfl | rfl | rfl | rfl | rfl | rfl | rfl | rfl | rfl | rfl | rfl | rfl | rfl | rfl | rfl | rfl | rfl | rfl
    · exact PySem.W.mg_none_of X G z0
    · exact PySem.W.mg_none_of X G z1
    · exact PySem.W.mg_none_of X G z2
    · exact PySem.W.mg_none_of X G z3
    · exact PySem.W.mg_none_of X G z4
    · exact PySem.W.mg_none_of X G z5
    · exact PySem.W.mg_none_of X G z6
    · exact PySem.W.mg_none_of X G z7
    · exact PySem.W.mg_none_of X G z8
    · exact PySem.W.mg_none_of X G z9
    · exact PySem.W.mg_none_of X G z10
    · exact PySem.W.mg_none_of X G z11
    · exact PySem.W.mg_none_of X G z12
    · exact PySem.W.mg_none_of X G z13
    · exact PySem.W.mg_none_of X G z14
    · exact PySem.W.mg_none_of X G z15
    · exact PySem.W.mg_none_of X G z16
    · exact PySem.W.mg_none_of X G z17
    · exact PySem.W.mg_none_of X G z18
    · exact PySem.W.mg_none_of X G z19⟩
  have F0 := fun_mk (st := s_p_row_named) l0 c0 k0
  have b0 := F0.binds (ps := ["rows", "word"]) fun _ _ _ _ _ _ us hl => match us, hl with | [_, _], _ => rfl
  have F1 := fun_mk (st := s_p_maker_row) l1 c1 k1
  have b1 := F1.binds (ps := ["kind", "word"]) fun _ _ _ _ _ _ us hl => match us, hl with | [_, _], _ => rfl
  have F2 := fun_mk (st := s_p_sort_of_value) l2 c2 k2
  have b2 := F2.binds (ps := ["kind", "value"]) fun _ _ _ _ _ _ us hl => match us, hl with | [_, _], _ => rfl
  have F3 := fun_mk (st := s_p_is_call) l3 c3 k3
  have b3 := F3.binds (ps := ["thing"]) fun _ _ _ _ _ _ us hl => match us, hl with | [_], _ => rfl
  have F4 := fun_mk (st := s_p_folded) l4 c4 k4
  have b4 := F4.binds (ps := ["term", "leaf", "join"]) fun _ _ _ _ _ _ us hl => match us, hl with | [_, _, _], _ => rfl
  have F5 := fun_mk (st := s_p_is_made) l5 c5 k5
  have b5 := F5.binds (ps := ["kind", "thing"]) fun _ _ _ _ _ _ us hl => match us, hl with | [_, _], _ => rfl
  have F6 := fun_mk (st := s_l_hand) l6 c6 k6
  have b6 := F6.binds (ps := ["_law_script", "_law_k"]) fun _ _ _ _ _ _ us hl => match us, hl with | [_, _], _ => rfl
  have F7 := fun_mk (st := s_l_take) l7 c7 k7
  have b7 := F7.binds (ps := ["_law_hand_here", "_law_many"]) fun _ _ _ _ _ _ us hl => match us, hl with | [_, _], _ => rfl
  have F8 := fun_mk (st := s_l_pick) l8 c8 k8
  have b8 := F8.binds (ps := ["_law_hand_here", "_law_some"]) fun _ _ _ _ _ _ us hl => match us, hl with | [_, _], _ => rfl
  have F9 := fun_mk (st := s_l_words) l9 c9 k9
  have b9 := F9.binds (ps := ["_law_hand_here", "_law_many"]) fun _ _ _ _ _ _ us hl => match us, hl with | [_, _], _ => rfl
  have F10 := fun_mk (st := s_l_size) l10 c10 k10
  have b10 := F10.binds (ps := ["_law_hand_here", "_law_few", "_law_most"]) fun _ _ _ _ _ _ us hl => match us, hl with | [_, _, _], _ => rfl
  have F11 := fun_mk (st := s_l_plains) l11 c11 k11
  have b11 := F11.binds (ps := ["_law_hand_here", "_law_words_here"]) fun _ _ _ _ _ _ us hl => match us, hl with | [_, _], _ => rfl
  have F12 := fun_mk (st := s_l_makers) l12 c12 k12
  have b12 := F12.binds (ps := ["_law_hand_here", "_law_words_here", "_law_plains_here"]) fun _ _ _ _ _ _ us hl => match us, hl with | [_, _, _], _ => rfl
  have F13 := fun_mk (st := s_l_askings) l13 c13 k13
  have b13 := F13.binds (ps := ["_law_hand_here", "_law_words_here", "_law_plains_here", "_law_many"]) fun _ _ _ _ _ _ us hl => match us, hl with | [_, _, _, _], _ => rfl
  have F14 := fun_mk (st := s_l_bare_kind) l14 c14 k14
  have b14 := F14.binds (ps := ["_law_hand_here", "_law_many"]) fun _ _ _ _ _ _ us hl => match us, hl with | [_, _], _ => rfl
  have F15 := fun_mk (st := s_l_made) l15 c15 k15
  have b15 := F15.binds (ps := ["_law_hand_here", "_law_kind", "_law_deep"]) fun _ _ _ _ _ _ us hl => match us, hl with | [_, _, _], _ => rfl
  have F16 := fun_mk (st := s_l_is_made) l16 c16 k16
  have b16 := F16.binds (ps := ["_law_kind", "_law_thing"]) fun _ _ _ _ _ _ us hl => match us, hl with | [_, _], _ => rfl
  have F17 := fun_mk (st := s_l_odd) l17 c17 k17
  have b17 := F17.binds (ps := ["_law_hand_here", "_law_kind", "_law_thing"]) fun _ _ _ _ _ _ us hl => match us, hl with | [_, _, _], _ => rfl
  have F18 := fun_mk (st := s_l_bent) l18 c18 k18
  have b18 := F18.binds (ps := ["_law_hand_here", "_law_kind", "_law_thing"]) fun _ _ _ _ _ _ us hl => match us, hl with | [_, _, _], _ => rfl
  have F19 := fun_mk (st := s_law) l19 c19 k19
  have b19 := F19.binds (ps := ["_law_script"]) fun _ _ _ _ _ _ us hl => match us, hl with | [_], _ => rfl
  have T_THING := PySem.W.mg_of X G t0
  refine ⟨PySem.W.fnOf "law" "law" (defArgs s_law) (defBody s_law) (defScope s_law) .none kV19 dc19 pm19 an19 cd19 ct19, [PP5], nmT, fun s v => .of_eq rfl, ?_, fun base hKb _ hTs => ?_⟩
  · intro P hP
    simp only [List.mem_cons, List.not_mem_nil, or_false] at hP
    rcases hP with rfl
    · exact ⟨n5, "is_made", cc5, by decide, h5, f5, _, _, ce5, cdd5, us5, csl5, PySem.W.mg_of X G a5, l5, rfl, rfl, d5, u5⟩
  letI : Amb := ambOf [PP5] nmT
  have MT5 : MkT base mg nmT (PySem.W.fnOf "is_made" "is_made" (defArgs s_p_is_made) (defBody s_p_is_made) (defScope s_p_is_made) .none kV5 dc5 pm5 an5 (.ref cc5) ct5) := ⟨cc5, PP5, rfl, ⟨PySem.W.codeHd_of_K hKb h5, (hTs PP5 (by simp)).1, (hTs PP5 (by simp)).2⟩, List.mem_map.mpr ⟨PP5, by simp, rfl⟩, fun p hp _ => by
      obtain ⟨P0, _, rfl⟩ := List.mem_map.mp hp
      rfl⟩
  have C_p_row_named := c_p_row_named (P := l.prog) (w := w) (base := base) F0 (PySem.W.mg_of X G a0) b0 B
  have C_p_sort_of_value := c_p_sort_of_value (P := l.prog) (w := w) (base := base) F2 (PySem.W.mg_of X G a2) b2 B
  have C_p_is_call := c_p_is_call (P := l.prog) (w := w) (base := base) F3 (PySem.W.mg_of X G a3) b3 B
  have C_l_hand := c_l_hand (P := l.prog) (w := w) (base := base) F6 (PySem.W.mg_of X G a6) b6 B
  have C_l_take := c_l_take (P := l.prog) (w := w) (base := base) F7 (PySem.W.mg_of X G a7) b7 B
  have C_p_maker_row := c_p_maker_row (P := l.prog) (w := w) (base := base) F1 (PySem.W.mg_of X G a1) b1 B C_p_row_named
  have C_l_pick := c_l_pick (P := l.prog) (w := w) (base := base) F8 (PySem.W.mg_of X G a8) b8 B C_l_take
  have C_l_size := c_l_size (P := l.prog) (w := w) (base := base) F10 (PySem.W.mg_of X G a10) b10 B C_l_take
  have C_l_words := c_l_words (P := l.prog) (w := w) (base := base) F9 (PySem.W.mg_of X G a9) b9 B C_l_take C_l_pick
  have C_l_plains := c_l_plains (P := l.prog) (w := w) (base := base) F11 (PySem.W.mg_of X G a11) b11 B C_l_size
  have C_l_makers := c_l_makers (P := l.prog) (w := w) (base := base) F12 (PySem.W.mg_of X G a12) b12 B C_l_take C_l_pick C_l_size
  have C_l_askings := c_l_askings (P := l.prog) (w := w) (base := base) F13 (PySem.W.mg_of X G a13) b13 B C_l_take C_l_pick
  have C_l_odd := c_l_odd (P := l.prog) (w := w) (base := base) F17 (PySem.W.mg_of X G a17) b17 B C_l_pick
  have C_p_folded := c_p_folded (P := l.prog) (w := w) (base := base) F4 (PySem.W.mg_of X G a4) b4 B C_p_is_call
  have C_l_bare_kind := c_l_bare_kind (P := l.prog) (w := w) (base := base) F14 (PySem.W.mg_of X G a14) b14 B C_l_words C_l_plains C_l_makers C_l_askings C_l_size C_l_pick C_l_take
  have C_p_is_made := c_p_is_made (P := l.prog) (w := w) (base := base) F5 (PySem.W.mg_of X G a5) b5 B MT5 C_p_folded C_p_sort_of_value C_p_maker_row T_THING
  have C_l_is_made := c_l_is_made (P := l.prog) (w := w) (base := base) F16 (PySem.W.mg_of X G a16) b16 B 60
  have C_l_made := c_l_made (P := l.prog) (w := w) (base := base) F15 (PySem.W.mg_of X G a15) b15 B C_l_pick 60
  have C_l_bent := c_l_bent (P := l.prog) (w := w) (base := base) F18 (PySem.W.mg_of X G a18) b18 B C_l_take C_l_odd C_l_pick 60
  exact c_law F19 (PySem.W.mg_of X G a19) b19 B C_l_hand C_l_bare_kind C_l_made C_l_take C_l_bent C_p_is_made C_l_is_made
theorem room_law : RoomG 64 callerA := ⟨⟨rfl, by decide +kernel, by decide +kernel⟩, rfl⟩
theorem walk {l : PySem.W.OpenLaw} {q : Program} {loose : List Str} {XP : (Str → Option Value) → Heap → Prop} {YP : World → Heap → Prop} {d : DefRec} {K : Params → PySem.W.Frag} (hn : l.most = some 63) (hdf : d.params.defaults = []) (hrec : ∀ y ∈ (["is_made"] : List Str), ((recsOf q).any fun e => e.name == y) = true)
    (hY : ∀ (w : World) (h : Heap), YP w h → (K w.params).In h)
    (F : ∀ (w : World) (mg : Str → Option Value) (fa : Addr) (h : Heap), (K w.params).In h → h.Ns mainGlobals mg → mg d.name = some (.ref fa) →
      ∃ (fd : FuncData) (Ts : List Addr) (nm : Nat → Nat → Str), (∀ (s : Shared) (u : Value), BindsTo s fd ⟨[u], []⟩ [("_law_script", u)]) ∧ (∀ P ∈ Ts, (K w.params).lookup P = none ∧ ∃ y c, y ∈ (["is_made"] : List Str) ∧ PySem.W.codeHdIn (K w.params) c P = true ∧ TabAt (K w.params) mg y c P) ∧
        ∀ base : Heap, (K w.params).In base → base.Ns mainGlobals mg → (∀ P ∈ Ts, base.BuiltinsAt mg P ∧ mainGlobals ≠ P) → @FnD (ambOf Ts nm) l.prog w (K w.params) mg base 64 fa fd ["_law_script"] (spP m_law)) :
    PySem.W.WalkO q loose XP YP l.row.toRowW d [] (fun f vs => PySem.call f vs) :=
  walkGT (n := 63) hn (by decide) hdf room_law hrec hY F fun ns hl => lawF (law_true ns hl)
end KX
open PySem PySem.W PyProof.Rows in
set_option maxRecDepth 100000 in
set_option maxHeartbeats 0 in
theorem PySem.Challenge.cw_lawkinds_k10_what_is_made_holds : PySem.Challenge.rw_lawkinds_k10_what_is_made.Holds := by
  w_on; o_law; k_head; (case hw => w_witness2)
  k_fill
  refine KX.walk (l := PySem.Challenge.rw_lawkinds_k10_what_is_made) rfl rfl ?hrec (fun w h Y => PySem.W.km_in_of Y) ?F
  case hrec => decide +kernel
  case F =>
    intro w mg fa h Ki G hmg
    refine' KX.all_mk Ki G hmg ?a0 ?l0 ?c0 ?k0 ?a1 ?l1 ?c1 ?k1 ?a2 ?l2 ?c2 ?k2 ?a3 ?l3 ?c3 ?k3 ?a4 ?l4 ?c4 ?k4 ?a5 ?l5 ?c5 ?k5 ?d5 ?u5 ?n5 ?h5 ?a6 ?l6 ?c6 ?k6 ?a7 ?l7 ?c7 ?k7 ?a8 ?l8 ?c8 ?k8 ?a9 ?l9 ?c9 ?k9 ?a10 ?l10 ?c10 ?k10 ?a11 ?l11 ?c11 ?k11 ?a12 ?l12 ?c12 ?k12 ?a13 ?l13 ?c13 ?k13 ?a14 ?l14 ?c14 ?k14 ?a15 ?l15 ?c15 ?k15 ?a16 ?l16 ?c16 ?k16 ?a17 ?l17 ?c17 ?k17 ?a18 ?l18 ?c18 ?k18 ?a19 ?l19 ?c19 ?k19 ?t0 ?z0 ?z1 ?z2 ?z3 ?z4 ?z5 ?z6 ?z7 ?z8 ?z9 ?z10 ?z11 ?z12 ?z13 ?z14 ?z15 ?z16 ?z17 ?z18 ?z19
    (case a0 => k_is)
    (case l0 => k_is)
    (case c0 => k_is)
    (case k0 => k_is)
    (case a1 => k_is)
    (case l1 => k_is)
    (case c1 => k_is)
    (case k1 => k_is)
    (case a2 => k_is)
    (case l2 => k_is)
    (case c2 => k_is)
    (case k2 => k_is)
    (case a3 => k_is)
    (case l3 => k_is)
    (case c3 => k_is)
    (case k3 => k_is)
    (case a4 => k_is)
    (case l4 => k_is)
    (case c4 => k_is)
    (case k4 => k_is)
    (case a5 => k_is)
    (case l5 => k_is)
    (case c5 => k_is)
    (case k5 => k_is)
    (case d5 => k_is)
    (case u5 => exact rfl)
    (case n5 => kernel_rfl)
    (case h5 => kernel_rfl)
    (case a6 => k_is)
    (case l6 => k_is)
    (case c6 => k_is)
    (case k6 => k_is)
    (case a7 => k_is)
    (case l7 => k_is)
    (case c7 => k_is)
    (case k7 => k_is)
    (case a8 => k_is)
    (case l8 => k_is)
    (case c8 => k_is)
    (case k8 => k_is)
    (case a9 => k_is)
    (case l9 => k_is)
    (case c9 => k_is)
    (case k9 => k_is)
    (case a10 => k_is)
    (case l10 => k_is)
    (case c10 => k_is)
    (case k10 => k_is)
    (case a11 => k_is)
    (case l11 => k_is)
    (case c11 => k_is)
    (case k11 => k_is)
    (case a12 => k_is)
    (case l12 => k_is)
    (case c12 => k_is)
    (case k12 => k_is)
    (case a13 => k_is)
    (case l13 => k_is)
    (case c13 => k_is)
    (case k13 => k_is)
    (case a14 => k_is)
    (case l14 => k_is)
    (case c14 => k_is)
    (case k14 => k_is)
    (case a15 => k_is)
    (case l15 => k_is)
    (case c15 => k_is)
    (case k15 => k_is)
    (case a16 => k_is)
    (case l16 => k_is)
    (case c16 => k_is)
    (case k16 => k_is)
    (case a17 => k_is)
    (case l17 => k_is)
    (case c17 => k_is)
    (case k17 => k_is)
    (case a18 => k_is)
    (case l18 => k_is)
    (case c18 => k_is)
    (case k18 => k_is)
    (case a19 => k_is)
    (case l19 => k_is)
    (case c19 => k_is)
    (case k19 => k_is)
    (case t0 => k_is)
    (case z0 => k_is)
    (case z1 => k_is)
    (case z2 => k_is)
    (case z3 => k_is)
    (case z4 => k_is)
    (case z5 => k_is)
    (case z6 => k_is)
    (case z7 => k_is)
    (case z8 => k_is)
    (case z9 => k_is)
    (case z10 => k_is)
    (case z11 => k_is)
    (case z12 => k_is)
    (case z13 => k_is)
    (case z14 => k_is)
    (case z15 => k_is)
    (case z16 => k_is)
    (case z17 => k_is)
    (case z18 => k_is)
    (case z19 => k_is)

