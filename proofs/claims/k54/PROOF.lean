import PyProof.Rows.All
import HandS.List
import HandS.RevRange
import PyProof.Rows.SortStr
import PyProof.Rows.SortShellAny
import Wide.All
import OpenK.AllK
import Wide.FinOn
import KE.KStateDown
import Lean
import HandS.ForMost
import HandS.ForExc
import HandS.HotCalls
import HandS.Defaults
import HandS.Steps
import HandS.IsInst
import HandS.Head0
import HandS.Head1
import HandS.Head2
import HandS.HeadEnd
import HandS.HeadHook1
import HandS.HeadHook2
import HandS.HeadHook3
import HandS.Small
import HandS.RaiseMore
import HandS.Star
import HandS.FStr
import KE.KOpsOwn
import KE.KOwnIter
import HandS.SlotsOwn
import HandS.ClsMeth
import HandS.HeadNt
import HandS.IterVal
import HandS.Property
import HandS.OwnIter
import HandS.DictComp
import HandS.TryMany
import HandS.Iter
import KE.KCallOwn
import HandS.ExcInit
import HandS.ExcField
import HandS.Nested
import KE.KExcSuper
import KE.KExcIs
import HandS.Text
import HandS.Strs
import HandS.TupLe
import HandS.Dict
import HandS.More
import HandS.GenList
import HandS.MakeKwOnly
import HandS.ExcCtx
import PyProof.Rows.MatchSeqLen
import KE.KUnpack
import HandS.Deep
import HandS.DictTup
import HandS.Conv
import PySem.Challenge.RW_lentahead_k54_whole_packing
set_option Elab.async false
set_option linter.all false
set_option maxRecDepth 100000
set_option maxHeartbeats 4000000
namespace DL
open PySem L2
abbrev Tx := List Nat
def sx (t : Tx) : Str := ⟨t.toArray⟩
def T (s : Str) : Tx := s.cps.toList
theorem sx_T (s : Str) : sx (T s) = s := by cases s; simp [sx, T]
theorem T_sx (t : Tx) : T (sx t) = t := by simp [sx, T]
theorem sx_inj {a b : Tx} (h : sx a = sx b) : a = b := by rw [← T_sx a, ← T_sx b, h]
theorem sx_len (t : Tx) : (sx t).length = t.length := by simp [sx, PySem.Str.length]
theorem sx_add (a b : Tx) : sx a ++ sx b = sx (a ++ b) := by
  show Str.mk _ = Str.mk _
  simp [sx]
inductive D where
  | non | bl (b : Bool) | int (i : Int) | str (x : Tx) | ref (a : Addr) | ty (n : String)
  | lst (ds : List D) | tup (ds : List D) | scr (ns : List Int)
  /-- an own class, by its name in the module -/
  | cl (x : Str)
  /-- a caught exception of an own class: where it stands, where its dict stands, its class, its fields -/
  | exc (a dd : Addr) (C : Str) (ns : List Str) (ds : List D)
abbrev DKey := Sum Int Tx
def kO : DKey → Key
  | .inl i => .inl i
  | .inr x => .inr (sx x)
theorem kO_inj {a b : DKey} (h : kO a = kO b) : a = b := by
  cases a <;> cases b <;> simp only [kO, Sum.inl.injEq, Sum.inr.injEq, reduceCtorEq] at h
  · rw [h]
  · rw [sx_inj h]
def kD : DKey → D
  | .inl i => .int i
  | .inr x => .str x
inductive MO where
  | lst (ds : List D)
  | dK (kvs : List (DKey × D))
  /-- a dict that is walked: read only -/
  | fK (kvs : List (DKey × D)) (u : HO)
  /-- a dict whose keys are tuples -/
  | dT (kvs : List (List DKey × D))
  | fT (kvs : List (List DKey × D)) (u : HO)
  | ins (C : Str) (fs : List (Str × D))
abbrev Mu := Addr → Option MO
def dOf : MO → Option (List (DKey × D))
  | .dK kvs => some kvs
  | .fK kvs _ => some kvs
  | _ => none
def put (M : Mu) (a : Addr) (o : MO) : Mu := fun b => if b = a then some o else M b
def del (M : Mu) (a : Addr) : Mu := fun b => if b = a then none else M b
theorem put_same {M : Mu} {a : Addr} {o : MO} : put M a o a = some o := if_pos rfl
theorem put_ne {M : Mu} {a b : Addr} {o : MO} (h : b ≠ a) : put M a o b = M b := if_neg h
theorem del_same {M : Mu} {a : Addr} : del M a a = none := if_pos rfl
theorem del_ne {M : Mu} {a b : Addr} (h : b ≠ a) : del M a b = M b := if_neg h
theorem put_put {M : Mu} {a : Addr} {o p : MO} : put (put M a o) a p = put M a p := by
  funext b
  by_cases e : b = a
  · rw [e, put_same, put_same]
  · rw [put_ne e, put_ne e, put_ne e]
theorem del_put {M : Mu} {a : Addr} {o : MO} : del (put M a o) a = del M a := by
  funext b
  by_cases e : b = a
  · rw [e, del_same, del_same]
  · rw [del_ne e, del_ne e, put_ne e]
theorem del_new {M : Mu} {a : Addr} (h : M a = none) : del M a = M := by
  funext b
  by_cases e : b = a
  · rw [e, del_same, h]
  · rw [del_ne e]
theorem del_put_new {M : Mu} {a : Addr} {o : MO} (h : M a = none) : del (put M a o) a = M := by rw [del_put, del_new h]
section
variable (K : PySem.W.Frag) (M : Mu) (H : Hp)
def WrT (a : Addr) (vs : List V) : Prop := ∃ (o : Obj) (its : Array Value) (n : Nat), K.lookup a = some o ∧ o.cls = .type "tuple" ∧ o.data = .seq its n ∧ its.size ≤ sizeLine ∧ Vals vs its.toList
def WrN (a : Addr) (vs : List V) : Prop := WrT K a vs ∧ ∀ i, V.int i ∉ vs
def WrL (a : Addr) (vs : List V) : Prop := ∃ (o : Obj) (its : Array Value) (n : Nat), K.lookup a = some o ∧ o.cls = .type "list" ∧ o.dict = none ∧ o.data = .seq its n ∧ its.size ≤ sizeLine ∧ Vals vs its.toList
mutual
def Rep : D → V → Prop
  | .non, v => v = .non
  | .bl b, v => v = .bl b
  | .int i, v => v = .int i
  | .str x, v => v = .str (sx x)
  | .ref a, v => v = .ref a
  | .ty n, v => v = .ty n
  | .cl x, v => v = .ref (He.ga K x)
  | .scr ns, v => ∃ a, v = .ref a ∧ (((∃ o, H a = some (.frz o (.lst (ns.map V.int)))) ∧ M a = none) ∨ WrL K a (ns.map V.int))
  | .lst ds, v => ∃ a vs, v = .ref a ∧ H a = some (.lst vs) ∧ M a = none ∧ Reps ds vs
  | .tup ds, v => ∃ a vs, v = .ref a ∧ ((H a = some (.tup vs) ∧ M a = none) ∨ WrN K a vs) ∧ Reps ds vs
  | .exc a dd _ ns ds, v => v = .ref a ∧ ∃ gs : List (Str × V), H dd = some (.xd gs) ∧ M dd = none ∧ gs.map (·.1) = ns ∧ Reps ds (gs.map (·.2))
def Reps : List D → List V → Prop
  | [], vs => vs = []
  | d :: ds, vs => ∃ v r, vs = v :: r ∧ Rep d v ∧ Reps ds r
end
def RepO : MO → HO → Prop
  | .lst ds, o => ∃ vs, o = .lst vs ∧ Reps K M H ds vs
  | .dK kvs, o => ∃ ks, o = .dK ks ∧ ks.map (·.1) = kvs.map (fun q => kO q.1) ∧ Reps K M H (kvs.map (·.2)) (ks.map (·.2))
  | .fK kvs u, o => o = u ∧ ∃ od ks, u = .frz od (.dK ks) ∧ ks.map (·.1) = kvs.map (fun q => kO q.1) ∧ Reps K M H (kvs.map (·.2)) (ks.map (·.2))
  | .dT kvs, o => ∃ ks, o = .dT ks ∧ ks.map (·.1) = kvs.map (fun q => q.1.map kO) ∧ Reps K M H (kvs.map (·.2)) (ks.map (·.2))
  | .fT kvs u, o => o = u ∧ ∃ od ks, u = .frz od (.dT ks) ∧ ks.map (·.1) = kvs.map (fun q => q.1.map kO) ∧ Reps K M H (kvs.map (·.2)) (ks.map (·.2))
  | .ins C fs, o => ∃ dx gs, o = .ins (He.ga K C) dx gs ∧ gs.map (·.1) = fs.map (·.1) ∧ Reps K M H (fs.map (·.2)) (gs.map (·.2))
def Cor : Prop := ∀ a mo, M a = some mo → ∃ o, H a = some o ∧ RepO K M H mo o
def RepS : List (Option D) → List (Option V) → Prop
  | [], vs => vs = []
  | none :: ds, vs => ∃ v r, vs = v :: r ∧ RepS ds r
  | some d :: ds, vs => ∃ v r, vs = some v :: r ∧ Rep K M H d v ∧ RepS ds r
end
def Stp (M : Mu) (H : Hp) (M' : Mu) (H' : Hp) : Prop := ∀ b o, H b = some o → M b = none → H' b = some o ∧ M' b = none
theorem Stp.refl (M : Mu) (H : Hp) : Stp M H M H := fun _ _ h m => ⟨h, m⟩
theorem Stp.trans {M M1 M2 : Mu} {H H1 H2 : Hp} (a : Stp M H M1 H1) (b : Stp M1 H1 M2 H2) : Stp M H M2 H2 := fun c o h m => b c o (a c o h m).1 (a c o h m).2
section
variable {K : PySem.W.Frag} {M M' : Mu} {H H' : Hp}
mutual
theorem Rep.stp (s : Stp M H M' H') : ∀ {d : D} {v : V}, Rep K M H d v → Rep K M' H' d v
  | .non, _, h => h
  | .bl _, _, h => h
  | .int _, _, h => h
  | .str _, _, h => h
  | .ref _, _, h => h
  | .ty _, _, h => h
  | .cl _, _, h => h
  | .scr ns, v, h => by
    unfold Rep at h ⊢
    obtain ⟨a, e, h⟩ := h
    refine ⟨a, e, ?_⟩
    rcases h with ⟨⟨o, h1⟩, h2⟩ | h
    · obtain ⟨h1, h2⟩ := s a _ h1 h2
      exact .inl ⟨⟨o, h1⟩, h2⟩
    · exact .inr h
  | .lst ds, v, h => by
    unfold Rep at h ⊢
    obtain ⟨a, vs, e, h1, h2, h3⟩ := h
    obtain ⟨h1, h2⟩ := s a _ h1 h2
    exact ⟨a, vs, e, h1, h2, Reps.stp s h3⟩
  | .tup ds, v, h => by
    unfold Rep at h ⊢
    obtain ⟨a, vs, e, h1, h3⟩ := h
    refine ⟨a, vs, e, ?_, Reps.stp s h3⟩
    rcases h1 with ⟨h1, h2⟩ | h1
    · exact .inl (s a _ h1 h2)
    · exact .inr h1
  | .exc a dd C ns ds, v, h => by
    unfold Rep at h ⊢
    obtain ⟨e, gs, h1, h2, h3, h4⟩ := h
    obtain ⟨h1, h2⟩ := s dd _ h1 h2
    exact ⟨e, gs, h1, h2, h3, Reps.stp s h4⟩
theorem Reps.stp (s : Stp M H M' H') : ∀ {ds : List D} {vs : List V}, Reps K M H ds vs → Reps K M' H' ds vs
  | [], _, h => h
  | d :: ds, vs, h => by
    unfold Reps at h ⊢
    obtain ⟨v, r, e, h1, h2⟩ := h
    exact ⟨v, r, e, Rep.stp s h1, Reps.stp s h2⟩
end
theorem RepO.stp (s : Stp M H M' H') : ∀ {m : MO} {o : HO}, RepO K M H m o → RepO K M' H' m o
  | .lst _, _, ⟨vs, e, r⟩ => ⟨vs, e, r.stp s⟩
  | .dK _, _, ⟨ks, e, e2, r⟩ => ⟨ks, e, e2, r.stp s⟩
  | .fK _ _, _, ⟨e0, od, ks, e, e2, r⟩ => ⟨e0, od, ks, e, e2, r.stp s⟩
  | .dT _, _, ⟨ks, e, e2, r⟩ => ⟨ks, e, e2, r.stp s⟩
  | .fT _ _, _, ⟨e0, od, ks, e, e2, r⟩ => ⟨e0, od, ks, e, e2, r.stp s⟩
  | .ins _ _, _, ⟨dx, gs, e, e2, r⟩ => ⟨dx, gs, e, e2, r.stp s⟩
theorem RepS.stp (s : Stp M H M' H') : ∀ {ds : List (Option D)} {vs : List (Option V)}, RepS K M H ds vs → RepS K M' H' ds vs
  | [], _, h => h
  | none :: ds, _, ⟨v, r, e, h⟩ => ⟨v, r, e, RepS.stp s h⟩
  | some d :: ds, _, ⟨v, r, e, h1, h⟩ => ⟨v, r, e, h1.stp s, RepS.stp s h⟩
theorem Reps.nil : Reps K M H [] [] := rfl
theorem Reps.cons {d : D} {v : V} {ds : List D} {vs : List V} (h : Rep K M H d v) (t : Reps K M H ds vs) : Reps K M H (d :: ds) (v :: vs) := ⟨v, vs, rfl, h, t⟩
theorem Reps.length : ∀ {ds : List D} {vs : List V}, Reps K M H ds vs → vs.length = ds.length
  | [], _, h => by cases (show _ = [] from h); rfl
  | d :: ds, _, h => by
    obtain ⟨v, r, rfl, _, h⟩ := (show ∃ v r, _ = v :: r ∧ Rep K M H d v ∧ Reps K M H ds r from h)
    rw [List.length_cons, List.length_cons, h.length]
theorem Reps.uncons {d : D} {ds : List D} {vs : List V} (h : Reps K M H (d :: ds) vs) : ∃ v r, vs = v :: r ∧ Rep K M H d v ∧ Reps K M H ds r := h
theorem Reps.unnil {vs : List V} (h : Reps K M H [] vs) : vs = [] := h
theorem Reps.get : ∀ {ds : List D} {vs : List V} {i : Nat} {d : D}, Reps K M H ds vs → ds[i]? = some d → ∃ v, vs[i]? = some v ∧ Rep K M H d v
  | [], _, _, _, _, e => by simp at e
  | d :: ds, _, 0, x, h, e => by
    obtain ⟨v, r, rfl, h1, _⟩ := h.uncons
    simp at e; subst e
    exact ⟨v, rfl, h1⟩
  | d :: ds, _, i + 1, x, h, e => by
    obtain ⟨v, r, rfl, _, h⟩ := h.uncons
    obtain ⟨u, h1, h2⟩ := Reps.get (i := i) h (by simpa using e)
    exact ⟨u, by simpa using h1, h2⟩
theorem Reps.set {d : D} {v : V} (r : Rep K M H d v) : ∀ {ds : List D} {vs : List V} (i : Nat), Reps K M H ds vs → Reps K M H (ds.set i d) (vs.set i v)
  | [], _, _, h => by cases h.unnil; exact .nil
  | x :: ds, _, 0, h => by
    obtain ⟨u, s, rfl, h1, h2⟩ := h.uncons
    exact .cons r h2
  | x :: ds, _, i + 1, h => by
    obtain ⟨u, s, rfl, h1, h2⟩ := h.uncons
    exact .cons h1 (Reps.set r i h2)
theorem Reps.append : ∀ {ds es : List D} {vs us : List V}, Reps K M H ds vs → Reps K M H es us → Reps K M H (ds ++ es) (vs ++ us)
  | [], _, _, _, h, h2 => by cases h.unnil; exact h2
  | d :: ds, _, _, _, h, h2 => by
    obtain ⟨v, r, rfl, h1, h⟩ := h.uncons
    exact .cons h1 (h.append h2)
theorem Reps.snoc {ds : List D} {vs : List V} {d : D} {v : V} (h : Reps K M H ds vs) (h1 : Rep K M H d v) : Reps K M H (ds ++ [d]) (vs ++ [v]) := h.append (.cons h1 .nil)
theorem Reps.take : ∀ {ds : List D} {vs : List V} (n : Nat), Reps K M H ds vs → Reps K M H (ds.take n) (vs.take n)
  | _, _, 0, _ => by simp only [List.take_zero]; exact .nil
  | [], _, _ + 1, h => by cases h.unnil; exact .nil
  | d :: ds, _, n + 1, h => by
    obtain ⟨v, r, rfl, h1, h⟩ := h.uncons
    exact .cons h1 (Reps.take n h)
theorem Reps.drop : ∀ {ds : List D} {vs : List V} (n : Nat), Reps K M H ds vs → Reps K M H (ds.drop n) (vs.drop n)
  | _, _, 0, h => h
  | [], _, _ + 1, h => by cases h.unnil; exact .nil
  | d :: ds, _, n + 1, h => by
    obtain ⟨v, r, rfl, h1, h⟩ := h.uncons
    exact Reps.drop n h
theorem Reps.erase : ∀ {ds : List D} {vs : List V} (n : Nat), Reps K M H ds vs → Reps K M H (ds.eraseIdx n) (vs.eraseIdx n)
  | [], _, _, h => by cases h.unnil; exact .nil
  | d :: ds, _, 0, h => by
    obtain ⟨v, r, rfl, h1, h⟩ := h.uncons
    exact h
  | d :: ds, _, n + 1, h => by
    obtain ⟨v, r, rfl, h1, h⟩ := h.uncons
    exact .cons h1 (Reps.erase n h)
theorem Reps.dropLast {ds : List D} {vs : List V} (h : Reps K M H ds vs) : Reps K M H ds.dropLast vs.dropLast := by
  rw [List.dropLast_eq_take, List.dropLast_eq_take, h.length]
  exact h.take _
theorem Reps.reverse : ∀ {ds : List D} {vs : List V}, Reps K M H ds vs → Reps K M H ds.reverse vs.reverse
  | [], _, h => by cases h.unnil; exact .nil
  | d :: ds, _, h => by
    obtain ⟨v, r, rfl, h1, h⟩ := h.uncons
    rw [List.reverse_cons, List.reverse_cons]
    exact h.reverse.snoc h1
theorem Reps.strs : ∀ {xs : List Tx} {vs : List V}, Reps K M H (xs.map D.str) vs → vs = (xs.map sx).map V.str
  | [], _, h => h.unnil
  | x :: xs, _, h => by
    obtain ⟨v, r, rfl, h1, h⟩ := h.uncons
    rw [(show v = _ from h1), h.strs]; rfl
theorem Reps.of_strs : ∀ (xs : List Tx), Reps K M H (xs.map D.str) ((xs.map sx).map V.str)
  | [] => .nil
  | _ :: xs => .cons rfl (Reps.of_strs xs)
theorem Reps.of_ints : ∀ (xs : List Int), Reps K M H (xs.map D.int) (xs.map V.int)
  | [] => .nil
  | _ :: xs => .cons rfl (Reps.of_ints xs)
theorem Reps.bls : ∀ {xs : List Bool} {vs : List V}, Reps K M H (xs.map D.bl) vs → vs = xs.map V.bl
  | [], _, h => h.unnil
  | x :: xs, _, h => by
    obtain ⟨v, r, rfl, h1, h⟩ := h.uncons
    rw [(show v = _ from h1), h.bls]; rfl
theorem RepS.get : ∀ {ds : List (Option D)} {vs : List (Option V)} {i : Nat} {d : D}, RepS K M H ds vs → ds[i]? = some (some d) → ∃ v, vs[i]? = some (some v) ∧ Rep K M H d v
  | [], _, _, _, _, e => by simp at e
  | none :: ds, _, 0, _, _, e => by simp at e
  | some d :: ds, _, 0, _, ⟨v, r, e1, h1, _⟩, e => by
    subst e1; simp at e; subst e
    exact ⟨v, rfl, h1⟩
  | none :: ds, _, i + 1, d, ⟨v, r, e1, h⟩, e => by
    subst e1
    obtain ⟨u, h1, h2⟩ := RepS.get (i := i) (d := d) h (by simpa using e)
    exact ⟨u, by simpa using h1, h2⟩
  | some _ :: ds, _, i + 1, d, ⟨v, r, e1, _, h⟩, e => by
    subst e1
    obtain ⟨u, h1, h2⟩ := RepS.get (i := i) (d := d) h (by simpa using e)
    exact ⟨u, by simpa using h1, h2⟩
theorem RepS.set {d : D} {v : V} (rp : Rep K M H d v) : ∀ {ds : List (Option D)} {vs : List (Option V)} (i : Nat), RepS K M H ds vs → RepS K M H (ds.set i (some d)) (vs.set i (some v))
  | [], _, _, h => by cases (show _ = [] from h); exact rfl
  | none :: ds, _, 0, ⟨u, r, e, h⟩ => by subst e; exact ⟨v, r, rfl, rp, h⟩
  | some _ :: ds, _, 0, ⟨u, r, e, _, h⟩ => by subst e; exact ⟨v, r, rfl, rp, h⟩
  | none :: ds, _, i + 1, ⟨u, r, e, h⟩ => by subst e; exact ⟨u, r.set i (some v), rfl, RepS.set rp i h⟩
  | some x :: ds, _, i + 1, ⟨u, r, e, h1, h⟩ => by subst e; exact ⟨u, r.set i (some v), rfl, h1, RepS.set rp i h⟩
theorem RepS.none : ∀ {ds : List (Option D)} {vs : List (Option V)} (i : Nat) (x : Option V), RepS K M H ds vs → RepS K M H (ds.set i none) (vs.set i x)
  | [], _, _, _, h => by cases (show _ = [] from h); exact rfl
  | .none :: ds, _, 0, x, ⟨u, r, e, h⟩ => by subst e; exact ⟨x, r, rfl, h⟩
  | some _ :: ds, _, 0, x, ⟨u, r, e, _, h⟩ => by subst e; exact ⟨x, r, rfl, h⟩
  | .none :: ds, _, i + 1, x, ⟨u, r, e, h⟩ => by subst e; exact ⟨u, r.set i x, rfl, RepS.none i x h⟩
  | some y :: ds, _, i + 1, x, ⟨u, r, e, h1, h⟩ => by subst e; exact ⟨u, r.set i x, rfl, h1, RepS.none i x h⟩
theorem RepS.start : ∀ {ds : List D} {vs : List V} (n : Nat), Reps K M H ds vs → RepS K M H (ds.map some ++ List.replicate n Option.none) (vs.map some ++ List.replicate n Option.none)
  | [], _, n, h => by
    cases h.unnil
    show RepS K M H (List.replicate n Option.none) (List.replicate n Option.none)
    induction n with
    | zero => exact rfl
    | succ n ih => exact ⟨.none, _, rfl, ih⟩
  | d :: ds, _, n, h => by
    obtain ⟨v, r, rfl, h1, h⟩ := h.uncons
    exact ⟨v, _, rfl, h1, RepS.start n h⟩
theorem Cor.free (c : Cor K M H) {p : Addr} (h : H p = none) : M p = none := by
  cases e : M p with
  | none => rfl
  | some mo => obtain ⟨o, h2, _⟩ := c p mo e; rw [h] at h2; cases h2
theorem Stp.new {p : Addr} {o : HO} (h : H p = none) : Stp M H M (upd H p o) := fun b u e m => ⟨by rw [upd_ne (ne_of_none e h)]; exact e, m⟩
theorem Stp.newM {p : Addr} {o : HO} {mo : MO} (h : H p = none) : Stp M H (put M p mo) (upd H p o) := fun b u e m =>
  have n := ne_of_none e h
  ⟨by rw [upd_ne n]; exact e, by rw [put_ne n]; exact m⟩
theorem Stp.write {a : Addr} {o : HO} {mo mo' : MO} (h : M a = some mo) : Stp M H (put M a mo') (upd H a o) := fun b u e m => by
  have n : b ≠ a := fun z => by rw [z, h] at m; cases m
  exact ⟨by rw [upd_ne n]; exact e, by rw [put_ne n]; exact m⟩
theorem Stp.frz {a : Addr} : Stp M H (del M a) H := fun b u e m => ⟨e, by
  by_cases z : b = a
  · rw [z, del_same]
  · rw [del_ne z]; exact m⟩
theorem Cor.new (c : Cor K M H) {p : Addr} {o : HO} (h : H p = none) : Cor K M (upd H p o) := fun a mo e => by
  obtain ⟨u, h1, r⟩ := c a mo e
  exact ⟨u, by rw [upd_ne (ne_of_none h1 h)]; exact h1, r.stp (Stp.new h)⟩
theorem Cor.newM (c : Cor K M H) {p : Addr} {o : HO} {mo : MO} (h : H p = none) (r0 : RepO K M H mo o) : Cor K (put M p mo) (upd H p o) := fun a m e => by
  by_cases z : a = p
  · subst z
    rw [put_same] at e; cases e
    exact ⟨o, upd_same, r0.stp (Stp.newM h)⟩
  · rw [put_ne z] at e
    obtain ⟨u, h1, r⟩ := c a m e
    exact ⟨u, by rw [upd_ne z]; exact h1, r.stp (Stp.newM h)⟩
theorem Cor.write (c : Cor K M H) {a : Addr} {o : HO} {mo mo' : MO} (h : M a = some mo) (r0 : RepO K M H mo' o) : Cor K (put M a mo') (upd H a o) := fun b m e => by
  by_cases z : b = a
  · subst z
    rw [put_same] at e; cases e
    exact ⟨o, upd_same, r0.stp (Stp.write h)⟩
  · rw [put_ne z] at e
    obtain ⟨u, h1, r⟩ := c b m e
    exact ⟨u, by rw [upd_ne z]; exact h1, r.stp (Stp.write h)⟩
theorem Cor.frz (c : Cor K M H) {a : Addr} : Cor K (del M a) H := fun b m e => by
  have z : b ≠ a := fun z => by rw [z, del_same] at e; cases e
  rw [del_ne z] at e
  obtain ⟨u, h1, r⟩ := c b m e
  exact ⟨u, h1, r.stp Stp.frz⟩
end
end DL
namespace DL
open PySem PySem.Spec PyProof.Rows L2
theorem takes_none5N {X : Cx} : L2N.Takes X (fun _ _ _ _ => False) := fun _ _ ⟨_, _, _, _, _, _, _, _, _, _, _, _, _, _, _, _, w⟩ => w.elim
theorem mk_endN {X : Cx} {pins : List (Addr × Obj)} {σ : L2.St} {H1 H2 : Hp} {Q : XK} {hp hp2 h2 : Heap} {g1 g2 : Array GenState} {d1 d2 : Drawn} {t1 t2 : Nat} {os1 os2 : OsState} {a C d : Addr} {fs : List (Str × V)} (T : Raises X (.ref C)) (I1 : Inv X pins σ H1 ⟨hp, g1, d1, t1, os1⟩)
    (ha : hp.objs.size ≤ a) (k : ∀ b o, hp.get? b = some o → hp2.get? b = some o) (un : Un (frs X.stack) [] (upd H1 a (exo a C none)) H2 hp2 h2) (hok : HOk X.prog X.w H2 h2) (ho : os2 = os1) (hb : AllBare g2)
    (ea : H2 a = some (exo a C (some d))) (ed : H2 d = some (exd d fs)) (hd1 : H1 d = none) (q : Q (.ref C) (some d) (upd (L2.del H2 a) d (.xd fs))) : L2N.MkP X pins σ Q (.ref a) ⟨h2, g2, d2, t2, os2⟩ := by
  obtain ⟨t0, G, J, kG, ge, hoe, na⟩ := mk_end0 (d2 := d2) (t2 := t2) I1 ha k un hok ho hb ea ed hd1
  exact ⟨a, _, _, ⟨G, g2, d2, t2, os2⟩, _, .ref C, some d, rfl, J, kG, ge, hoe, ⟨rfl, rfl, fun vs e => by cases e; rfl⟩, rfl, rfl, na, rfl, hb, T, q⟩
section
variable {X : Cx} {e : Expr} {es : List Expr} {ta : TA} {p pos : Pos}
theorem pmk_oexN {CX : CXT} {x : Str} {C fI : Addr} {k : Nat} {fd : FuncData} {ps : List Str} {sp : Sp} {ds : List Value} {dvs : List V} (T : OexC X.K C) (iC : PySem.W.findIn X.K (.ref C) "__init__" = some (some (.ref fI))) (tI : PySem.W.typeIn X.K (.ref fI) = some (.type "function"))
    (F1 : FnOk X.prog X.w X.K X.mg X.base CX k fI fd ps sp) (hr : Room (k + 1) X.A) (hb : Binds X.K fd ps ds) (hd : Vals dvs ds) (hx : Passes CX X (fun _ _ _ => False)) (hg : Gl X x) (hm : X.mg x = some (.ref C)) (ha : PA X (e :: es) ta)
    (hdb : (x == ("__debug__" : Str)) = false := by decide) (he : starEach (e :: es) X.env = (false, eval e X.env) :: starEach es X.env := by rfl) (hpl : (backTo pos (starEach es X.env)).any (·.1) = false := by rfl) :
    L2N.PMk X (.Call (.Name x p) (e :: es) [] pos) (tMkO C sp dvs ta) := by
  intro pins s σ H Q I h
  obtain ⟨nm, q, N, bs, bm, sn, sub, ab, col, dd, k0, k1, k2, k3, k5, hC, hbm⟩ := T.cls
  refine wpAny_Call_Name_kw (ld_glob I hg hm ?_ hdb)
  refine PySem.W.callWith_K (h₀ := X.base) I.ok.mod.kin T.kC (thn (ha.run pos pins s σ H _ I h) fun us s1 ⟨vs, H1, I1, r1, hz, q1⟩ => ⟨I1.kIn, ?_⟩) he hpl
  show wpAny _ _ (call (.ref C) us) _ _ _
  obtain ⟨hp, g, dr, tk, os⟩ := s1
  have hsz : hp.objs.size ≤ hp.objs.size + 1 := Nat.le_succ _
  have hq := q1 (hp.objs.size + 1) (I1.hok.fresh hsz)
  have hget : ((hp.push (PySem.W.kdv_tup us)).push (PySem.HandSPX.excO C hp.objs.size)).get? (hp.objs.size + 1) = some (PySem.HandSPX.excO C hp.objs.size) := by heap_get
  have kk : ∀ b o, hp.get? b = some o → ((hp.push (PySem.W.kdv_tup us)).push (PySem.HandSPX.excO C hp.objs.size)).get? b = some o := fun b o e => Heap.get?_push_of_some _ (Heap.get?_push_of_some _ e)
  have I2 : Inv X pins σ (upd H1 (hp.objs.size + 1) (exo (hp.objs.size + 1) C none)) ⟨(hp.push (PySem.W.kdv_tup us)).push (PySem.HandSPX.excO C hp.objs.size), g, dr, tk, os⟩ :=
    I1.laid (t' := tk) (a := hp.objs.size + 1) (o := exo (hp.objs.size + 1) C none) (h' := (hp.push (PySem.W.kdv_tup us)).push (PySem.HandSPX.excO C hp.objs.size)) kk hsz (exo_ok hget)
  have r2 : Vals (V.ref (hp.objs.size + 1) :: (vs ++ dvs)) (Value.ref (hp.objs.size + 1) :: (us ++ ds)) := .cons rfl (r1.append hd)
  have hl : (Value.ref (hp.objs.size + 1) :: us ++ ds).length = ps.length := (r2.length.symm.trans (F1.len _ _ _ _ hq))
  have hus : us.length ≤ sizeLine := by
    rw [← Paired.length r1, sizeLine_eq]
    omega
  refine wpAny_call (PySem.HandSPX.call_own F.excBase_ValueError (fun Y => PySem.HandSPX.refsVE_contains Y bm hbm) (I1.kIn _ _ hC) (PySem.W.looks_findIn I1.kIn iC) (fun self => PySem.W.bind_fn I1.kIn self tI) hus
    (codeAny_mono (F1.run _ X.stack _ _ ⟨Value.ref (hp.objs.size + 1) :: us, []⟩ (Value.ref (hp.objs.size + 1) :: (us ++ ds)) _ _ (fun _ _ _ => False) (hr.make C us []) (I2.env0.make C us []) (hb _ (Value.ref (hp.objs.size + 1) :: us) I2.kIn hl) r2 hq) fun r s' hq' => ?_))
  match r, hq' with
  | .error er, hq' => exact hx pins σ _ _ er s' I2 hq'
  | .ok (.ret u), ⟨v, H2, os2, bare2, un2, hok2, rv, ev, d, fs, ea, ed, hd1, q2⟩ =>
    subst ev
    obtain ⟨h2, g2, d2, t2, os'⟩ := s'
    exact ⟨rv, mk_endN (raises_own T.exC T.tyC) I1 hsz kk un2 hok2 os2 bare2 ea ed hd1 q2⟩
  | .ok .next, hq' => exact False.elim hq'
  | .ok .brk, hq' => exact False.elim hq'
  | .ok .cont, hq' => exact False.elim hq'
end
end DL
namespace DL
open PySem L2
abbrev DSt := List (Option D)
abbrev DK := D → Mu → Prop
structure XD where
  cls : Str
  fs : List (Str × D)
abbrev DX := XD → Mu → Prop
abbrev DR (α : Type) := DSt → Mu → (α → Mu → Prop) → DX → Prop
abbrev DTE := DR D
abbrev DTT := DR Bool
abbrev DTA := DR (List D)
def RepX (K : PySem.W.Frag) (M : Mu) (H : Hp) (x : XD) (c : Value) (d : Option Addr) : Prop :=
  c = .ref (He.ga K x.cls) ∧ match d with
    | none => x.fs = []
    | some a => ∃ gs, H a = some (.xd gs) ∧ M a = none ∧ gs.map (·.1) = x.fs.map (·.1) ∧ Reps K M H (x.fs.map (·.2)) (gs.map (·.2))
theorem RepX.stp {K : PySem.W.Frag} {M M' : Mu} {H H' : Hp} {x : XD} {c : Value} {d : Option Addr} (h : RepX K M H x c d) (s : Stp M H M' H') : RepX K M' H' x c d := by
  obtain ⟨e, h⟩ := h
  refine ⟨e, ?_⟩
  cases d with
  | none => exact h
  | some a =>
    obtain ⟨gs, h1, h2, h3, h4⟩ := h
    obtain ⟨h1, h2⟩ := s a _ h1 h2
    exact ⟨gs, h1, h2, h3, h4.stp s⟩
structure Sit (K : PySem.W.Frag) (W : WX) {α β : Type} (R : Mu → Hp → α → β → Prop) (τ : DSt) (M : Mu) (σ : L2.St) (H : Hp) (Q0 : α → Mu → Prop) (E0 : DX) (Q : β → Hp → Prop) : Prop where
  rs : RepS K M H τ σ
  co : Cor K M H
  q : ∀ d M' v H', Q0 d M' → R M' H' d v → Cor K M' H' → Stp M H M' H' → Q v H'
  e : ∀ x M' c d H', E0 x M' → RepX K M' H' x c d → Cor K M' H' → Stp M H M' H' → W c d σ H'
def lif (K : PySem.W.Frag) (W : WX) {α β : Type} (R : Mu → Hp → α → β → Prop) (t : DR α) (σ : L2.St) (H : Hp) (Q : β → Hp → Prop) : Prop :=
  ∃ τ M Q0 E0, Sit K W R τ M σ H Q0 E0 Q ∧ t τ M Q0 E0
abbrev RD (K : PySem.W.Frag) : Mu → Hp → D → V → Prop := fun M H d v => Rep K M H d v
abbrev RB : Mu → Hp → Bool → Bool → Prop := fun _ _ a b => b = a
abbrev RA (K : PySem.W.Frag) : Mu → Hp → List D → List V → Prop := fun M H d v => Reps K M H d v
section
variable {K : PySem.W.Frag} {W : WX} {α β γ δ : Type} {R : Mu → Hp → α → β → Prop} {R1 : Mu → Hp → γ → δ → Prop} {τ : DSt} {M M1 : Mu} {σ : L2.St} {H H1 : Hp} {Q0 : α → Mu → Prop} {E0 : DX} {Q : β → Hp → Prop}
theorem Sit.go (S : Sit K W R τ M σ H Q0 E0 Q) (c : Cor K M1 H1) (s : Stp M H M1 H1) : Sit K W R τ M1 σ H1 Q0 E0 Q :=
  ⟨S.rs.stp s, c, fun d M' v H' h r c' s' => S.q d M' v H' h r c' (s.trans s'), fun x M' c d H' h r c' s' => S.e x M' c d H' h r c' (s.trans s')⟩
theorem Sit.sub (S : Sit K W R τ M σ H Q0 E0 Q) {t : DR γ} {G : γ → Mu → Prop} {Q1 : δ → Hp → Prop} (h : t τ M G E0)
    (k : ∀ d M1 v H1, G d M1 → R1 M1 H1 d v → Sit K W R τ M1 σ H1 Q0 E0 Q → Stp M H M1 H1 → Q1 v H1) : lif K W R1 t σ H Q1 :=
  ⟨τ, M, G, E0, ⟨S.rs, S.co, fun d M' v H' g r c s => k d M' v H' g r (S.go c s) s, S.e⟩, h⟩
theorem Sit.end_ (S : Sit K W R τ M σ H Q0 E0 Q) {d : α} {v : β} (h : Q0 d M) (r : R M H d v) : Q v H := S.q d M v H h r S.co (Stp.refl _ _)
end
theorem PE.of {X : Cx} {e : Expr} {t t0 : TE} (h : PE X e t0) (k : ∀ σ H Q, t σ H Q → t0 σ H Q) : PE X e t := ⟨fun pins s σ H Q I q => h.run pins s σ H Q I (k σ H Q q)⟩
theorem PT.of {X : Cx} {e : Expr} {t t0 : TT} (h : PT X e t0) (k : ∀ σ H Q, t σ H Q → t0 σ H Q) : PT X e t := ⟨fun pins s σ H Q I q => h.run pins s σ H Q I (k σ H Q q)⟩
theorem PA.of {X : Cx} {e : List Expr} {t t0 : TA} (h : PA X e t0) (k : ∀ σ H Q, t σ H Q → t0 σ H Q) : PA X e t := ⟨fun pos pins s σ H Q I q => h.run pos pins s σ H Q I (k σ H Q q)⟩
theorem PS.of {X : Cx} {e : Stmt} {t t0 : TS} (h : PS X e t0) (k : ∀ D σ H, t D σ H → t0 D σ H) : PS X e t := ⟨fun pins s σ H D I q => h.run pins s σ H D I (k D σ H q)⟩
theorem PSs.of {X : Cx} {e : List Stmt} {t t0 : TS} (h : PSs X e t0) (k : ∀ D σ H, t D σ H → t0 D σ H) : PSs X e t := ⟨fun pins s σ H D I q => h.run pins s σ H D I (k D σ H q)⟩
structure Gd (X : Cx) (W : WX) : Prop where
  calm : X.calm = true
  tk : L2N.Takes X W
  hu : X.A.units + 64 < cLine
  own : PassesOwn (model X.prog X.w) X.A X.env X.xe
  nd : X.N.Nodup
theorem Gd.hu1 {X : Cx} {W : WX} (G : Gd X W) : X.A.units + 1 < cLine := Nat.lt_of_le_of_lt (Nat.add_le_add_left (by decide) _) G.hu
abbrev DE (X : Cx) (W : WX) (e : Expr) (t : DTE) : Prop := PE X e (lif X.K W (RD X.K) t)
abbrev DT (X : Cx) (W : WX) (e : Expr) (t : DTT) : Prop := PT X e (lif X.K W RB t)
abbrev DA (X : Cx) (W : WX) (es : List Expr) (t : DTA) : Prop := PA X es (lif X.K W (RA X.K) t)
def dVar (i : Nat) : DTE := fun τ M Q _ => match τ[i]? with
  | some (some d) => Q d M
  | _ => False
def dC (d : D) : DTE := fun _ M Q _ => Q d M
abbrev DOp := D → D → Mu → DK → Prop
def dOp (g : DOp) (ta tb : DTE) : DTE := fun τ M Q E => ta τ M (fun x M1 => tb τ M1 (fun y M2 => g x y M2 Q) E) E
abbrev DUn := D → Mu → DK → Prop
def dUn (g : DUn) (ta : DTE) : DTE := fun τ M Q E => ta τ M (fun x M1 => g x M1 Q) E
section
variable {X : Cx} {W : WX} {a b c e : Expr} {ta tb tc : DTE} {pos : Pos}
theorem de_var (i : Nat) {x : Str} (hN : X.N[i]? = some x := by rfl) (hv : Vis X.env.scope x := by first | exact Or.inl rfl | exact Or.inr (Or.inl rfl) | exact Or.inr (Or.inr rfl)) (hd : (x == ("__debug__" : Str)) = false := by decide)
    (hcd : (x == ("__classdict__" : Str)) = false := by decide) : DE X W (.Name x pos) (dVar i) := by
  refine PE.of (pe_var hN hv hd hcd) fun σ H Q ⟨τ, M, Q0, E0, S, h⟩ => ?_
  unfold dVar at h
  split at h
  · rename_i d e
    obtain ⟨v, e2, r⟩ := S.rs.get e
    exact ⟨v, e2, S.end_ h r⟩
  · exact h.elim
theorem de_c {t0 : TE} {d : D} {v : V} (h : PE X e (tC v)) (r : ∀ M H, Rep X.K M H d v) : DE X W e (dC d) := by
  refine PE.of h fun σ H Q ⟨τ, M, Q0, E0, S, h⟩ => ?_
  exact S.end_ h (r M H)
theorem de_int {i : Int} {j : Nat} : DE X W (.Constant (.int i) j pos) (dC (.int i)) := de_c (t0 := tC .non) pe_int fun _ _ => rfl
theorem de_bl {i : Bool} {j : Nat} : DE X W (.Constant (.bool i) j pos) (dC (.bl i)) := de_c (t0 := tC .non) pe_bl fun _ _ => rfl
theorem de_non {j : Nat} : DE X W (.Constant .none j pos) (dC .non) := de_c (t0 := tC .non) pe_non fun _ _ => rfl
theorem de_str {x : Str} {j : Nat} : DE X W (.Constant (.str x) j pos) (dC (.str (T x))) := de_c (t0 := tC .non) pe_str fun _ _ => by
  show V.str x = V.str (sx (T x))
  rw [sx_T]
theorem de_glob {x : Str} {d : D} {v : V} {u : Value} (hg : Gl X x) (hm : X.mg x = some u) (r : RelV v u) (rd : ∀ M H, Rep X.K M H d v) (hd : (x == ("__debug__" : Str)) = false := by decide) : DE X W (.Name x pos) (dC d) :=
  de_c (t0 := tC .non) (pe_glob hg hm r hd) rd
def OpD (K : PySem.W.Frag) (g : DOp) (r : R2) : Prop := ∀ (M : Mu) (H : Hp) (x y : D) (v u : V) (Q0 : DK) (Q : VK), Cor K M H → Rep K M H x v → Rep K M H y u → g x y M Q0 →
  (∀ d M' z H', Q0 d M' → Rep K M' H' d z → Cor K M' H' → Stp M H M' H' → Q z H') → r v u H Q
def UnD (K : PySem.W.Frag) (g : DUn) (r : V → Hp → VK → Prop) : Prop := ∀ (M : Mu) (H : Hp) (x : D) (v : V) (Q0 : DK) (Q : VK), Cor K M H → Rep K M H x v → g x M Q0 →
  (∀ d M' z H', Q0 d M' → Rep K M' H' d z → Cor K M' H' → Stp M H M' H' → Q z H') → r v H Q
theorem lif_op {g : DOp} {r : R2} (o : OpD X.K g r) {σ : L2.St} {H : Hp} {Q : VK} (h : lif X.K W (RD X.K) (dOp g ta tb) σ H Q) : tOp r (lif X.K W (RD X.K) ta) (lif X.K W (RD X.K) tb) σ H Q := by
  obtain ⟨τ, M, Q0, E0, S, h⟩ := h
  refine S.sub h fun d M1 v H1 h1 r1 S1 s1 => ?_
  refine S1.sub h1 fun d2 M2 v2 H2 h2 r2 S2 s2 => ?_
  exact o M2 H2 d d2 v v2 Q0 Q S2.co (r1.stp s2) r2 h2 S2.q
theorem de_op {op : Operator} {g : DOp} {r : R2} (ho : OpR X (binaryOp op) r) (o : OpD X.K g r) (ha : DE X W a ta) (hb : DE X W b tb) : DE X W (.BinOp a op b pos) (dOp g ta tb) :=
  PE.of (pe_op ho ha hb) fun _ _ _ h => lif_op o h
theorem de_un {op : UnaryOp} {g : DUn} {r : V → Hp → VK → Prop} (ho : UnR X (unaryOp op) r) (o : UnD X.K g r) (ha : DE X W a ta) : DE X W (.UnaryOp op a pos) (dUn g ta) := by
  refine PE.of (pe_un ho ha) fun σ H Q ⟨τ, M, Q0, E0, S, h⟩ => ?_
  refine S.sub h fun d M1 v H1 h1 r1 S1 s1 => ?_
  exact o M1 H1 d v Q0 Q S1.co r1 h1 S1.q
theorem de_cmp {op : CmpOp} {g : DOp} {r : R2} (ho : OpR X (compareOp op) r) (o : OpD X.K g r) (ha : DE X W a ta) (hb : DE X W b tb) (hm : behindInMarks op b = false) : DE X W (.Compare a [op] [b] pos) (dOp g ta tb) :=
  PE.of (pe_cmpR ho ha hb hm) fun _ _ _ h => lif_op o h
end
end DL
namespace DL
open PySem L2
theorem line24 : (sizeLine : Nat) = 16777216 := sizeLine_eq
def dTest (t : DTE) : DTT := fun τ M Q E => t τ M (fun d M1 => match d with
  | .bl b => Q b M1
  | _ => False) E
def dAnd (t u : DTT) : DTT := fun τ M Q E => t τ M (fun b M1 => if b = true then u τ M1 Q E else Q false M1) E
def dOr (t u : DTT) : DTT := fun τ M Q E => t τ M (fun b M1 => if b = true then Q true M1 else u τ M1 Q E) E
def dNot (t : DTT) : DTT := fun τ M Q E => t τ M (fun b M1 => Q (!b) M1) E
def dAndV (t u : DTE) : DTE := fun τ M Q E => t τ M (fun d M1 => match d with
  | .bl b => if b = true then u τ M1 Q E else Q (.bl false) M1
  | _ => False) E
def dOrV (t u : DTE) : DTE := fun τ M Q E => t τ M (fun d M1 => match d with
  | .bl b => if b = true then Q (.bl true) M1 else u τ M1 Q E
  | _ => False) E
def dNotV (t : DTE) : DTE := fun τ M Q E => t τ M (fun d M1 => match d with
  | .bl b => Q (.bl (!b)) M1
  | _ => False) E
def dIf (t : DTT) (ta tb : DTE) : DTE := fun τ M Q E => t τ M (fun b M1 => if b = true then ta τ M1 Q E else tb τ M1 Q E) E
def truD (M : Mu) : D → Option Bool
  | .non => some false
  | .bl b => some b
  | .int i => some (i != 0)
  | .str x => some !x.isEmpty
  | .lst ds => some !ds.isEmpty
  | .tup ds => some !ds.isEmpty
  | .ref a => match M a with
    | some (.lst ds) => some !ds.isEmpty
    | some (.dK kvs) => some !kvs.isEmpty
    | _ => none
  | .ty _ => none
  | .scr _ => none
  | .cl _ => none
  | .exc _ _ _ _ _ => none
def dTru (t : DTE) : DTT := fun τ M Q E => t τ M (fun d M1 => match d with
  | .str x => x.length ≤ 16777216 ∧ Q (!x.isEmpty) M1
  | d => match truD M1 d with
    | some b => Q b M1
    | none => False) E
abbrev DW (X : Cx) (W : WX) (e : Expr) (t : DTT) : Prop := PW X e (lif X.K W RB t)
theorem PW.of {X : Cx} {e : Expr} {t t0 : TT} (h : PW X e t0) (k : ∀ σ H Q, t σ H Q → t0 σ H Q) : PW X e t := ⟨fun w pins s σ H Q I q => h.run w pins s σ H Q I (k σ H Q q)⟩
theorem isE_len {α β : Type} {a : List α} {b : List β} (h : a.length = b.length) : a.isEmpty = b.isEmpty := by
  cases a <;> cases b <;> simp at h ⊢
section
variable {X : Cx} {W : WX} {a b c e o : Expr} {rest es : List Expr} {ta tb tc te to : DTE} {t u v : DTT} {pos apos cpos : Pos}
theorem lif_test {σ : L2.St} {H : Hp} {Q : Bool → Hp → Prop} (h : lif X.K W RB (dTest ta) σ H Q) : lif X.K W (RD X.K) ta σ H (fun x H' => ∃ k, x = .bl k ∧ Q k H') := by
  obtain ⟨τ, M, Q0, E0, S, h⟩ := h
  refine S.sub h fun d M1 v H1 h1 r1 S1 s1 => ?_
  cases d with
  | bl b => exact ⟨b, r1, S1.end_ h1 rfl⟩
  | _ => exact h1.elim
theorem dt_cmp {op : CmpOp} {g : DOp} {r : R2} (ho : OpR X (compareOp op) r) (oo : OpD X.K g r) (ha : DE X W a ta) (hb : DE X W b tb) (hm : behindInMarks op b = false) : DT X W (.Compare a [op] [b] pos) (dTest (dOp g ta tb)) :=
  PT.of (pt_cmpR ho ha hb hm) fun _ _ _ h => lif_op oo (lif_test h)
theorem dt_tru (ha : DE X W a ta) (he : ∀ whole, isTrue a X.env whole = (do let v ← whole; standAt a.pos; holding [v] (truthy v)) := by intro _; rfl) : DT X W a (dTru ta) := by
  refine PT.of (pt_truth ha he) fun σ H Q ⟨τ, M, Q0, E0, S, h⟩ => ?_
  refine S.sub h fun d M1 v H1 h1 r1 S1 s1 => ?_
  have z : ∀ k, TruV X.K v H1 k → Q0 k M1 → ∃ k, TruV X.K v H1 k ∧ Q k H1 := fun k h q => ⟨k, h, S1.end_ q rfl⟩
  cases d with
  | non => cases r1; exact z false rfl h1
  | bl b => cases r1; exact z b rfl h1
  | int i => cases r1; exact z _ rfl h1
  | str x =>
    cases r1
    refine z (!x.isEmpty) ⟨by rw [sx_len, line24]; exact h1.1, ?_⟩ h1.2
    rw [sx_len]
    cases x with
    | nil => rfl
    | cons a l =>
      show true = _
      have : ((List.length (a :: l) : Int) != 0) = true := by
        rw [bne_iff_ne]
        simp only [List.length_cons]
        omega
      exact this.symm
  | ty n => exact h1.elim
  | scr n => exact h1.elim
  | cl n => exact h1.elim
  | exc _ _ _ _ _ => exact h1.elim
  | lst ds =>
    obtain ⟨a, vs, e, hh, hm, hr⟩ := (show ∃ a vs, _ from r1)
    subst e
    exact z (!ds.isEmpty) (.inl ⟨vs, .inl (.inl hh), by rw [isE_len hr.length]⟩) h1
  | tup ds =>
    obtain ⟨a, vs, e, hh, hr⟩ := (show ∃ a vs, _ from r1)
    subst e
    exact z (!ds.isEmpty) (.inr (.inl ⟨vs, hh.elim (fun q => .inl (.inl q.1)) (fun q => .inr q.1), by rw [isE_len hr.length]⟩)) h1
  | ref a =>
    cases r1
    have h2 : (match (match M1 a with
      | some (.lst ds) => some !ds.isEmpty
      | some (.dK kvs) => some !kvs.isEmpty
      | _ => none) with
      | some b => Q0 b M1
      | none => False) := h1
    cases q : M1 a with
    | none => rw [q] at h2; exact h2.elim
    | some mo =>
      rw [q] at h2
      obtain ⟨ho, e1, e2⟩ := S1.co a mo q
      cases mo with
      | lst ds =>
        obtain ⟨vs, e, hr⟩ := e2
        subst e
        exact z (!ds.isEmpty) (.inl ⟨vs, .inl (.inl e1), by rw [isE_len hr.length]⟩) h2
      | dK kvs =>
        obtain ⟨ks, e, e3, hr⟩ := e2
        subst e
        refine z (!kvs.isEmpty) (.inr (.inr ⟨ks, e1, ?_⟩)) h2
        have := congrArg List.length e3
        rw [List.length_map, List.length_map] at this
        rw [isE_len this]
      | _ => exact h2.elim
theorem dt_not (h : DT X W a t) : DT X W (.UnaryOp .Not a pos) (dNot t) := PT.of (pt_not h) fun σ H Q ⟨τ, M, Q0, E0, S, h⟩ =>
  S.sub h fun d M1 v H1 h1 r1 S1 s1 => by cases r1; exact S1.end_ h1 rfl
theorem dw_and1 (h : DT X W a t) : DW X W (.BoolOp .And [a] pos) t := pw_and1 h
theorem dw_or1 (h : DT X W a t) : DW X W (.BoolOp .Or [a] pos) t := pw_or1 h
theorem dw_and (ha : DT X W a t) (hb : DW X W (.BoolOp .And (b :: rest) pos) u) : DW X W (.BoolOp .And (a :: b :: rest) pos) (dAnd t u) :=
  PW.of (pw_and ha hb) fun σ H Q ⟨τ, M, Q0, E0, S, h⟩ => S.sub h fun d M1 v H1 h1 r1 S1 s1 => by
    cases r1
    cases d with
    | true => exact S1.sub h1 fun d M2 v H2 h2 r2 S2 s2 => by cases r2; exact S2.end_ h2 rfl
    | false => exact S1.end_ h1 rfl
theorem dw_or (ha : DT X W a t) (hb : DW X W (.BoolOp .Or (b :: rest) pos) u) : DW X W (.BoolOp .Or (a :: b :: rest) pos) (dOr t u) :=
  PW.of (pw_or ha hb) fun σ H Q ⟨τ, M, Q0, E0, S, h⟩ => S.sub h fun d M1 v H1 h1 r1 S1 s1 => by
    cases r1
    cases d with
    | false => exact S1.sub h1 fun d M2 v H2 h2 r2 S2 s2 => by cases r2; exact S2.end_ h2 rfl
    | true => exact S1.end_ h1 rfl
theorem dt_w (h : DW X W a t) : DT X W a t := PW.pt h
theorem de_one {op : BoolOp} (h : DE X W a ta) : DE X W (.BoolOp op [a] pos) ta := pe_one h
theorem de_and (ha : DE X W a ta) (hb : DE X W (.BoolOp .And (b :: rest) pos) tb) : DE X W (.BoolOp .And (a :: b :: rest) pos) (dAndV ta tb) :=
  PE.of (pe_and ha hb) fun σ H Q ⟨τ, M, Q0, E0, S, h⟩ => S.sub h fun d M1 v H1 h1 r1 S1 s1 => by
    cases d with
    | bl c =>
      refine ⟨c, r1, ?_⟩
      cases c with
      | true => exact S1.sub h1 fun d M2 v H2 h2 r2 S2 s2 => S2.end_ h2 r2
      | false => exact S1.end_ h1 rfl
    | _ => exact h1.elim
theorem de_not (ha : DE X W a ta) : DE X W (.UnaryOp .Not a pos) (dNotV ta) :=
  PE.of (pe_not ha) fun σ H Q ⟨τ, M, Q0, E0, S, h⟩ => S.sub h fun d M1 v H1 h1 r1 S1 s1 => by
    cases d with
    | bl c => exact ⟨c, r1, S1.end_ h1 rfl⟩
    | _ => exact h1.elim
def daNil : DTA := fun _ M Q _ => Q [] M
def daCons (te : DTE) (ta : DTA) : DTA := fun τ M Q E => te τ M (fun d M1 => ta τ M1 (fun ds M2 => Q (d :: ds) M2) E) E
def dLst (ta : DTA) : DTE := fun τ M Q E => ta τ M (fun ds M1 => ds.length ≤ 16777216 ∧ Q (.lst ds) M1) E
def dLstM (ta : DTA) : DTE := fun τ M Q E => ta τ M (fun ds M1 => ds.length ≤ 16777216 ∧ ∀ p, M1 p = none → Q (.ref p) (put M1 p (.lst ds))) E
def dTup (ta : DTA) : DTE := fun τ M Q E => ta τ M (fun ds M1 => ds.length ≤ 16777216 ∧ Q (.tup ds) M1) E
variable {tl : DTA}
theorem da_nil : DA X W [] daNil := PA.of pa_nil fun σ H Q ⟨τ, M, Q0, E0, S, h⟩ => S.end_ h Reps.nil
theorem da_cons (ha : DE X W e te) (hr : DA X W es tl) (hs : starEach (e :: es) X.env = (false, eval e X.env) :: starEach es X.env := by rfl) : DA X W (e :: es) (daCons te tl) :=
  PA.of (pa_cons ha hr hs) fun σ H Q ⟨τ, M, Q0, E0, S, h⟩ => S.sub h fun d M1 v H1 h1 r1 S1 s1 => S1.sub h1 fun ds M2 vs H2 h2 r2 S2 s2 => S2.end_ h2 (.cons (r1.stp s2) r2)
theorem rep_lst {K : PySem.W.Frag} {M : Mu} {H : Hp} {p : Addr} {ds : List D} {vs : List V} (h : H p = some (.lst vs)) (m : M p = none) (r : Reps K M H ds vs) : Rep K M H (.lst ds) (.ref p) := by
  unfold Rep
  exact ⟨p, vs, rfl, h, m, r⟩
theorem rep_tup {K : PySem.W.Frag} {M : Mu} {H : Hp} {p : Addr} {ds : List D} {vs : List V} (h : H p = some (.tup vs)) (m : M p = none) (r : Reps K M H ds vs) : Rep K M H (.tup ds) (.ref p) := by
  unfold Rep
  exact ⟨p, vs, rfl, .inl ⟨h, m⟩, r⟩
theorem new_lst {K : PySem.W.Frag} {M : Mu} {H : Hp} {ds : List D} {vs : List V} {Q0 : DK} {Q : VK} (c : Cor K M H) (r : Reps K M H ds vs) (h : Q0 (.lst ds) M)
    (q : ∀ d M' z H', Q0 d M' → Rep K M' H' d z → Cor K M' H' → Stp M H M' H' → Q z H') (p : Addr) (hp : H p = none) : Q (.ref p) (upd H p (.lst vs)) :=
  q _ M _ _ h (rep_lst upd_same (c.free hp) (r.stp (Stp.new hp))) (c.new hp) (Stp.new hp)
theorem new_tup {K : PySem.W.Frag} {M : Mu} {H : Hp} {ds : List D} {vs : List V} {Q0 : DK} {Q : VK} (c : Cor K M H) (r : Reps K M H ds vs) (h : Q0 (.tup ds) M)
    (q : ∀ d M' z H', Q0 d M' → Rep K M' H' d z → Cor K M' H' → Stp M H M' H' → Q z H') (p : Addr) (hp : H p = none) : Q (.ref p) (upd H p (.tup vs)) :=
  q _ M _ _ h (rep_tup upd_same (c.free hp) (r.stp (Stp.new hp))) (c.new hp) (Stp.new hp)
theorem new_lstM {K : PySem.W.Frag} {M : Mu} {H : Hp} {ds : List D} {vs : List V} {Q0 : DK} {Q : VK} (c : Cor K M H) (r : Reps K M H ds vs) (h : ∀ p, M p = none → Q0 (.ref p) (put M p (.lst ds)))
    (q : ∀ d M' z H', Q0 d M' → Rep K M' H' d z → Cor K M' H' → Stp M H M' H' → Q z H') (p : Addr) (hp : H p = none) : Q (.ref p) (upd H p (.lst vs)) :=
  q _ _ _ _ (h p (c.free hp)) rfl (c.newM hp ⟨vs, rfl, r⟩) (Stp.newM hp)
theorem de_lst (h : DA X W es tl) : DE X W (.List es pos) (dLst tl) := PE.of (pe_lst h) fun σ H Q ⟨τ, M, Q0, E0, S, h⟩ => S.sub h fun ds M1 vs H1 h1 r1 S1 s1 =>
  ⟨by rw [r1.length, line24]; exact h1.1, new_lst S1.co r1 h1.2 S1.q⟩
theorem de_lstM (h : DA X W es tl) : DE X W (.List es pos) (dLstM tl) := PE.of (pe_lst h) fun σ H Q ⟨τ, M, Q0, E0, S, h⟩ => S.sub h fun ds M1 vs H1 h1 r1 S1 s1 =>
  ⟨by rw [r1.length, line24]; exact h1.1, new_lstM S1.co r1 h1.2 S1.q⟩
theorem de_tup {x1 : Nat} (h : DA X W es tl) : DE X W (.Tuple es x1 pos) (dTup tl) := PE.of (pe_tup h) fun σ H Q ⟨τ, M, Q0, E0, S, h⟩ => S.sub h fun ds M1 vs H1 h1 r1 S1 s1 =>
  ⟨by rw [r1.length, line24]; exact h1.1, new_tup S1.co r1 h1.2 S1.q⟩
def dFrz (te : DTE) : DTE := fun τ M Q E => te τ M (fun d M1 => match d with
  | .ref a => (match M1 a with
    | some (.lst ds) => Q (.lst ds) (del M1 a)
    | _ => False)
  | _ => False) E
theorem de_frz (h : DE X W e te) : DE X W e (dFrz te) := PE.of h fun σ H Q ⟨τ, M, Q0, E0, S, h⟩ => S.sub h fun d M1 v H1 h1 r1 S1 s1 => by
  cases d with
  | ref a =>
    cases r1
    have h2 : (match M1 a with
      | some (.lst ds) => Q0 (.lst ds) (del M1 a)
      | _ => False) := h1
    cases q : M1 a with
    | none => rw [q] at h2; exact h2.elim
    | some mo =>
      rw [q] at h2
      cases mo with
      | lst ds =>
        obtain ⟨o, e1, vs, e2, r⟩ := S1.co a _ q
        subst e2
        exact S1.q _ _ _ _ h2 (rep_lst e1 del_same (r.stp Stp.frz)) S1.co.frz Stp.frz
      | _ => exact h2.elim
  | _ => exact h1.elim
abbrev DSp := List D → Mu → DK → DX → Prop
def lsp (K : PySem.W.Frag) (sp : DSp) : Sp := fun vs H Q E => ∃ ds M Q0 E0, Reps K M H ds vs ∧ Cor K M H ∧ sp ds M Q0 E0 ∧ (∀ d M' v H', Q0 d M' → Rep K M' H' d v → Cor K M' H' → Stp M H M' H' → Q v H') ∧
  ∀ x M' c d H', E0 x M' → RepX K M' H' x c d → Cor K M' H' → Stp M H M' H' → E c d H'
structure FnM (P : Program) (w : World) (K : PySem.W.Frag) (mg : Str → Option Value) (base : Heap) (k : Nat) (x : Str) (sp : DSp) : Prop where
  ex : ∃ f fd ps, FnOk P w K mg base (L2N.CX P w) k f fd ps (lsp K sp) ∧ mg x = some (.ref f) ∧ PySem.W.keepIn K (.ref f) = true ∧ Binds K fd ps []
def dCall (sp : DSp) (ta : DTA) : DTE := fun τ M Q E => ta τ M (fun ds M1 => sp ds M1 Q E) E
theorem de_call {k : Nat} {x : Str} {sp : DSp} {p : Pos} (F : FnM X.prog X.w X.K X.mg X.base k x sp) (G : Gd X W) (hr : Room k X.A) (ha : DA X W (e :: es) tl) (hg : Gl X x := by rfl) (hdb : (x == ("__debug__" : Str)) = false := by decide)
    (he : starEach (e :: es) X.env = (false, eval e X.env) :: starEach es X.env := by rfl) (hpl : (backTo pos (starEach es X.env)).any (·.1) = false := by rfl) : DE X W (.Call (.Name x p) (e :: es) [] pos) (dCall sp tl) := by
  obtain ⟨f, fd, ps, Fk, hm, hk, hb⟩ := F.ex
  exact PE.of (pe_callS Fk hr hg hm hk hb (E := WE W) (L2N.passAt G.tk) ha hdb he hpl) fun σ H Q ⟨τ, M, Q0, E0, S, h⟩ => S.sub h fun ds M1 vs H1 h1 r1 S1 s1 =>
    ⟨ds, M1, Q0, E0, r1, S1.co, h1, S1.q, S1.e⟩
def cut {α : Type} (xs : List α) (lo hi : Option Int) : List α := (xs.drop (HT.sIx xs.length 0 lo)).take (HT.sIx xs.length xs.length hi - HT.sIx xs.length 0 lo)
abbrev DTO := DR (Option Int)
abbrev RO : Mu → Hp → Option Int → Option Int → Prop := fun _ _ a b => b = a
abbrev DO (X : Cx) (W : WX) (e : Option Expr) (t : DTO) : Prop := PO X e (lif X.K W RO t)
theorem PO.of {X : Cx} {e : Option Expr} {t t0 : TO} (h : PO X e t0) (k : ∀ σ H Q, t σ H Q → t0 σ H Q) : PO X e t := ⟨fun pins s σ H Q I q => h.run pins s σ H Q I (k σ H Q q)⟩
def doNone : DTO := fun _ M Q _ => Q none M
def doSome (te : DTE) : DTO := fun τ M Q E => te τ M (fun d M1 => match d with
  | .int i => Q (some i) M1
  | _ => False) E
theorem do_none : DO X W none doNone := PO.of po_none fun σ H Q ⟨τ, M, Q0, E0, S, h⟩ => S.end_ h rfl
theorem do_some (h : DE X W e te) : DO X W (some e) (doSome te) := PO.of (po_some h) fun σ H Q ⟨τ, M, Q0, E0, S, h⟩ => S.sub h fun d M1 v H1 h1 r1 S1 s1 => by
  cases d with
  | int i => exact ⟨i, r1, S1.end_ h1 rfl⟩
  | _ => exact h1.elim
def gSl (d : D) (lo hi : Option Int) (M : Mu) (Q : DK) : Prop := match d with
  | .str x => x.length ≤ 16777216 ∧ Q (.str (cut x lo hi)) M
  | .lst ds => Q (.lst (cut ds lo hi)) M
  | .tup ds => ¬ (HT.sIx ds.length 0 lo = 0 ∧ HT.sIx ds.length ds.length hi = ds.length) ∧ Q (.tup (cut ds lo hi)) M
  | .ref a => (match M a with
    | some (.lst ds) => Q (.lst (cut ds lo hi)) M
    | _ => False)
  | _ => False
def dSl (te : DTE) (tl th : DTO) : DTE := fun τ M Q E => te τ M (fun d M1 => tl τ M1 (fun lo M2 => th τ M2 (fun hi M3 => gSl d lo hi M3 Q) E) E) E
theorem cut_rep {K : PySem.W.Frag} {M : Mu} {H : Hp} {ds : List D} {vs : List V} (lo hi : Option Int) (r : Reps K M H ds vs) : Reps K M H (cut ds lo hi) (cutV vs lo hi) := by
  unfold cut cutV
  rw [r.length]
  exact (r.drop _).take _
theorem de_sl {lo hi : Option Expr} {tl th : DTO} {p2 : Pos} (he : DE X W e te) (hl : DO X W lo tl) (hu : DO X W hi th) : DE X W (.Subscript e (.Slice lo hi none p2) pos) (dSl te tl th) :=
  PE.of (pe_slice (sl_list.or (sl_str.or sl_tup)) he hl hu) fun σ H Q ⟨τ, M, Q0, E0, S, h⟩ => S.sub h fun d M1 v H1 h1 r1 S1 s1 => S1.sub h1 fun l M2 v2 H2 h2 r2 S2 s2 => S2.sub h2 fun u M3 v3 H3 h3 r3 S3 s3 => by
    cases r2
    cases r3
    have r := r1.stp (s2.trans s3)
    cases d with
    | str x =>
      cases r
      refine .inr (.inl ⟨sx x, rfl, by rw [sx_len, line24]; exact h3.1, S3.end_ h3.2 ?_⟩)
      show V.str (cutS (sx x) l u) = V.str (sx (cut x l u))
      unfold cutS cut
      rw [sx_len]
      rfl
    | lst ds =>
      obtain ⟨a, vs, e, hh, hm, hr⟩ := (show ∃ a vs, _ from r)
      exact .inl ⟨a, vs, e, .inl (.inl hh), new_lst S3.co (cut_rep l u hr) h3 S3.q⟩
    | tup ds =>
      obtain ⟨a, vs, e, hh, hr⟩ := (show ∃ a vs, _ from r)
      exact .inr (.inr ⟨a, vs, e, hh.elim (fun q => .inl (.inl q.1)) (fun q => .inr q.1), by rw [hr.length]; exact h3.1, new_tup S3.co (cut_rep l u hr) h3.2 S3.q⟩)
    | ref a =>
      cases r
      have h2 : (match M3 a with
        | some (.lst ds) => Q0 (.lst (cut ds l u)) M3
        | _ => False) := h3
      cases q : M3 a with
      | none => rw [q] at h2; exact h2.elim
      | some mo =>
        rw [q] at h2
        cases mo with
        | lst ds =>
          obtain ⟨o, e1, vs, e2, hr⟩ := S3.co a _ q
          subst e2
          exact .inl ⟨a, vs, rfl, .inl (.inl e1), new_lst S3.co (cut_rep l u hr) h2 S3.q⟩
        | _ => exact h2.elim
    | _ => exact h3.elim
end
end DL
namespace DL
open PySem L2
def gAdd : DOp := fun x y M Q => match x, y with
  | .int i, .int j => Q (.int (i + j)) M
  | .str a, .str b => a.length + b.length ≤ 16777216 ∧ Q (.str (a ++ b)) M
  | .lst a, .lst b => a.length + b.length ≤ 16777216 ∧ Q (.lst (a ++ b)) M
  | .tup a, .tup b => a ≠ [] ∧ a.length + b.length ≤ 16777216 ∧ Q (.tup (a ++ b)) M
  | .ref p, .lst b => (match M p with
    | some (.lst a) => a.length + b.length ≤ 16777216 ∧ Q (.lst (a ++ b)) M
    | _ => False)
  | .lst a, .ref p => (match M p with
    | some (.lst b) => a.length + b.length ≤ 16777216 ∧ Q (.lst (a ++ b)) M
    | _ => False)
  | _, _ => False
def gSub : DOp := fun x y M Q => match x, y with
  | .int i, .int j => Q (.int (i - j)) M
  | _, _ => False
def gMul : DOp := fun x y M Q => match x, y with
  | .int i, .int j => CMul i j ∧ Q (.int (i * j)) M
  | _, _ => False
def gDiv : DOp := fun x y M Q => match x, y with
  | .int i, .int j => CDiv i j ∧ Q (.int (i / j)) M
  | _, _ => False
def gMod : DOp := fun x y M Q => match x, y with
  | .int i, .int j => 0 < j ∧ Q (.int (i % j)) M
  | _, _ => False
def gPow : DOp := fun x y M Q => match x, y with
  | .int i, .int j => CPow i j ∧ Q (.int (i ^ j.toNat)) M
  | _, _ => False
def gNeg : DUn := fun x M Q => match x with
  | .int i => Q (.int (-i)) M
  | _ => False
def gInt (p : Int → Int → Bool) : DOp := fun x y M Q => match x, y with
  | .int i, .int j => Q (.bl (p i j)) M
  | _, _ => False
abbrev gLt : DOp := gInt fun i j => decide (i < j)
abbrev gGt : DOp := gInt fun i j => decide (j < i)
abbrev gGe : DOp := gInt fun i j => decide (j ≤ i)
section
variable {K : PySem.W.Frag}
theorem od_int {g : Int → Int → V} {gd : Int → Int → D} (hg : ∀ i j M H, Rep K M H (gd i j) (g i j)) {f : DOp} (hf : ∀ x y M Q, f x y M Q → ∃ i j, x = .int i ∧ y = .int j ∧ Q (gd i j) M) : OpD K f (rI0 g) :=
  fun M H x y v u Q0 Q c rx ry h q => by
    obtain ⟨i, j, rfl, rfl, h'⟩ := hf x y M Q0 h
    cases rx; cases ry
    exact ⟨i, j, rfl, rfl, q _ M _ H h' (hg i j M H) c (Stp.refl M H)⟩
theorem od_intC {C : Int → Int → Prop} {g : Int → Int → V} {gd : Int → Int → D} (hg : ∀ i j M H, Rep K M H (gd i j) (g i j)) {f : DOp} (hf : ∀ x y M Q, f x y M Q → ∃ i j, x = .int i ∧ y = .int j ∧ C i j ∧ Q (gd i j) M) : OpD K f (rI C g) :=
  fun M H x y v u Q0 Q c rx ry h q => by
    obtain ⟨i, j, rfl, rfl, hc, h'⟩ := hf x y M Q0 h
    cases rx; cases ry
    exact ⟨i, j, rfl, rfl, hc, q _ M _ H h' (hg i j M H) c (Stp.refl M H)⟩
theorem od_sub : OpD K gSub (rI0 fun i j => .int (i - j)) := od_int (gd := fun i j => .int (i - j)) (fun _ _ _ _ => rfl) fun x y M Q h => by
  cases x <;> cases y <;> first | exact ⟨_, _, rfl, rfl, h⟩ | exact h.elim
theorem od_mul : OpD K gMul (rI CMul fun i j => .int (i * j)) := od_intC (gd := fun i j => .int (i * j)) (fun _ _ _ _ => rfl) fun x y M Q h => by
  cases x <;> cases y <;> first | exact ⟨_, _, rfl, rfl, h⟩ | exact h.elim
theorem od_div : OpD K gDiv (rI CDiv fun i j => .int (i / j)) := od_intC (gd := fun i j => .int (i / j)) (fun _ _ _ _ => rfl) fun x y M Q h => by
  cases x <;> cases y <;> first | exact ⟨_, _, rfl, rfl, h⟩ | exact h.elim
theorem od_mod : OpD K gMod (rI (fun _ j => 0 < j) fun i j => .int (i % j)) := od_intC (gd := fun i j => .int (i % j)) (fun _ _ _ _ => rfl) fun x y M Q h => by
  cases x <;> cases y <;> first | exact ⟨_, _, rfl, rfl, h⟩ | exact h.elim
theorem od_pow : OpD K gPow (rI CPow fun i j => .int (i ^ j.toNat)) := od_intC (gd := fun i j => .int (i ^ j.toNat)) (fun _ _ _ _ => rfl) fun x y M Q h => by
  cases x <;> cases y <;> first | exact ⟨_, _, rfl, rfl, h⟩ | exact h.elim
theorem od_b {p : Int → Int → Bool} : OpD K (gInt p) (rI0 fun i j => .bl (p i j)) := od_int (gd := fun i j => .bl (p i j)) (fun _ _ _ _ => rfl) fun x y M Q h => by
  cases x <;> cases y <;> first | exact ⟨_, _, rfl, rfl, h⟩ | exact h.elim
theorem ud_neg : UnD K gNeg (rU fun i => .int (-i)) := fun M H x v Q0 Q c r h q => by
  cases x with
  | int i => cases r; exact ⟨i, rfl, q _ M _ H h rfl c (Stp.refl M H)⟩
  | _ => exact h.elim
def rAddA (K : PySem.W.Frag) : R2 := fun x y H Q => (rI0 (fun i j => .int (i + j)) x y H Q ∨ (∃ i j, x = .str i ∧ y = .str j ∧ i.length + j.length ≤ sizeLine ∧ Q (.str (i ++ j)) H)) ∨ (rCat x y H Q ∨ rCatT K x y H Q)
theorem op_addA {X : Cx} : OpR X (binaryOp .Add) (rAddA X.K) := (op_add.or op_add_str).or (op_cat.or op_catT)
theorem rep_of_lst {M : Mu} {H : Hp} {ds : List D} {v : V} (r : Rep K M H (.lst ds) v) : ∃ a vs, v = .ref a ∧ H a = some (.lst vs) ∧ M a = none ∧ Reps K M H ds vs := r
theorem rep_of_tup {M : Mu} {H : Hp} {ds : List D} {v : V} (r : Rep K M H (.tup ds) v) : ∃ a vs, v = .ref a ∧ ((H a = some (.tup vs) ∧ M a = none) ∨ WrN K a vs) ∧ Reps K M H ds vs := r
theorem sqT_of {H : Hp} {M : Mu} {a : Addr} {vs : List V} (h : (H a = some (.tup vs) ∧ M a = none) ∨ WrN K a vs) : SqT K H a vs := h.elim (fun q => .inl (.inl q.1)) fun q => .inr q.1
theorem noI_str {zs : List Str} : ∀ i, V.int i ∉ zs.map V.str := fun i h => by
  obtain ⟨z, _, e⟩ := List.mem_map.mp h
  cases e
theorem WrT.n {a : Addr} {zs : List Str} (h : WrT K a (zs.map V.str)) : WrN K a (zs.map V.str) := ⟨h, noI_str⟩
theorem mu_lst {M : Mu} {H : Hp} {a : Addr} {ds : List D} (c : Cor K M H) (h : M a = some (.lst ds)) : ∃ vs, H a = some (.lst vs) ∧ Reps K M H ds vs := by
  obtain ⟨o, e1, vs, e2, hr⟩ := c a _ h
  exact ⟨vs, by rw [e1, e2], hr⟩
theorem mu_dK {M : Mu} {H : Hp} {a : Addr} {kvs : List (DKey × D)} (c : Cor K M H) (h : M a = some (.dK kvs)) : ∃ ks, H a = some (.dK ks) ∧ ks.map (·.1) = kvs.map (fun q => kO q.1) ∧ Reps K M H (kvs.map (·.2)) (ks.map (·.2)) := by
  obtain ⟨o, e1, ks, e2, e3, hr⟩ := c a _ h
  exact ⟨ks, by rw [e1, e2], e3, hr⟩
theorem mu_fK {M : Mu} {H : Hp} {a : Addr} {kvs : List (DKey × D)} {u : HO} (c : Cor K M H) (h : M a = some (.fK kvs u)) : ∃ od ks, H a = some (.frz od (.dK ks)) ∧ u = .frz od (.dK ks) ∧ ks.map (·.1) = kvs.map (fun q => kO q.1) ∧ Reps K M H (kvs.map (·.2)) (ks.map (·.2)) := by
  obtain ⟨o, e1, e0, od, ks, e2, e3, hr⟩ := c a _ h
  exact ⟨od, ks, by rw [e1, e0, e2], e2, e3, hr⟩
theorem mu_dR {M : Mu} {H : Hp} {a : Addr} {mo : MO} {kvs : List (DKey × D)} (c : Cor K M H) (h : M a = some mo) (hk : dOf mo = some kvs) : ∃ ks, Rd H a (.dK ks) ∧ ks.map (·.1) = kvs.map (fun q => kO q.1) ∧ Reps K M H (kvs.map (·.2)) (ks.map (·.2)) := by
  cases mo with
  | dK l =>
    cases hk
    obtain ⟨ks, h1, h2, h3⟩ := mu_dK c h
    exact ⟨ks, .inl h1, h2, h3⟩
  | fK l u =>
    cases hk
    obtain ⟨od, ks, h1, _, h2, h3⟩ := mu_fK c h
    exact ⟨ks, .inr ⟨od, h1⟩, h2, h3⟩
  | _ => cases hk
theorem od_add : OpD K gAdd (rAddA K) := fun M H x y v u Q0 Q c rx ry h q => by
  cases x with
  | int i =>
    cases y with
    | int j =>
      cases rx; cases ry
      exact .inl (.inl ⟨i, j, rfl, rfl, q _ M _ H h rfl c (Stp.refl M H)⟩)
    | _ => exact h.elim
  | str i =>
    cases y with
    | str j =>
      cases rx; cases ry
      refine .inl (.inr ⟨sx i, sx j, rfl, rfl, by rw [sx_len, sx_len, line24]; exact h.1, ?_⟩)
      rw [sx_add]
      exact q _ M _ H h.2 rfl c (Stp.refl M H)
    | _ => exact h.elim
  | lst xs =>
    obtain ⟨a, vs, rfl, ha, ma, ra⟩ := rep_of_lst rx
    cases y with
    | lst ys =>
      obtain ⟨b, us, rfl, hb, mb, rb⟩ := rep_of_lst ry
      exact .inr (.inl ⟨a, b, vs, us, rfl, rfl, ha, hb, by rw [ra.length, rb.length, line24]; exact h.1, new_lst c (ra.append rb) h.2 q⟩)
    | ref b =>
      cases ry
      have h2 : (match M b with
        | some (.lst ys) => xs.length + ys.length ≤ 16777216 ∧ Q0 (.lst (xs ++ ys)) M
        | _ => False) := h
      cases e : M b with
      | none => rw [e] at h2; exact h2.elim
      | some mo =>
        rw [e] at h2
        cases mo with
        | lst ys =>
          obtain ⟨us, hb, rb⟩ := mu_lst c e
          exact .inr (.inl ⟨a, b, vs, us, rfl, rfl, ha, hb, by rw [ra.length, rb.length, line24]; exact h2.1, new_lst c (ra.append rb) h2.2 q⟩)
        | _ => exact h2.elim
    | _ => exact h.elim
  | tup xs =>
    obtain ⟨a, vs, rfl, ha, ra⟩ := rep_of_tup rx
    cases y with
    | tup ys =>
      obtain ⟨b, us, rfl, hb, rb⟩ := rep_of_tup ry
      refine .inr (.inr ⟨a, b, vs, us, rfl, rfl, sqT_of ha, sqT_of hb, ?_, by rw [ra.length, rb.length, line24]; exact h.2.1, fun z => ?_, fun _ => new_tup c (ra.append rb) h.2.2 q⟩)
      rotate_left
      · have l := rb.length
        rw [z] at l
        have e : ys = [] := List.eq_nil_of_length_eq_zero l.symm
        subst e
        have h3 := h.2.2
        rw [List.append_nil] at h3
        exact q _ M _ H h3 rx c (Stp.refl M H)
      intro z
      have := ra.length
      rw [z] at this
      exact h.1 (List.eq_nil_of_length_eq_zero this.symm)
    | _ => exact h.elim
  | ref a =>
    cases rx
    cases y with
    | lst ys =>
      obtain ⟨b, us, rfl, hb, mb, rb⟩ := rep_of_lst ry
      have h2 : (match M a with
        | some (.lst xs) => xs.length + ys.length ≤ 16777216 ∧ Q0 (.lst (xs ++ ys)) M
        | _ => False) := h
      cases e : M a with
      | none => rw [e] at h2; exact h2.elim
      | some mo =>
        rw [e] at h2
        cases mo with
        | lst xs =>
          obtain ⟨vs, ha, ra⟩ := mu_lst c e
          exact .inr (.inl ⟨a, b, vs, us, rfl, rfl, ha, hb, by rw [ra.length, rb.length, line24]; exact h2.1, new_lst c (ra.append rb) h2.2 q⟩)
        | _ => exact h2.elim
    | _ => exact h.elim
  | _ => exact h.elim
mutual
def pd : D → PyData
  | .non => .none
  | .bl b => .bool b
  | .int i => .int i
  | .str x => .str (sx x)
  | .ref _ => .dict []
  | .ty _ => .dict []
  | .scr _ => .dict []
  | .cl _ => .dict []
  | .exc _ _ _ _ _ => .dict []
  | .lst ds => .list (pds ds)
  | .tup ds => .tuple (pds ds)
def pds : List D → List PyData
  | [] => []
  | d :: ds => pd d :: pds ds
end
mutual
def plain : D → Bool
  | .ref _ => false
  | .ty _ => false
  | .scr _ => false
  | .cl _ => false
  | .exc _ _ _ _ _ => false
  | .lst ds => plains ds
  | .tup ds => plains ds
  | _ => true
def plains : List D → Bool
  | [] => true
  | d :: ds => plain d && plains ds
end
mutual
theorem dp_of {M : Mu} {H : Hp} : ∀ {d : D} {v : V}, plain d = true → Rep K M H d v → Dp K H v (pd d)
  | .non, v, _, r => by cases (show v = _ from r); exact .non
  | .bl _, v, _, r => by cases (show v = _ from r); exact .bl _
  | .int _, v, _, r => by cases (show v = _ from r); exact .int _
  | .str _, v, _, r => by cases (show v = _ from r); exact .str _
  | .ref _, _, h, _ => by cases h
  | .ty _, _, h, _ => by cases h
  | .scr _, _, h, _ => by cases h
  | .cl _, _, h, _ => by cases h
  | .exc _ _ _ _ _, _, h, _ => by cases h
  | .lst ds, v, h, r => by
    obtain ⟨a, vs, rfl, ha, _, ra⟩ := rep_of_lst r
    unfold pd
    exact .lst (.inl (.inl ha)) (dps_of h ra)
  | .tup ds, v, h, r => by
    obtain ⟨a, vs, rfl, ha, ra⟩ := rep_of_tup r
    unfold pd
    exact .tup (sqT_of ha) (dps_of h ra)
theorem dps_of {M : Mu} {H : Hp} : ∀ {ds : List D} {vs : List V}, plains ds = true → Reps K M H ds vs → DpAll K H vs (pds ds)
  | [], vs, _, r => by cases (show vs = [] from r); exact .nil
  | d :: ds, vs, h, r => by
    obtain ⟨v, u, rfl, r1, r2⟩ := r.uncons
    have h2 : plain d = true ∧ plains ds = true := by
      have : (plain d && plains ds) = true := h
      rwa [Bool.and_eq_true] at this
    exact .cons (dp_of h2.1 r1) (dps_of h2.2 r2)
end
def eqOk (d : D) : Bool := plain d && SeqAt.shaped (pd d)
def unlike : D → D → Bool
  | .non, .int _ => true | .int _, .non => true | .non, .bl _ => true | .bl _, .non => true | .non, .str _ => true | .str _, .non => true
  | .int _, .str _ => true | .str _, .int _ => true | .bl _, .str _ => true | .str _, .bl _ => true
  | _, _ => false
def gEqN (nb : Bool → Bool) : DOp := fun x y M Q => match x, y with
  | .int i, .int j => Q (.bl (nb (decide (i = j)))) M
  | .str a, .str b => Q (.bl (nb (decide (a = b)))) M
  | .bl a, .bl b => Q (.bl (nb (decide (a = b)))) M
  | .non, .non => Q (.bl (nb true)) M
  | .lst a, .lst b => eqOk (.lst a) = true ∧ eqOk (.lst b) = true ∧ Q (.bl (nb (PyData.eqv (.list (pds a)) (.list (pds b))))) M
  | .tup a, .tup b => eqOk (.tup a) = true ∧ eqOk (.tup b) = true ∧ Q (.bl (nb (PyData.eqv (.tuple (pds a)) (.tuple (pds b))))) M
  | .ref p, .lst b => (match M p with
    | some (.lst a) => eqOk (.lst a) = true ∧ eqOk (.lst b) = true ∧ Q (.bl (nb (PyData.eqv (.list (pds a)) (.list (pds b))))) M
    | _ => False)
  | .lst a, .ref p => (match M p with
    | some (.lst b) => eqOk (.lst a) = true ∧ eqOk (.lst b) = true ∧ Q (.bl (nb (PyData.eqv (.list (pds a)) (.list (pds b))))) M
    | _ => False)
  | x, y => unlike x y = true ∧ Q (.bl (nb false)) M
abbrev gEq : DOp := gEqN id
abbrev gNe : DOp := gEqN not
def rEqN (nb : Bool → Bool) (K : PySem.W.Frag) : R2 := fun x y H Q => (scal x y = true ∧ Q (.bl (nb (decide (x = y)))) H) ∨ ∃ d e, Dp K H x d ∧ Dp K H y e ∧ SeqAt.shaped d = true ∧ SeqAt.shaped e = true ∧ Q (.bl (nb (PyData.eqv d e))) H
theorem op_eqN {X : Cx} {W : WX} (G : Gd X W) : OpR X (compareOp .Eq) (rEqN id X.K) := op_eq.or (op_eqD G.hu)
theorem op_neN {X : Cx} {W : WX} (G : Gd X W) : OpR X (compareOp .NotEq) (rEqN not X.K) := op_ne.or (op_neD G.hu)
theorem ba {a b : Bool} (h : (a && b) = true) : a = true ∧ b = true := Bool.and_eq_true_iff.mp h
theorem dp_mu {M : Mu} {H : Hp} {a : Addr} {ds : List D} (c : Cor K M H) (h : M a = some (.lst ds)) (p : plain (.lst ds) = true) : Dp K H (.ref a) (pd (.lst ds)) := by
  obtain ⟨vs, ha, ra⟩ := mu_lst c h
  unfold pd
  exact .lst (.inl (.inl ha)) (dps_of p ra)
theorem od_eq {nb : Bool → Bool} : OpD K (gEqN nb) (rEqN nb K) := fun M H x y v u Q0 Q c rx ry h q => by
  have fin : ∀ b, Q0 (.bl b) M → Q (.bl b) H := fun b z => q _ M _ H z rfl c (Stp.refl M H)
  have deep : ∀ {x y : D} {v u : V}, Dp K H v (pd x) → Dp K H u (pd y) → eqOk x = true → eqOk y = true → Q0 (.bl (nb (PyData.eqv (pd x) (pd y)))) M → rEqN nb K v u H Q := fun {x y v u} d1 d2 ex ey z =>
    .inr ⟨_, _, d1, d2, (ba ex).2, (ba ey).2, fin _ z⟩
  have un : ∀ b, unlike x y = true → b = false → Q0 (.bl (nb b)) M → scal v u = true → decide (v = u) = false → rEqN nb K v u H Q := fun b _ eb z s e => .inl ⟨s, by rw [e, ← eb]; exact fin _ z⟩
  cases x with
  | non => cases y <;> first
    | (cases rx; cases ry; exact .inl ⟨rfl, fin _ h⟩)
    | (cases rx; cases ry; exact .inl ⟨rfl, fin _ h.2⟩)
    | exact absurd h.1 Bool.false_ne_true
  | bl a => cases y <;> first
    | (cases rx; cases ry; refine .inl ⟨rfl, ?_⟩; rename_i b; rw [show decide (V.bl a = V.bl b) = decide (a = b) by simp]; exact fin _ h)
    | (cases rx; cases ry; exact .inl ⟨rfl, fin _ h.2⟩)
    | exact absurd h.1 Bool.false_ne_true
  | int a => cases y <;> first
    | (cases rx; cases ry; refine .inl ⟨rfl, ?_⟩; rename_i b; rw [show decide (V.int a = V.int b) = decide (a = b) by simp]; exact fin _ h)
    | (cases rx; cases ry; exact .inl ⟨rfl, fin _ h.2⟩)
    | exact absurd h.1 Bool.false_ne_true
  | str a => cases y <;> first
    | (cases rx; cases ry; refine .inl ⟨rfl, ?_⟩; rename_i b; rw [show decide (V.str (sx a) = V.str (sx b)) = decide (a = b) by
          rw [decide_eq_decide]; exact ⟨fun z => sx_inj (V.str.inj z), fun z => by rw [z]⟩]; exact fin _ h)
    | (cases rx; cases ry; exact .inl ⟨rfl, fin _ h.2⟩)
    | exact absurd h.1 Bool.false_ne_true
  | lst a => cases y with
    | lst b => exact deep (x := .lst a) (y := .lst b) (dp_of (ba h.1).1 rx) (dp_of (ba h.2.1).1 ry) h.1 h.2.1 (by unfold pd; exact h.2.2)
    | ref p =>
      cases ry
      have h2 : (match M p with
        | some (.lst b) => eqOk (.lst a) = true ∧ eqOk (.lst b) = true ∧ Q0 (.bl (nb (PyData.eqv (.list (pds a)) (.list (pds b))))) M
        | _ => False) := h
      cases e : M p with
      | none => rw [e] at h2; exact h2.elim
      | some mo =>
        rw [e] at h2
        cases mo with
        | lst b => exact deep (x := .lst a) (y := .lst b) (dp_of (ba h2.1).1 rx) (dp_mu c e (ba h2.2.1).1) h2.1 h2.2.1 (by unfold pd; exact h2.2.2)
        | _ => exact h2.elim
    | _ => exact absurd h.1 Bool.false_ne_true
  | tup a => cases y with
    | tup b => exact deep (x := .tup a) (y := .tup b) (dp_of (ba h.1).1 rx) (dp_of (ba h.2.1).1 ry) h.1 h.2.1 (by unfold pd; exact h.2.2)
    | _ => exact absurd h.1 Bool.false_ne_true
  | ref p => cases y with
    | lst b =>
      cases rx
      have h2 : (match M p with
        | some (.lst a) => eqOk (.lst a) = true ∧ eqOk (.lst b) = true ∧ Q0 (.bl (nb (PyData.eqv (.list (pds a)) (.list (pds b))))) M
        | _ => False) := h
      cases e : M p with
      | none => rw [e] at h2; exact h2.elim
      | some mo =>
        rw [e] at h2
        cases mo with
        | lst a => exact deep (x := .lst a) (y := .lst b) (dp_mu c e (ba h2.1).1) (dp_of (ba h2.2.1).1 ry) h2.1 h2.2.1 (by unfold pd; exact h2.2.2)
        | _ => exact h2.elim
    | _ => exact absurd h.1 Bool.false_ne_true
  | ty _ => cases y <;> exact absurd h.1 Bool.false_ne_true
  | scr _ => cases y <;> exact absurd h.1 Bool.false_ne_true
  | cl _ => cases y <;> exact absurd h.1 Bool.false_ne_true
  | exc _ _ _ _ _ => cases y <;> exact absurd h.1 Bool.false_ne_true
end
end DL
namespace DL
open PySem L2
def lookK (kvs : List (DKey × D)) (k : DKey) : Option D := (kvs.find? fun q => decide (q.1 = k)).map (·.2)
def gIx : DOp := fun x y M Q => match x, y with
  | .lst ds, .int i => (match atI ds i with
    | some d => Q d M
    | none => False)
  | .tup ds, .int i => (match atI ds i with
    | some d => Q d M
    | none => False)
  | .str x, .int i => x.length ≤ 16777216 ∧ (match atI x i with
    | some c => Q (.str [c]) M
    | none => False)
  | .ref a, .int i => (match M a with
    | some (.lst ds) => (match atI ds i with
      | some d => Q d M
      | none => False)
    | some (.dK kvs) => (match lookK kvs (.inl i) with
      | some d => Q d M
      | none => False)
    | some (.fK kvs _) => (match lookK kvs (.inl i) with
      | some d => Q d M
      | none => False)
    | _ => False)
  | .ref a, .str x => (match M a with
    | some (.dK kvs) => (match lookK kvs (.inr x) with
      | some d => Q d M
      | none => False)
    | some (.fK kvs _) => (match lookK kvs (.inr x) with
      | some d => Q d M
      | none => False)
    | _ => False)
  | _, _ => False
section
variable {K : PySem.W.Frag} {M : Mu} {H : Hp}
theorem atI_rep {ds : List D} {vs : List V} {i : Int} {d : D} (r : Reps K M H ds vs) (h : atI ds i = some d) : ∃ v, atI vs i = some v ∧ Rep K M H d v := by
  unfold atI at h ⊢
  rw [r.length]
  cases e : ixN ds.length i with
  | none => rw [e] at h; cases h
  | some j =>
    rw [e] at h
    exact r.get h
theorem kO_dec (a b : DKey) : decide (kO a = kO b) = decide (a = b) := decide_eq_decide.mpr ⟨kO_inj, fun e => by rw [e]⟩
theorem look_rep {k : DKey} : ∀ {kvs : List (DKey × D)} {ks : List (Key × V)}, ks.map (·.1) = kvs.map (fun q => kO q.1) → Reps K M H (kvs.map (·.2)) (ks.map (·.2)) →
    match lookK kvs k with
    | some d => ∃ v, valV ks (kO k) = some v ∧ Rep K M H d v
    | none => valV ks (kO k) = none
  | [], [], _, _ => rfl
  | [], _ :: _, h, _ => by cases h
  | _ :: _, [], h, _ => by cases h
  | (a, d) :: kvs, (b, v) :: ks, h, r => by
    have h1 : b = kO a ∧ ks.map (·.1) = kvs.map (fun q => kO q.1) := by
      simp only [List.map_cons, List.cons.injEq] at h
      exact h
    obtain ⟨v', u', e, r1, r2⟩ := r.uncons
    have e2 : v = v' ∧ ks.map (·.2) = u' := by
      simp only [List.map_cons, List.cons.injEq] at e
      exact e
    have ih := look_rep (k := k) h1.2 (by rw [e2.2]; exact r2)
    unfold lookK valV
    rw [List.find?_cons, List.find?_cons]
    show match Option.map (fun z : DKey × D => z.2) (match decide (a = k) with | true => some (a, d) | false => kvs.find? fun q => decide (q.1 = k)) with
      | some d => ∃ w, Option.map (fun z : Key × V => z.2) (match decide (b = kO k) with | true => some (b, v) | false => ks.find? fun q => decide (q.1 = kO k)) = some w ∧ Rep K M H d w
      | none => _
    rw [h1.1, kO_dec]
    cases q : decide (a = k) with
    | true => exact ⟨v, rfl, by rw [e2.1]; exact r1⟩
    | false => exact ih
end
def rIxA (K : PySem.W.Frag) : R2 := fun x y H Q => (rIx K x y H Q) ∨ ∃ a v, x = .ref a ∧ DGet H a y (some v) ∧ Q v H
theorem ix_dict {X : Cx} {W : WX} (G : Gd X W) : IxR X (fun x y H Q => ∃ a v, x = .ref a ∧ DGet H a y (some v) ∧ Q v H) := by
  intro value slice pins s σ H x y v u Q I rx ry h hs
  obtain ⟨a, w, rfl, g, q⟩ := h
  cases rx
  exact PyProof.Rows.tail_any (dict_typeIs I g) PySem.F.slot_dict_getitem.lookup (d_getItem G.hu1 I g ry fun w' s3 I3 rw' => ⟨w, H, I3, rw', q⟩) hs
section
variable {K : PySem.W.Frag}
theorem od_ix : OpD K gIx (rIxA K) := fun M H x y v u Q0 Q c rx ry h q => by
  have fin : ∀ d w, Q0 d M → Rep K M H d w → Q w H := fun d w z r => q _ M _ H z r c (Stp.refl M H)
  cases x with
  | lst ds =>
    cases y with
    | int i =>
      obtain ⟨a, vs, rfl, ha, ma, ra⟩ := rep_of_lst rx
      cases ry
      have h2 : (match atI ds i with
        | some d => Q0 d M
        | none => False) := h
      cases e : atI ds i with
      | none => rw [e] at h2; exact h2.elim
      | some d =>
        rw [e] at h2
        obtain ⟨w, e2, r2⟩ := atI_rep ra e
        exact .inl (.inl ⟨a, vs, i, w, rfl, rfl, .inl (.inl ha), e2, fin d w h2 r2⟩)
    | _ => exact h.elim
  | tup ds =>
    cases y with
    | int i =>
      obtain ⟨a, vs, rfl, ha, ra⟩ := rep_of_tup rx
      cases ry
      have h2 : (match atI ds i with
        | some d => Q0 d M
        | none => False) := h
      cases e : atI ds i with
      | none => rw [e] at h2; exact h2.elim
      | some d =>
        rw [e] at h2
        obtain ⟨w, e2, r2⟩ := atI_rep ra e
        exact .inl (.inr (.inl ⟨a, vs, i, w, rfl, rfl, sqT_of ha, e2, fin d w h2 r2⟩))
    | _ => exact h.elim
  | str x =>
    cases y with
    | int i =>
      cases rx; cases ry
      obtain ⟨h1, h2⟩ : x.length ≤ 16777216 ∧ (match atI x i with
        | some c => Q0 (.str [c]) M
        | none => False) := h
      cases e : atI x i with
      | none => rw [e] at h2; exact h2.elim
      | some d =>
        rw [e] at h2
        exact .inl (.inr (.inr ⟨sx x, i, d, rfl, rfl, by rw [sx_len, line24]; exact h1, e, fin _ _ h2 rfl⟩))
    | _ => exact h.elim
  | ref a =>
    cases rx
    cases y with
    | int i =>
      cases ry
      have h2 : (match M a with
        | some (.lst ds) => (match atI ds i with
          | some d => Q0 d M
          | none => False)
        | some (.dK kvs) => (match lookK kvs (.inl i) with
          | some d => Q0 d M
          | none => False)
        | some (.fK kvs _) => (match lookK kvs (.inl i) with
          | some d => Q0 d M
          | none => False)
        | _ => False) := h
      cases e : M a with
      | none => rw [e] at h2; exact h2.elim
      | some mo =>
        rw [e] at h2
        cases mo with
        | lst ds =>
          obtain ⟨vs, ha, ra⟩ := mu_lst c e
          have h3 : (match atI ds i with
            | some d => Q0 d M
            | none => False) := h2
          cases e : atI ds i with
          | none => rw [e] at h3; exact h3.elim
          | some d =>
            rw [e] at h3
            obtain ⟨w, e2, r2⟩ := atI_rep ra e
            exact .inl (.inl ⟨a, vs, i, w, rfl, rfl, .inl (.inl ha), e2, fin d w h3 r2⟩)
        | dK kvs =>
          obtain ⟨ks, ha, ek, ra⟩ := mu_dK c e
          have h3 : (match lookK kvs (.inl i) with
            | some d => Q0 d M
            | none => False) := h2
          have l := look_rep (k := .inl i) ek ra
          cases e : lookK kvs (.inl i) with
          | none => rw [e] at h3; exact h3.elim
          | some d =>
            rw [e] at h3 l
            obtain ⟨w, e2, r2⟩ := l
            exact .inr ⟨a, w, rfl, .inl ⟨ks, .inl i, .inl ha, rfl, e2.symm⟩, fin d w h3 r2⟩
        | fK kvs fu =>
          obtain ⟨od, ks, ha, _, ek, ra⟩ := mu_fK c e
          have h3 : (match lookK kvs (.inl i) with
            | some d => Q0 d M
            | none => False) := h2
          have l := look_rep (k := .inl i) ek ra
          cases e : lookK kvs (.inl i) with
          | none => rw [e] at h3; exact h3.elim
          | some d =>
            rw [e] at h3 l
            obtain ⟨w, e2, r2⟩ := l
            exact .inr ⟨a, w, rfl, .inl ⟨ks, .inl i, .inr ⟨od, ha⟩, rfl, e2.symm⟩, fin d w h3 r2⟩
        | _ => exact h2.elim
    | str x =>
      cases ry
      have h2 : (match M a with
        | some (.dK kvs) => (match lookK kvs (.inr x) with
          | some d => Q0 d M
          | none => False)
        | some (.fK kvs _) => (match lookK kvs (.inr x) with
          | some d => Q0 d M
          | none => False)
        | _ => False) := h
      cases e : M a with
      | none => rw [e] at h2; exact h2.elim
      | some mo =>
        rw [e] at h2
        cases mo with
        | dK kvs =>
          obtain ⟨ks, ha, ek, ra⟩ := mu_dK c e
          have h3 : (match lookK kvs (.inr x) with
            | some d => Q0 d M
            | none => False) := h2
          have l := look_rep (k := .inr x) ek ra
          cases e : lookK kvs (.inr x) with
          | none => rw [e] at h3; exact h3.elim
          | some d =>
            rw [e] at h3 l
            obtain ⟨w, e2, r2⟩ := l
            exact .inr ⟨a, w, rfl, .inl ⟨ks, .inr (sx x), .inl ha, rfl, e2.symm⟩, fin d w h3 r2⟩
        | fK kvs fu =>
          obtain ⟨od, ks, ha, _, ek, ra⟩ := mu_fK c e
          have h3 : (match lookK kvs (.inr x) with
            | some d => Q0 d M
            | none => False) := h2
          have l := look_rep (k := .inr x) ek ra
          cases e : lookK kvs (.inr x) with
          | none => rw [e] at h3; exact h3.elim
          | some d =>
            rw [e] at h3 l
            obtain ⟨w, e2, r2⟩ := l
            exact .inr ⟨a, w, rfl, .inl ⟨ks, .inr (sx x), .inr ⟨od, ha⟩, rfl, e2.symm⟩, fin d w h3 r2⟩
        | _ => exact h2.elim
    | _ => exact h.elim
  | _ => exact h.elim
end
section
variable {X : Cx} {W : WX} {a b c e o : Expr} {rest es : List Expr} {ta tb tc te to : DTE} {tl : DTA} {pos apos cpos p : Pos}
theorem de_ix (G : Gd X W) (ha : DE X W a ta) (hb : DE X W b tb) (hs : PlainIx b := by intro _ _; rfl) : DE X W (.Subscript a b pos) (dOp gIx ta tb) :=
  PE.of (pe_ix ((ix_seq).or (ix_dict G)) ha hb hs) fun _ _ _ h => lif_op od_ix h
def flatD : D → Bool
  | .non => true
  | .bl _ => true
  | .int _ => true
  | .str _ => true
  | _ => false
def eqF : D → D → Bool
  | .non, .non => true
  | .bl a, .bl b => a == b
  | .bl a, .int b => (if a then 1 else 0) == b
  | .int a, .bl b => a == (if b then 1 else 0)
  | .int a, .int b => a == b
  | .str a, .str b => a == b
  | _, _ => false
def inD (x : D) (ys : List D) : Bool := ys.any fun y => eqF y x
def gInN (nb : Bool → Bool) : DOp := fun x y M Q => match x, y with
  | .str [c], .str z => Q (.bl (nb (decide (c ∈ z)))) M
  | x, .lst ys => flatD x = true ∧ ys.all flatD = true ∧ Q (.bl (nb (inD x ys))) M
  | x, .tup ys => flatD x = true ∧ ys.all flatD = true ∧ Q (.bl (nb (inD x ys))) M
  | .int i, .ref a => (match M a with
    | some (.lst ys) => ys.all flatD = true ∧ Q (.bl (nb (inD (.int i) ys))) M
    | some (.dK kvs) => Q (.bl (nb (lookK kvs (.inl i)).isSome)) M
    | some (.fK kvs _) => Q (.bl (nb (lookK kvs (.inl i)).isSome)) M
    | _ => False)
  | .str x, .ref a => (match M a with
    | some (.lst ys) => ys.all flatD = true ∧ Q (.bl (nb (inD (.str x) ys))) M
    | some (.dK kvs) => Q (.bl (nb (lookK kvs (.inr x)).isSome)) M
    | some (.fK kvs _) => Q (.bl (nb (lookK kvs (.inr x)).isSome)) M
    | _ => False)
  | _, _ => False
abbrev gIn : DOp := gInN id
abbrev gNotIn : DOp := gInN not
def rInN (nb : Bool → Bool) (K : PySem.W.Frag) : R2 := fun x y H Q => (∃ (c : Nat) (z : Str), x = .str ⟨#[c]⟩ ∧ y = .str z ∧ Q (.bl (nb (decide (c ∈ z.cps.toList)))) H) ∨
  (∃ p xs, y = .ref p ∧ (SqL K H p xs ∨ SqT K H p xs) ∧ flatV x = true ∧ xs.all flatV = true ∧ Q (.bl (nb (inV x xs))) H) ∨ ∃ a o, y = .ref a ∧ DGet H a x o ∧ Q (.bl (nb o.isSome)) H
theorem op_inN (G : Gd X W) : OpR X (compareOp .In) (rInN id X.K) := by
  intro pins s σ H x y v u Q I rx ry h
  rcases h with h | ⟨p, xs, e1, e2, e3, e4, h⟩ | ⟨a, o, e, g, h⟩
  · exact op_in_sign pins s σ H x y v u Q I rx ry h
  · exact op_in_seq pins s σ H x y v u Q I rx ry ⟨p, xs, e1, e2, e3, e4, h⟩
  · subst e
    cases ry
    exact d_in G.hu1 I g rx fun s3 I3 => ⟨.bl o.isSome, H, I3, rfl, h⟩
theorem op_notInN (G : Gd X W) : OpR X (compareOp .NotIn) (rInN not X.K) := by
  intro pins s σ H x y v u Q I rx ry h
  rcases h with h | ⟨p, xs, e1, e2, e3, e4, h⟩ | ⟨a, o, e, g, h⟩
  · exact op_notInS pins s σ H x y v u Q I rx ry h
  · exact op_notIn_seq pins s σ H x y v u Q I rx ry ⟨p, xs, e1, e2, e3, e4, h⟩
  · subst e
    cases ry
    exact d_notIn G.hu1 I g rx fun s3 I3 => ⟨.bl (!o.isSome), H, I3, rfl, h⟩
end
section
variable {K : PySem.W.Frag} {M : Mu} {H : Hp}
theorem flat_rep {d : D} {v : V} (f : flatD d = true) (r : Rep K M H d v) : flatV v = true := by
  cases d with
  | non => cases (show v = _ from r); rfl
  | bl _ => cases (show v = _ from r); rfl
  | int _ => cases (show v = _ from r); rfl
  | str _ => cases (show v = _ from r); rfl
  | _ => cases f
theorem eqF_rep {d e : D} {v u : V} (f : flatD d = true) (g : flatD e = true) (r : Rep K M H d v) (s : Rep K M H e u) : eqV v u = eqF d e := by
  cases d <;> first
    | (cases f; done)
    | (cases r; cases e <;> first
      | (cases g; done)
      | (cases s; rfl)
      | (cases s; rename_i a b; show (sx a == sx b) = (a == b); rw [Bool.eq_iff_iff, beq_iff_eq, beq_iff_eq]; exact ⟨sx_inj, fun z => by rw [z]⟩))
theorem in_rep {d : D} {v : V} (f : flatD d = true) (r : Rep K M H d v) : ∀ {ds : List D} {vs : List V}, ds.all flatD = true → Reps K M H ds vs → vs.all flatV = true ∧ inV v vs = inD d ds
  | [], vs, _, h => by cases h.unnil; exact ⟨rfl, rfl⟩
  | e :: ds, vs, g, h => by
    obtain ⟨u, us, rfl, h1, h2⟩ := h.uncons
    rw [List.all_cons, Bool.and_eq_true] at g
    obtain ⟨i1, i2⟩ := in_rep f r g.2 h2
    refine ⟨by rw [List.all_cons, Bool.and_eq_true]; exact ⟨flat_rep g.1 h1, i1⟩, ?_⟩
    show (eqV u v || inV v us) = (eqF e d || inD d ds)
    rw [eqF_rep g.1 f h1 r, i2]
theorem od_in {nb : Bool → Bool} : OpD K (gInN nb) (rInN nb K) := fun M H x y v u Q0 Q c rx ry h q => by
  have fin : ∀ b, Q0 (.bl b) M → Q (.bl b) H := fun b z => q _ M _ H z rfl c (Stp.refl M H)
  have seq : ∀ {x : D} {v : V} {ys : List D} {p : Addr} {us : List V}, Rep K M H x v → (SqL K H p us ∨ SqT K H p us) → Reps K M H ys us → flatD x = true → ys.all flatD = true → Q0 (.bl (nb (inD x ys))) M → rInN nb K v (.ref p) H Q :=
    fun {x v ys p us} r1 s r2 f g z => by
      obtain ⟨i1, i2⟩ := in_rep f r1 g r2
      exact .inr (.inl ⟨p, us, rfl, s, flat_rep f r1, i1, by rw [i2]; exact fin _ z⟩)
  have dic : ∀ {k : DKey} {kvs : List (DKey × D)} {p : Addr} {mo : MO}, M p = some mo → dOf mo = some kvs → Q0 (.bl (nb (lookK kvs k).isSome)) M → rInN nb K (kV (kO k)) (.ref p) H Q := fun {k kvs p mo} e ed z => by
    obtain ⟨ks, ha, ek, ra⟩ := mu_dR c e ed
    have l := look_rep (k := k) ek ra
    refine .inr (.inr ⟨p, valV ks (kO k), rfl, .inl ⟨ks, kO k, ha, rfl, rfl⟩, ?_⟩)
    cases e2 : lookK kvs k with
    | none => rw [e2] at l z; rw [l]; exact fin _ z
    | some d =>
      rw [e2] at l z
      obtain ⟨w, e3, _⟩ := l
      rw [e3]
      exact fin _ z
  have lstC : ∀ {ys : List D}, y = .lst ys → flatD x = true ∧ ys.all flatD = true ∧ Q0 (.bl (nb (inD x ys))) M → rInN nb K v u H Q := fun {ys} e z => by
    subst e
    obtain ⟨b, us, rfl, hb, mb, rb⟩ := rep_of_lst ry
    exact seq rx (.inl (.inl (.inl hb))) rb z.1 z.2.1 z.2.2
  have tupC : ∀ {ys : List D}, y = .tup ys → flatD x = true ∧ ys.all flatD = true ∧ Q0 (.bl (nb (inD x ys))) M → rInN nb K v u H Q := fun {ys} e z => by
    subst e
    obtain ⟨b, us, rfl, hb, rb⟩ := rep_of_tup ry
    exact seq rx (.inr (sqT_of hb)) rb z.1 z.2.1 z.2.2
  cases y with
  | str z =>
    cases x with
    | str w =>
      cases w with
      | nil => exact h.elim
      | cons a l => cases l with
        | nil =>
          cases rx; cases ry
          exact .inl ⟨a, sx z, rfl, rfl, fin _ h⟩
        | cons _ _ => exact h.elim
    | _ => exact h.elim
  | lst ys => cases x <;> first
    | exact lstC rfl h
    | (rename_i w; cases w with
      | nil => exact lstC rfl h
      | cons a l => cases l <;> exact lstC rfl h)
  | tup ys => cases x <;> first
    | exact tupC rfl h
    | (rename_i w; cases w with
      | nil => exact tupC rfl h
      | cons a l => cases l <;> exact tupC rfl h)
  | ref p =>
    cases ry
    cases x with
    | int i =>
      cases rx
      have h2 : (match M p with
        | some (.lst ys) => ys.all flatD = true ∧ Q0 (.bl (nb (inD (.int i) ys))) M
        | some (.dK kvs) => Q0 (.bl (nb (lookK kvs (.inl i)).isSome)) M
        | some (.fK kvs _) => Q0 (.bl (nb (lookK kvs (.inl i)).isSome)) M
        | _ => False) := h
      cases e : M p with
      | none => rw [e] at h2; exact h2.elim
      | some mo =>
        rw [e] at h2
        cases mo with
        | lst ys =>
          obtain ⟨vs, ha, ra⟩ := mu_lst c e
          exact seq (x := .int i) rfl (.inl (.inl (.inl ha))) ra rfl h2.1 h2.2
        | dK kvs => exact dic (k := .inl i) e rfl h2
        | fK kvs fu => exact dic (k := .inl i) e rfl h2
        | _ => exact h2.elim
    | str x =>
      cases rx
      have h2 : (match M p with
        | some (.lst ys) => ys.all flatD = true ∧ Q0 (.bl (nb (inD (.str x) ys))) M
        | some (.dK kvs) => Q0 (.bl (nb (lookK kvs (.inr x)).isSome)) M
        | some (.fK kvs _) => Q0 (.bl (nb (lookK kvs (.inr x)).isSome)) M
        | _ => False) := by
        cases x with
        | nil => exact h
        | cons a l => cases l <;> exact h
      cases e : M p with
      | none => rw [e] at h2; exact h2.elim
      | some mo =>
        rw [e] at h2
        cases mo with
        | lst ys =>
          obtain ⟨vs, ha, ra⟩ := mu_lst c e
          exact seq (x := .str x) rfl (.inl (.inl (.inl ha))) ra rfl h2.1 h2.2
        | dK kvs => exact dic (k := .inr x) e rfl h2
        | fK kvs fu => exact dic (k := .inr x) e rfl h2
        | _ => exact h2.elim
    | _ => exact h.elim
  | _ => cases x <;> first
    | exact h.elim
    | (rename_i w; cases w with
      | nil => exact h.elim
      | cons a l => cases l <;> exact h.elim)
end
end DL
namespace DL
open PySem L2
abbrev DCb := List D → Mu → DK → Prop
def dCB (g : DCb) (ta : DTA) : DTE := fun τ M Q E => ta τ M (fun ds M1 => g ds M1 Q) E
def CbD (K : PySem.W.Frag) (g : DCb) (r : List V → Hp → VK → Prop) : Prop := ∀ (M : Mu) (H : Hp) (xs : List D) (vs : List V) (Q0 : DK) (Q : VK), Cor K M H → Reps K M H xs vs → g xs M Q0 →
  (∀ d M' z H', Q0 d M' → Rep K M' H' d z → Cor K M' H' → Stp M H M' H' → Q z H') → r vs H Q
section
variable {X : Cx} {W : WX} {a b c e o : Expr} {rest es : List Expr} {ta tb tc te to : DTE} {tl : DTA} {pos apos cpos p : Pos} {x : Str} {id T : String} {g : DCb} {r : List V → Hp → VK → Prop}
theorem lif_cb (k : CbD X.K g r) {σ : L2.St} {H : Hp} {Q : VK} (h : lif X.K W (RD X.K) (dCB g tl) σ H Q) : tCB r (lif X.K W (RA X.K) tl) σ H Q := by
  obtain ⟨τ, M, Q0, E0, S, h⟩ := h
  exact S.sub h fun ds M1 vs H1 h1 r1 S1 s1 => k M1 H1 ds vs Q0 Q S1.co r1 h1 S1.q
theorem de_callB (k : CbD X.K g r) (hc : CallR X (.builtin id) r) (hm : X.mg x = none) (hv : bootBuiltins x = some (.builtin id)) (ha : DA X W (e :: es) tl) (hg : Gl X x := by rfl) (hn : x ≠ "__name__" := by decide) (hdb : (x == ("__debug__" : Str)) = false := by decide)
    (he : starEach (e :: es) X.env = (false, eval e X.env) :: starEach es X.env := by rfl) (hpl : (backTo pos (starEach es X.env)).any (·.1) = false := by rfl) : DE X W (.Call (.Name x p) (e :: es) [] pos) (dCB g tl) :=
  PE.of (pe_callB hc hg hm hv ha hn hdb he hpl) fun _ _ _ h => lif_cb k h
theorem de_callTy (k : CbD X.K g r) (hc : CallR X (.type T) r) (hm : X.mg x = none) (hv : bootBuiltins x = some (.type T)) (ha : DA X W (e :: es) tl) (hg : Gl X x := by rfl) (hn : x ≠ "__name__" := by decide) (hdb : (x == ("__debug__" : Str)) = false := by decide)
    (he : starEach (e :: es) X.env = (false, eval e X.env) :: starEach es X.env := by rfl) (hpl : (backTo pos (starEach es X.env)).any (·.1) = false := by rfl) : DE X W (.Call (.Name x p) (e :: es) [] pos) (dCB g tl) :=
  PE.of (pe_callTy hc hg hm hv ha hn hdb he hpl) fun _ _ _ h => lif_cb k h
theorem de_ty (hm : X.mg x = none) (hv : bootBuiltins x = some (.type T)) (hg : Gl X x := by rfl) (hn : x ≠ "__name__" := by decide) (hdb : (x == ("__debug__" : Str)) = false := by decide) : DE X W (.Name x pos) (dC (.ty T)) :=
  de_c (t0 := tC .non) (pe_bltn (v := .ty T) hg hm hv rfl hn hdb) fun _ _ => rfl
end
def gLen : DCb := fun xs M Q => match xs with
  | [.str x] => x.length ≤ 16777216 ∧ Q (.int x.length) M
  | [.lst ds] => Q (.int ds.length) M
  | [.tup ds] => Q (.int ds.length) M
  | [.scr ns] => Q (.int ns.length) M
  | [.ref a] => (match M a with
    | some (.lst ds) => Q (.int ds.length) M
    | some (.dK kvs) => Q (.int kvs.length) M
    | _ => False)
  | _ => False
def gInt1 : DCb := fun xs M Q => match xs with
  | [.int i] => Q (.int i) M
  | [.bl b] => Q (.int (if b then 1 else 0)) M
  | _ => False
def gMin2 : DCb := fun xs M Q => match xs with
  | [.int i, .int j] => Q (.int (if j < i then j else i)) M
  | _ => False
def gMax2 : DCb := fun xs M Q => match xs with
  | [.int i, .int j] => Q (.int (if j > i then j else i)) M
  | _ => False
def gList : DCb := fun xs M Q => match xs with
  | [.lst ds] => Q (.lst ds) M
  | [.tup ds] => Q (.lst ds) M
  | [.scr ns] => Q (.lst (ns.map D.int)) M
  | [.ref a] => (match M a with
    | some (.lst ds) => Q (.lst ds) M
    | _ => False)
  | _ => False
def gListM : DCb := fun xs M Q => match xs with
  | [.lst ds] => ∀ p, M p = none → Q (.ref p) (put M p (.lst ds))
  | [.tup ds] => ∀ p, M p = none → Q (.ref p) (put M p (.lst ds))
  | [.scr ns] => ∀ p, M p = none → Q (.ref p) (put M p (.lst (ns.map D.int)))
  | [.ref a] => (match M a with
    | some (.lst ds) => ∀ p, M p = none → Q (.ref p) (put M p (.lst ds))
    | _ => False)
  | _ => False
def tyD (M : Mu) : D → Option String
  | .non => some "NoneType"
  | .bl _ => some "bool"
  | .int _ => some "int"
  | .str _ => some "str"
  | .lst _ => some "list"
  | .tup _ => some "tuple"
  | .ref a => (match M a with
    | some (.lst _) => some "list"
    | some (.dK _) => some "dict"
    | _ => none)
  | .ty _ => none
  | .scr _ => none
  | .cl _ => none
  | .exc _ _ _ _ _ => none
def isaB (a b : String) : Bool := a == b || (a == "bool" && b == "int")
def gIsi : DCb := fun xs M Q => match xs with
  | [d, .ty T] => (match tyD M d with
    | some n => ["bool", "int", "str", "list", "tuple", "dict"].contains T = true ∧ Q (.bl (isaB n T)) M
    | none => False)
  | _ => False
theorem kit_isa : (["NoneType", "bool", "int", "str", "list", "tuple", "dict"].all fun a => ["bool", "int", "str", "list", "tuple", "dict"].all fun b => decide (kitB a b = some (isaB a b))) = true := by decide +kernel
theorem kit_is {a b : String} (ha : a ∈ ["NoneType", "bool", "int", "str", "list", "tuple", "dict"]) (hb : ["bool", "int", "str", "list", "tuple", "dict"].contains b = true) : kitB a b = some (isaB a b) :=
  of_decide_eq_true (List.all_eq_true.mp (List.all_eq_true.mp kit_isa a ha) b (by simpa using hb))
def rLenA (K : PySem.W.Frag) : List V → Hp → VK → Prop := fun xs H Q => (∃ p ys, xs = [.ref p] ∧ (SqL K H p ys ∨ SqT K H p ys) ∧ Q (.int ys.length) H) ∨ ((∃ z, xs = [.str z] ∧ z.length ≤ sizeLine ∧ Q (.int z.length) H) ∨ ∃ p kvs, xs = [.ref p] ∧ H p = some (.dK kvs) ∧ Q (.int kvs.length) H)
section
variable {K : PySem.W.Frag}
theorem scr_sq {M : Mu} {H : Hp} {a : Addr} {vs : List V} (h : ((∃ o, H a = some (.frz o (.lst vs))) ∧ M a = none) ∨ WrL K a vs) : SqL K H a vs := h.elim (fun q => .inl (.inr q.1)) .inr
theorem cb_len : CbD K gLen (rLenA K) := fun M H xs vs Q0 Q c r h q => by
  have fin : ∀ i : Int, Q0 (.int i) M → Q (.int i) H := fun b z => q _ M _ H z rfl c (Stp.refl M H)
  match xs, h with
  | [.str x], h =>
    obtain ⟨v, u, rfl, r1, r2⟩ := r.uncons
    cases r2.unnil; cases r1
    refine .inr (.inl ⟨sx x, rfl, by rw [sx_len, line24]; exact h.1, ?_⟩)
    rw [sx_len]
    exact fin _ h.2
  | [.lst ds], h =>
    obtain ⟨v, u, rfl, r1, r2⟩ := r.uncons
    cases r2.unnil
    obtain ⟨a, vs, rfl, ha, ma, ra⟩ := rep_of_lst r1
    exact .inl ⟨a, vs, rfl, .inl (.inl (.inl ha)), by rw [ra.length]; exact fin _ h⟩
  | [.tup ds], h =>
    obtain ⟨v, u, rfl, r1, r2⟩ := r.uncons
    cases r2.unnil
    obtain ⟨a, vs, rfl, ha, ra⟩ := rep_of_tup r1
    exact .inl ⟨a, vs, rfl, .inr (sqT_of ha), by rw [ra.length]; exact fin _ h⟩
  | [.scr ns], h =>
    obtain ⟨v, u, rfl, r1, r2⟩ := r.uncons
    cases r2.unnil
    obtain ⟨a, rfl, ha⟩ := (show ∃ a, v = .ref a ∧ _ from r1)
    exact .inl ⟨a, _, rfl, .inl (scr_sq ha), by rw [List.length_map]; exact fin _ h⟩
  | [.ref a], h =>
    obtain ⟨v, u, rfl, r1, r2⟩ := r.uncons
    cases r2.unnil; cases r1
    have h2 : (match M a with
      | some (.lst ds) => Q0 (.int ds.length) M
      | some (.dK kvs) => Q0 (.int kvs.length) M
      | _ => False) := h
    cases e : M a with
    | none => rw [e] at h2; exact h2.elim
    | some mo =>
      rw [e] at h2
      cases mo with
      | lst ds =>
        obtain ⟨vs, ha, ra⟩ := mu_lst c e
        exact .inl ⟨a, vs, rfl, .inl (.inl (.inl ha)), by rw [ra.length]; exact fin _ h2⟩
      | dK kvs =>
        obtain ⟨ks, ha, ek, ra⟩ := mu_dK c e
        have l := congrArg List.length ek
        rw [List.length_map, List.length_map] at l
        exact .inr (.inr ⟨a, ks, rfl, ha, by rw [l]; exact fin _ h2⟩)
      | _ => exact h2.elim
theorem cb_int : CbD K gInt1 (fun xs H Q => (∃ i, xs = [.int i] ∧ Q (.int i) H) ∨ ∃ k, xs = [.bl k] ∧ Q (.int (if k then 1 else 0)) H) := fun M H xs vs Q0 Q c r h q => by
  match xs, h with
  | [.int i], h =>
    obtain ⟨v, u, rfl, r1, r2⟩ := r.uncons
    cases r2.unnil; cases r1
    exact .inl ⟨i, rfl, q _ M _ H h rfl c (Stp.refl M H)⟩
  | [.bl i], h =>
    obtain ⟨v, u, rfl, r1, r2⟩ := r.uncons
    cases r2.unnil; cases r1
    exact .inr ⟨i, rfl, q _ M _ H h rfl c (Stp.refl M H)⟩
theorem cb_min : CbD K gMin2 (fun xs H Q => ∃ i j, xs = [.int i, .int j] ∧ Q (.int (if j < i then j else i)) H) := fun M H xs vs Q0 Q c r h q => by
  match xs, h with
  | [.int i, .int j], h =>
    obtain ⟨v, u, rfl, r1, r2⟩ := r.uncons
    obtain ⟨v, u, rfl, r3, r4⟩ := r2.uncons
    cases r4.unnil; cases r1; cases r3
    exact ⟨i, j, rfl, q _ M _ H h rfl c (Stp.refl M H)⟩
abbrev rListA (K : PySem.W.Frag) : List V → Hp → VK → Prop := fun xs H Q => ∃ p ys, xs = [.ref p] ∧ (SqL K H p ys ∨ SqT K H p ys) ∧ ∀ l, H l = none → Q (.ref l) (upd H l (.lst ys))
theorem cb_list : CbD K gList (rListA K) := fun M H xs vs Q0 Q c r h q => by
  match xs, h with
  | [.lst ds], h =>
    obtain ⟨v, u, rfl, r1, r2⟩ := r.uncons
    cases r2.unnil
    obtain ⟨a, vs, rfl, ha, ma, ra⟩ := rep_of_lst r1
    exact ⟨a, vs, rfl, .inl (.inl (.inl ha)), new_lst c ra h q⟩
  | [.tup ds], h =>
    obtain ⟨v, u, rfl, r1, r2⟩ := r.uncons
    cases r2.unnil
    obtain ⟨a, vs, rfl, ha, ra⟩ := rep_of_tup r1
    exact ⟨a, vs, rfl, .inr (sqT_of ha), new_lst c ra h q⟩
  | [.scr ns], h =>
    obtain ⟨v, u, rfl, r1, r2⟩ := r.uncons
    cases r2.unnil
    obtain ⟨a, rfl, ha⟩ := (show ∃ a, v = .ref a ∧ _ from r1)
    exact ⟨a, _, rfl, .inl (scr_sq ha), new_lst c (Reps.of_ints ns) h q⟩
  | [.ref a], h =>
    obtain ⟨v, u, rfl, r1, r2⟩ := r.uncons
    cases r2.unnil; cases r1
    have h2 : (match M a with
      | some (.lst ds) => Q0 (.lst ds) M
      | _ => False) := h
    cases e : M a with
    | none => rw [e] at h2; exact h2.elim
    | some mo =>
      rw [e] at h2
      cases mo with
      | lst ds =>
        obtain ⟨vs, ha, ra⟩ := mu_lst c e
        exact ⟨a, vs, rfl, .inl (.inl (.inl ha)), new_lst c ra h2 q⟩
      | _ => exact h2.elim
theorem cb_listM : CbD K gListM (rListA K) := fun M H xs vs Q0 Q c r h q => by
  match xs, h with
  | [.lst ds], h =>
    obtain ⟨v, u, rfl, r1, r2⟩ := r.uncons
    cases r2.unnil
    obtain ⟨a, vs, rfl, ha, ma, ra⟩ := rep_of_lst r1
    exact ⟨a, vs, rfl, .inl (.inl (.inl ha)), new_lstM c ra h q⟩
  | [.tup ds], h =>
    obtain ⟨v, u, rfl, r1, r2⟩ := r.uncons
    cases r2.unnil
    obtain ⟨a, vs, rfl, ha, ra⟩ := rep_of_tup r1
    exact ⟨a, vs, rfl, .inr (sqT_of ha), new_lstM c ra h q⟩
  | [.scr ns], h =>
    obtain ⟨v, u, rfl, r1, r2⟩ := r.uncons
    cases r2.unnil
    obtain ⟨a, rfl, ha⟩ := (show ∃ a, v = .ref a ∧ _ from r1)
    exact ⟨a, _, rfl, .inl (scr_sq ha), new_lstM c (Reps.of_ints ns) h q⟩
  | [.ref a], h =>
    obtain ⟨v, u, rfl, r1, r2⟩ := r.uncons
    cases r2.unnil; cases r1
    have h2 : (match M a with
      | some (.lst ds) => ∀ p, M p = none → Q0 (.ref p) (put M p (.lst ds))
      | _ => False) := h
    cases e : M a with
    | none => rw [e] at h2; exact h2.elim
    | some mo =>
      rw [e] at h2
      cases mo with
      | lst ds =>
        obtain ⟨vs, ha, ra⟩ := mu_lst c e
        exact ⟨a, vs, rfl, .inl (.inl (.inl ha)), new_lstM c ra h2 q⟩
      | _ => exact h2.elim
theorem ty_rep {M : Mu} {H : Hp} {d : D} {v : V} {n : String} (c : Cor K M H) (r : Rep K M H d v) (h : tyD M d = some n) : TyX K H v (.type n) ∧ n ∈ ["NoneType", "bool", "int", "str", "list", "tuple", "dict"] := by
  cases d with
  | non => cases r; cases h; exact ⟨.base .non, by decide⟩
  | bl _ => cases r; cases h; exact ⟨.base (.bl _), by decide⟩
  | int _ => cases r; cases h; exact ⟨.base (.int _), by decide⟩
  | str _ => cases r; cases h; exact ⟨.base (.str _), by decide⟩
  | lst ds =>
    cases h
    obtain ⟨a, vs, rfl, ha, ma, ra⟩ := rep_of_lst r
    exact ⟨.base (.lst ha), by decide⟩
  | tup ds =>
    cases h
    obtain ⟨a, vs, rfl, ha, ra⟩ := rep_of_tup r
    refine ⟨?_, by decide⟩
    rcases ha with ha | ⟨⟨o, its, n, e1, e2, _⟩, _⟩
    · exact .base (.tup ha.1)
    · exact .kTuple e1 e2
  | ref a =>
    cases r
    have h2 : (match M a with
      | some (.lst _) => some "list"
      | some (.dK _) => some "dict"
      | _ => none) = some n := h
    cases e : M a with
    | none => rw [e] at h2; cases h2
    | some mo =>
      rw [e] at h2
      cases mo with
      | lst ds =>
        cases h2
        obtain ⟨vs, ha, ra⟩ := mu_lst c e
        exact ⟨.base (.lst ha), by decide⟩
      | dK kvs =>
        cases h2
        obtain ⟨vs, ha, _, ra⟩ := mu_dK c e
        exact ⟨.base (.dK ha), by decide⟩
      | _ => cases h2
  | ty _ => cases h
  | scr _ => cases h
  | cl _ => cases h
  | exc _ _ _ _ _ => cases h
theorem cb_isi : CbD K gIsi (rIsi K) := fun M H xs vs Q0 Q c r h q => by
  match xs, h with
  | [d, .ty T], h =>
    obtain ⟨v, u, rfl, r1, r2⟩ := r.uncons
    obtain ⟨w, u, rfl, r3, r4⟩ := r2.uncons
    cases r4.unnil; cases r3
    have h2 : (match tyD M d with
      | some n => ["bool", "int", "str", "list", "tuple", "dict"].contains T = true ∧ Q0 (.bl (isaB n T)) M
      | none => False) := h
    cases e : tyD M d with
    | none => rw [e] at h2; exact h2.elim
    | some n =>
      rw [e] at h2
      obtain ⟨t1, t2⟩ := ty_rep c r1 e
      exact ⟨v, .ty T, .type n, .type T, _, rfl, .ty T, t1, kit_ty (kit_is t2 h2.1), q _ M _ H h2.2 rfl c (Stp.refl M H)⟩
end
theorem call_lenA {X : Cx} : CallR X (.builtin "len") (rLenA X.K) := call_len_seq.or (call_len_str.or call_lenD)
end DL
namespace DL
open PySem L2
abbrev DMt := D → List D → Mu → DK → Prop
def isTy (T : String) (M : Mu) : D → Prop
  | .str _ => T = "str"
  | .lst _ => T = "list"
  | .ref a => match M a with
    | some (.lst _) => T = "list"
    | some (.dK _) => T = "dict"
    | some (.dT _) => T = "dict"
    | _ => False
  | _ => False
def dMt (T : String) (g : DMt) (to : DTE) (ta : DTA) : DTE := fun τ M Q E => to τ M (fun d M1 => isTy T M1 d ∧ ta τ M1 (fun ds M2 => g d ds M2 Q) E) E
def dMt0 (T : String) (g : DMt) (to : DTE) : DTE := fun τ M Q E => to τ M (fun d M1 => isTy T M1 d ∧ g d [] M1 Q) E
def MtD (K : PySem.W.Frag) (g : DMt) (r : V → List V → Hp → VK → Prop) : Prop := ∀ (M : Mu) (H : Hp) (x : D) (v : V) (xs : List D) (vs : List V) (Q0 : DK) (Q : VK), Cor K M H → Rep K M H x v → Reps K M H xs vs → g x xs M Q0 →
  (∀ d M' z H', Q0 d M' → Rep K M' H' d z → Cor K M' H' → Stp M H M' H' → Q z H') → r v vs H Q
theorem isTy_rep {K : PySem.W.Frag} {M : Mu} {H : Hp} {T : String} {d : D} {v : V} (c : Cor K M H) (r : Rep K M H d v) (h : isTy T M d) : tyV K T v H := by
  cases d with
  | str x => cases r; exact h
  | lst ds =>
    obtain ⟨a, vs, rfl, ha, ma, ra⟩ := rep_of_lst r
    exact .inl ⟨h, vs, .inl (.inl ha)⟩
  | ref a =>
    cases r
    have h2 : (match M a with
      | some (.lst _) => T = "list"
      | some (.dK _) => T = "dict"
      | some (.dT _) => T = "dict"
      | _ => False) := h
    cases e : M a with
    | none => rw [e] at h2; exact h2.elim
    | some mo =>
      rw [e] at h2
      cases mo with
      | lst ds =>
        obtain ⟨vs, ha, ra⟩ := mu_lst c e
        exact .inl ⟨h2, vs, .inl (.inl ha)⟩
      | dK kvs =>
        obtain ⟨ks, ha, _, ra⟩ := mu_dK c e
        exact .inr (.inr (.inl ⟨h2, .inl ⟨ks, ha⟩⟩))
      | dT kvs =>
        obtain ⟨o, e1, ks, e2, _⟩ := c _ _ e
        subst e2
        exact .inr (.inr (.inl ⟨h2, .inr ⟨ks, e1⟩⟩))
      | _ => exact h2.elim
  | _ => exact h.elim
section
variable {X : Cx} {W : WX} {a b c e o : Expr} {rest es : List Expr} {ta tb tc te to : DTE} {tl : DTA} {pos apos cpos p : Pos} {name : Str} {id T : String} {g : DMt} {r : V → List V → Hp → VK → Prop}
theorem de_mt (pa : PlainAttrs T) (slot : Slot T name id) (hty : typeOf (.builtin id) = pure (.type "method_descriptor")) (k : MtD X.K g r) (hm : MtR X id r) (ho : DE X W o to) (ha : DA X W (e :: es) tl)
    (hbase : attributeBase o name X.env (eval o X.env) = eval o X.env := by rfl)
    (hfew : ((backTo cpos (starEach (e :: es) X.env)).all (fun x => !x.1) && (backToKw cpos (keywordEach [] X.env)).all (fun x => x.1.isSome)
      && decide ((e :: es).length + ([] : List Keyword).length + (if ([] : List Keyword).isEmpty then 0 else 1) < 30)) = true := by rfl)
    (hline : (apos.endLine == cpos.line) = true := by rfl) (hs : starEach (e :: es) X.env = (false, eval e X.env) :: starEach es X.env := by rfl) (hplain : (backTo cpos (starEach es X.env)).any (·.1) = false := by rfl) :
    DE X W (.Call (.Attribute o name apos) (e :: es) [] cpos) (dMt T g to tl) :=
  PE.of (pe_bm pa slot hty hm ho ha hbase hfew hline hs hplain) fun σ H Q ⟨τ, M, Q0, E0, S, h⟩ => S.sub h fun d M1 v H1 h1 r1 S1 s1 =>
    ⟨isTy_rep S1.co r1 h1.1, S1.sub h1.2 fun ds M2 vs H2 h2 r2 S2 s2 => k M2 H2 d v ds vs Q0 Q S2.co (r1.stp s2) r2 h2 S2.q⟩
theorem de_mt0 (pa : PlainAttrs T) (slot : Slot T name id) (hty : typeOf (.builtin id) = pure (.type "method_descriptor")) (k : MtD X.K g r) (hm : MtR X id r) (ho : DE X W o to)
    (hbase : attributeBase o name X.env (eval o X.env) = eval o X.env := by rfl) (hline : (apos.endLine == cpos.line) = true := by rfl) : DE X W (.Call (.Attribute o name apos) [] [] cpos) (dMt0 T g to) :=
  PE.of (pe_bm0 pa slot hty hm ho hbase hline) fun σ H Q ⟨τ, M, Q0, E0, S, h⟩ => S.sub h fun d M1 v H1 h1 r1 S1 s1 =>
    ⟨isTy_rep S1.co r1 h1.1, k M1 H1 d v [] [] Q0 Q S1.co r1 .nil h1.2 S1.q⟩
end
def gAppend : DMt := fun x xs M Q => match x, xs with
  | .ref a, [y] => (match M a with
    | some (.lst ds) => ds.length < 16777216 ∧ Q .non (put M a (.lst (ds ++ [y])))
    | _ => False)
  | _, _ => False
def joinT (s : Tx) : List Tx → Tx := TL.joinL s
def gJoin : DMt := fun x xs M Q => match x, xs with
  | .str s, [.lst ds] => ∃ ys : List Tx, ds = ys.map D.str ∧ (ys.map (·.length)).sum + ys.length * s.length ≤ 16777216 ∧ Q (.str (joinT s ys)) M
  | .str s, [.tup ds] => ∃ ys : List Tx, ds = ys.map D.str ∧ (ys.map (·.length)).sum + ys.length * s.length ≤ 16777216 ∧ Q (.str (joinT s ys)) M
  | .str s, [.ref a] => (match M a with
    | some (.lst ds) => ∃ ys : List Tx, ds = ys.map D.str ∧ (ys.map (·.length)).sum + ys.length * s.length ≤ 16777216 ∧ Q (.str (joinT s ys)) M
    | _ => False)
  | _, _ => False
def gStarts : DMt := fun x xs M Q => match x, xs with
  | .str a, [.str b] => Q (.bl (b.isPrefixOf a)) M
  | _, _ => False
section
variable {K : PySem.W.Frag}
theorem md_append : MtD K gAppend rAppend := fun M H x v xs vs Q0 Q c rx r h q => by
  match x, xs, h with
  | .ref a, [y], h =>
    obtain ⟨u, us, rfl, r1, r2⟩ := r.uncons
    cases r2.unnil; cases rx
    have h2 : (match M a with
      | some (.lst ds) => ds.length < 16777216 ∧ Q0 .non (put M a (.lst (ds ++ [y])))
      | _ => False) := h
    cases e : M a with
    | none => rw [e] at h2; exact h2.elim
    | some mo =>
      rw [e] at h2
      cases mo with
      | lst ds =>
        obtain ⟨vs, ha, ra⟩ := mu_lst c e
        exact ⟨a, vs, u, rfl, rfl, ha, by rw [ra.length, line24]; exact h2.1, q _ _ _ _ h2.2 rfl (c.write e ⟨_, rfl, ra.snoc r1⟩) (Stp.write e)⟩
      | _ => exact h2.elim
theorem tl_sx (t : Tx) : TL.tl (sx t) = t := T_sx t
theorem join_sx (s : Tx) (ys : List Tx) : PySem.Txt.join (sx s) (ys.map sx) = sx (joinT s ys) := by
  refine TL.ext_tl ?_
  rw [tl_sx, TL.join_eq]
  refine (TL.tl_join (sx s) (ys.map sx)).trans ?_
  rw [tl_sx, List.map_map]
  have : (TL.tl ∘ sx) = (id : Tx → Tx) := funext fun t => tl_sx t
  rw [this, List.map_id]
  rfl
theorem md_join : MtD K gJoin (fun x xs H Q => ∃ a p, ∃ ys : List Str, x = .str a ∧ xs = [.ref p] ∧ (SqL K H p (ys.map V.str) ∨ SqT K H p (ys.map V.str)) ∧
    (ys.map (·.length)).sum + ys.length * a.length ≤ 16777216 ∧ Q (.str (PySem.Txt.join a ys)) H) := fun M H x v xs vs Q0 Q c rx r h q => by
  have fin : ∀ {s : Tx} {p : Addr} {ds : List D} {vs : List V}, (SqL K H p vs ∨ SqT K H p vs) → Reps K M H ds vs → (∃ ys : List Tx, ds = ys.map D.str ∧ (ys.map (·.length)).sum + ys.length * s.length ≤ 16777216 ∧ Q0 (.str (joinT s ys)) M) →
      ∃ a p', ∃ ys : List Str, V.str (sx s) = .str a ∧ [V.ref p] = [.ref p'] ∧ (SqL K H p' (ys.map V.str) ∨ SqT K H p' (ys.map V.str)) ∧ (ys.map (·.length)).sum + ys.length * a.length ≤ 16777216 ∧ Q (.str (PySem.Txt.join a ys)) H :=
    fun {s p ds vs} sq ra ⟨ys, e, hz, z⟩ => by
      subst e
      have e := ra.strs
      subst e
      refine ⟨sx s, p, ys.map sx, rfl, rfl, sq, ?_, ?_⟩
      · rw [List.map_map, List.length_map, sx_len]
        have : ((fun x : Str => x.length) ∘ sx) = fun t : Tx => t.length := funext fun t => sx_len t
        rw [this]
        exact hz
      · rw [join_sx]
        exact q _ M _ H z rfl c (Stp.refl M H)
  match x, xs, h with
  | .str s, [.lst ds], h =>
    obtain ⟨u, us, rfl, r1, r2⟩ := r.uncons
    cases r2.unnil; cases rx
    obtain ⟨a, vs, rfl, ha, ma, ra⟩ := rep_of_lst r1
    exact fin (.inl (.inl (.inl ha))) ra h
  | .str s, [.tup ds], h =>
    obtain ⟨u, us, rfl, r1, r2⟩ := r.uncons
    cases r2.unnil; cases rx
    obtain ⟨a, vs, rfl, ha, ra⟩ := rep_of_tup r1
    exact fin (.inr (sqT_of ha)) ra h
  | .str s, [.ref a], h =>
    obtain ⟨u, us, rfl, r1, r2⟩ := r.uncons
    cases r2.unnil; cases rx; cases r1
    have h2 : (match M a with
      | some (.lst ds) => ∃ ys : List Tx, ds = ys.map D.str ∧ (ys.map (·.length)).sum + ys.length * s.length ≤ 16777216 ∧ Q0 (.str (joinT s ys)) M
      | _ => False) := h
    cases e : M a with
    | none => rw [e] at h2; exact h2.elim
    | some mo =>
      rw [e] at h2
      cases mo with
      | lst ds =>
        obtain ⟨vs, ha, ra⟩ := mu_lst c e
        exact fin (.inl (.inl (.inl ha))) ra h2
      | _ => exact h2.elim
theorem starts_sx (a b : Tx) : PySem.Txt.startswith (sx a) (sx b) = b.isPrefixOf a := by
  show (decide (0 + (sx b).length ≤ (sx a).length) && Builtin.Str.subAt (sx a) (sx b) 0) = _
  rw [PySem.StrLaws.subAt_eq]
  rw [Bool.eq_iff_iff, Bool.and_eq_true, decide_eq_true_iff, List.isPrefixOf_iff_prefix, sx_len, sx_len]
  show (0 + b.length ≤ a.length ∧ ((a.drop 0).take b.length == b) = true) ↔ _
  rw [List.drop_zero, beq_iff_eq, List.prefix_iff_eq_take]
  constructor
  · intro z; exact z.2.symm
  · intro z
    refine ⟨?_, z.symm⟩
    have := congrArg List.length z
    rw [List.length_take] at this
    omega
theorem md_starts : MtD K gStarts (fun x xs H Q => ∃ a b, x = .str a ∧ xs = [.str b] ∧ Q (.bl (PySem.Txt.startswith a b)) H) := fun M H x v xs vs Q0 Q c rx r h q => by
  match x, xs, h with
  | .str a, [.str b], h =>
    obtain ⟨u, us, rfl, r1, r2⟩ := r.uncons
    cases r2.unnil; cases rx; cases r1
    refine ⟨sx a, sx b, rfl, rfl, ?_⟩
    rw [starts_sx]
    exact q _ M _ H h rfl c (Stp.refl M H)
end
end DL
namespace DL
open PySem L2
structure DEnds where
  nx : DSt → Mu → Prop
  rt : DK
  bk : DSt → Mu → Prop := fun _ _ => False
  ct : DSt → Mu → Prop := fun _ _ => False
  xc : XD → DSt → Mu → Prop := fun _ _ _ => False
abbrev DTS := DEnds → DSt → Mu → Prop
structure SitS (K : PySem.W.Frag) (W : WX) (τ : DSt) (M : Mu) (σ : L2.St) (H : Hp) (D0 : DEnds) (D1 : Ends) : Prop where
  rs : RepS K M H τ σ
  co : Cor K M H
  nx : ∀ τ' M' σ' H', D0.nx τ' M' → RepS K M' H' τ' σ' → Cor K M' H' → Stp M H M' H' → D1.nx σ' H'
  rt : ∀ d M' v H', D0.rt d M' → Rep K M' H' d v → Cor K M' H' → Stp M H M' H' → D1.rt v H'
  bk : ∀ τ' M' σ' H', D0.bk τ' M' → RepS K M' H' τ' σ' → Cor K M' H' → Stp M H M' H' → D1.bk σ' H'
  ct : ∀ τ' M' σ' H', D0.ct τ' M' → RepS K M' H' τ' σ' → Cor K M' H' → Stp M H M' H' → D1.ct σ' H'
  xc : ∀ x τ' M' c d σ' H', D0.xc x τ' M' → RepX K M' H' x c d → RepS K M' H' τ' σ' → Cor K M' H' → Stp M H M' H' → W c d σ' H'
def lifS (K : PySem.W.Frag) (W : WX) (t : DTS) : TS := fun D1 σ H => ∃ τ M D0, SitS K W τ M σ H D0 D1 ∧ t D0 τ M
abbrev DS (X : Cx) (W : WX) (st : Stmt) (t : DTS) : Prop := PS X st (lifS X.K W t)
abbrev DSs (X : Cx) (W : WX) (st : List Stmt) (t : DTS) : Prop := PSs X st (lifS X.K W t)
section
variable {K : PySem.W.Frag} {W : WX} {τ : DSt} {M M1 : Mu} {σ σ1 : L2.St} {H H1 : Hp} {D0 : DEnds} {D1 : Ends}
theorem SitS.go (S : SitS K W τ M σ H D0 D1) {τ1 : DSt} (r : RepS K M1 H1 τ1 σ1) (c : Cor K M1 H1) (s : Stp M H M1 H1) : SitS K W τ1 M1 σ1 H1 D0 D1 :=
  ⟨r, c, fun a b c d h r' c' s' => S.nx a b c d h r' c' (s.trans s'), fun a b c d h r' c' s' => S.rt a b c d h r' c' (s.trans s'), fun a b c d h r' c' s' => S.bk a b c d h r' c' (s.trans s'),
    fun a b c d h r' c' s' => S.ct a b c d h r' c' (s.trans s'), fun x a b c d e f h r' r2 c' s' => S.xc x a b c d e f h r' r2 c' (s.trans s')⟩
abbrev DEnds.ex (D0 : DEnds) (τ : DSt) : DX := fun x M => D0.xc x τ M
theorem SitS.sub (S : SitS K W τ M σ H D0 D1) {γ δ : Type} {R1 : Mu → Hp → γ → δ → Prop} {t : DR γ} {G : γ → Mu → Prop} {Q1 : δ → Hp → Prop} (h : t τ M G (D0.ex τ))
    (k : ∀ d M1 v H1, G d M1 → R1 M1 H1 d v → SitS K W τ M1 σ H1 D0 D1 → Stp M H M1 H1 → Q1 v H1) : lif K W R1 t σ H Q1 :=
  ⟨τ, M, G, D0.ex τ, ⟨S.rs, S.co, fun d M' v H' g r c s => k d M' v H' g r (S.go (S.rs.stp s) c s) s, fun x M' c d H' h r c' s => S.xc x τ M' c d σ H' h r (S.rs.stp s) c' s⟩, h⟩
theorem SitS.next (S : SitS K W τ M σ H D0 D1) (h : D0.nx τ M) : D1.nx σ H := S.nx τ M σ H h S.rs S.co (Stp.refl M H)
end
abbrev DTG := D → DSt → Mu → (DSt → Mu → Prop) → DX → Prop
abbrev DTGs := List D → DSt → Mu → (DSt → Mu → Prop) → DX → Prop
structure SitG (K : PySem.W.Frag) (W : WX) (τ : DSt) (M : Mu) (σ : L2.St) (H : Hp) (Q0 : DSt → Mu → Prop) (E0 : DX) (Q : L2.St → Hp → Prop) : Prop where
  rs : RepS K M H τ σ
  co : Cor K M H
  q : ∀ τ' M' σ' H', Q0 τ' M' → RepS K M' H' τ' σ' → Cor K M' H' → Stp M H M' H' → Q σ' H'
  e : ∀ x M' c d H', E0 x M' → RepX K M' H' x c d → Cor K M' H' → Stp M H M' H' → W c d σ H'
def lifG (K : PySem.W.Frag) (W : WX) (g : DTG) : TG := fun v σ H Q => ∃ d τ M Q0 E0, Rep K M H d v ∧ SitG K W τ M σ H Q0 E0 Q ∧ g d τ M Q0 E0
def lifGs (K : PySem.W.Frag) (W : WX) (g : DTGs) : TGs := fun vs σ H Q => ∃ ds τ M Q0, Reps K M H ds vs ∧ SitG K W τ M σ H Q0 (fun _ _ => False) Q ∧ g ds τ M Q0 (fun _ _ => False)
abbrev DG (X : Cx) (W : WX) (tg : Expr) (g : DTG) : Prop := PG X tg (lifG X.K W g)
abbrev DGs (X : Cx) (W : WX) (tg : List Expr) (g : DTGs) : Prop := PGs X tg (lifGs X.K W g)
theorem PG.of {X : Cx} {e : Expr} {t t0 : TG} (h : PG X e t0) (k : ∀ v σ H Q, t v σ H Q → t0 v σ H Q) : PG X e t := ⟨fun pins s σ H v u Q I r q => h.run pins s σ H v u Q I r (k v σ H Q q)⟩
theorem PGs.of {X : Cx} {e : List Expr} {t t0 : TGs} (h : PGs X e t0) (k : ∀ v σ H Q, t v σ H Q → t0 v σ H Q) : PGs X e t := ⟨fun pins s σ H v u Q I r q => h.run pins s σ H v u Q I r (k v σ H Q q)⟩
def dgName (i : Nat) : DTG := fun d τ M Q _ => Q (τ.set i (some d)) M
def dgNil : DTGs := fun ds τ M Q _ => match ds with
  | [] => Q τ M
  | _ => False
def dgCons (i : Nat) (u : DTGs) : DTGs := fun ds τ M Q E => match ds with
  | d :: r => u r (τ.set i (some d)) M Q E
  | _ => False
def dgTup (n : Nat) (u : DTGs) : DTG := fun d τ M Q _ => match d with
  | .tup ds => ds.length = n ∧ u ds τ M Q (fun _ _ => False)
  | _ => False
def dgLst (n : Nat) (u : DTGs) : DTG := fun d τ M Q _ => match d with
  | .lst ds => ds.length = n ∧ u ds τ M Q (fun _ _ => False)
  | _ => False
abbrev DSet := D → D → D → Mu → (Mu → Prop) → Prop
def dgSub (to ti : DTE) (g : DSet) : DTG := fun d τ M Q E => to τ M (fun o M1 => ti τ M1 (fun i M2 => g o i d M2 (fun M3 => Q τ M3)) E) E
section
variable {X : Cx} {W : WX} {a b c e o i : Expr} {rest es : List Expr} {ta tb tc te to ti : DTE} {tl : DTA} {tt : DTT} {pos apos cpos p : Pos} {x : Str}
theorem SitG.sub {K : PySem.W.Frag} {τ : DSt} {M : Mu} {σ : L2.St} {H : Hp} {Q0 : DSt → Mu → Prop} {E0 : DX} {Q : L2.St → Hp → Prop} (S : SitG K W τ M σ H Q0 E0 Q) {γ δ : Type} {R1 : Mu → Hp → γ → δ → Prop} {t : DR γ} {G : γ → Mu → Prop} {Q1 : δ → Hp → Prop} (h : t τ M G E0)
    (k : ∀ d M1 v H1, G d M1 → R1 M1 H1 d v → SitG K W τ M1 σ H1 Q0 E0 Q → Stp M H M1 H1 → Q1 v H1) : lif K W R1 t σ H Q1 :=
  ⟨τ, M, G, E0, ⟨S.rs, S.co, fun d M' v H' g r c s => k d M' v H' g r ⟨S.rs.stp s, c, fun a b c d h r' c' s' => S.q a b c d h r' c' (s.trans s'), fun x M' c d H' h r c' s' => S.e x M' c d H' h r c' (s.trans s')⟩ s, S.e⟩, h⟩
theorem dg_name (j : Nat) (hN : X.N.Nodup) (hi : X.N[j]? = some x := by rfl) (hx : Loc X.env.scope x := by first | exact .inl rfl | exact .inr rfl) (hf : X.fn x = true ∨ X.env.scope.names.lookup x = some .local := by first | exact .inl rfl | exact .inr rfl) : DG X W (.Name x pos) (dgName j) :=
  PG.of (pg_name hN hi hx hf) fun v σ H Q ⟨d, τ, M, Q0, E0, r, S, h⟩ => S.q _ M _ H h (S.rs.set r j) S.co (Stp.refl M H)
theorem dgs_nil : DGs X W [] dgNil := PGs.of pgs_nil fun vs σ H Q ⟨ds, τ, M, Q0, r, S, h⟩ => by
  cases ds with
  | nil => exact ⟨r.unnil, S.q _ M _ H h S.rs S.co (Stp.refl M H)⟩
  | cons d r => exact h.elim
theorem dgs_cons (j : Nat) {u : DTGs} (hN : X.N.Nodup) (h2 : DGs X W es u) (hi : X.N[j]? = some x := by rfl) (hx : Loc X.env.scope x := by first | exact .inl rfl | exact .inr rfl) (hf : X.fn x = true ∨ X.env.scope.names.lookup x = some .local := by first | exact .inl rfl | exact .inr rfl)
    (hs : (assignEach (.Name x pos :: es) X.env).map (·.2) = assign (.Name x pos) X.env :: (assignEach es X.env).map (·.2) := by rfl) : DGs X W (.Name x pos :: es) (dgCons j u) :=
  PGs.of (pgs_cons (pg_name hN hi hx hf) h2 hs) fun vs σ H Q ⟨ds, τ, M, Q0, r, S, h⟩ => by
    cases ds with
    | nil => exact h.elim
    | cons d ds =>
      obtain ⟨v, us, rfl, r1, r2⟩ := r.uncons
      exact ⟨v, us, rfl, ds, τ.set j (some d), M, Q0, r2, ⟨S.rs.set r1 j, S.co, S.q, fun _ _ _ _ _ h => h.elim⟩, h⟩
theorem dg_tup {k n : Nat} {u : DTGs} (G : Gd X W) (h : DGs X W es u) (hn : (assignEach es X.env).length = n := by rfl) (hst : (assignEach es X.env).findIdx? (·.1) = none := by rfl) : DG X W (.Tuple es k pos) (dgTup n u) :=
  PG.of (pg_tup G.calm h hn hst) fun v σ H Q ⟨d, τ, M, Q0, E0, r, S, h⟩ => by
    cases d with
    | tup ds =>
      obtain ⟨a, vs, rfl, ha, ra⟩ := rep_of_tup r
      exact ⟨a, vs, rfl, sqT_of ha, by rw [ra.length]; exact h.1, ds, τ, M, Q0, ra, ⟨S.rs, S.co, S.q, fun _ _ _ _ _ h => h.elim⟩, h.2⟩
    | _ => exact h.elim
theorem dg_lst {k n : Nat} {u : DTGs} (G : Gd X W) (h : DGs X W es u) (hn : (assignEach es X.env).length = n := by rfl) (hst : (assignEach es X.env).findIdx? (·.1) = none := by rfl) : DG X W (.Tuple es k pos) (dgLst n u) :=
  PG.of (pg_lst G.calm h hn hst) fun v σ H Q ⟨d, τ, M, Q0, E0, r, S, h⟩ => by
    cases d with
    | lst ds =>
      obtain ⟨a, vs, rfl, ha, _, ra⟩ := rep_of_lst r
      exact ⟨a, vs, rfl, .inl (.inl ha), by rw [ra.length]; exact h.1, ds, τ, M, Q0, ra, ⟨S.rs, S.co, S.q, fun _ _ _ _ _ h => h.elim⟩, h.2⟩
    | _ => exact h.elim
def dPass : DTS := fun D τ M => D.nx τ M
def dSeq (t u : DTS) : DTS := fun D τ M => t { D with nx := u D } τ M
def dSet (i : Nat) (te : DTE) : DTS := fun D τ M => te τ M (fun d M1 => D.nx (τ.set i (some d)) M1) (D.ex τ)
def dAsg (te : DTE) (g : DTG) : DTS := fun D τ M => te τ M (fun d M1 => g d τ M1 D.nx (D.ex τ)) (D.ex τ)
def dDrop (te : DTE) : DTS := fun D τ M => te τ M (fun _ M1 => D.nx τ M1) (D.ex τ)
def dRet (te : DTE) : DTS := fun D τ M => te τ M D.rt (D.ex τ)
def dRetN : DTS := fun D _ M => D.rt .non M
def dIfS (c : DTT) (t u : DTS) : DTS := fun D τ M => c τ M (fun b M1 => if b = true then t D τ M1 else u D τ M1) (D.ex τ)
def dBrk : DTS := fun D τ M => D.bk τ M
def dCnt : DTS := fun D τ M => D.ct τ M
variable {st : Stmt} {sts : List Stmt} {t u : DTS}
theorem dss_nil : DSs X W [] dPass := PSs.of pss_nil fun D1 σ H ⟨τ, M, D0, S, h⟩ => S.next h
theorem dss_cons (h1 : DS X W st t) (h2 : DSs X W sts u) : DSs X W (st :: sts) (dSeq t u) := PSs.of (pss_cons h1 h2) fun D1 σ H ⟨τ, M, D0, S, h⟩ =>
  ⟨τ, M, { D0 with nx := u D0 }, ⟨S.rs, S.co, fun τ' M' σ' H' h r c s => ⟨τ', M', D0, S.go r c s, h⟩, S.rt, S.bk, S.ct, S.xc⟩, h⟩
theorem dss_one (h1 : DS X W st t) : DSs X W [st] t := pss_one h1
theorem ds_expr (he : DE X W e te) (hs : swapsWith e none pos.line X.env = pure false := by rfl) : DS X W (.Expr e pos) (dDrop te) := PS.of (ps_expr he hs) fun D1 σ H ⟨τ, M, D0, S, h⟩ =>
  S.sub h fun d M1 v H1 h1 r1 S1 s1 => S1.next h1
theorem ds_ret (he : DE X W e te) : DS X W (.Return (some e) pos) (dRet te) := PS.of (ps_ret he) fun D1 σ H ⟨τ, M, D0, S, h⟩ => S.sub h fun d M1 v H1 h1 r1 S1 s1 => S1.rt d M1 v H1 h1 r1 S1.co (Stp.refl M1 H1)
theorem ds_set (j : Nat) {pos' : Pos} (G : Gd X W) (he : DE X W e te) (hi : X.N[j]? = some x := by rfl) (hx : Loc X.env.scope x := by first | exact .inl rfl | exact .inr rfl)
    (hs : swapsWith e (some (.Name x pos')) pos.line X.env = pure false := by rfl) (hf : X.fn x = true ∨ X.env.scope.names.lookup x = some .local := by first | exact .inl rfl | exact .inr rfl) : DS X W (.Assign [.Name x pos'] e pos) (dSet j te) :=
  PS.of (ps_set G.nd hi hx he hs hf) fun D1 σ H ⟨τ, M, D0, S, h⟩ => S.sub h fun d M1 v H1 h1 r1 S1 s1 => S1.nx _ M1 _ H1 h1 (S1.rs.set r1 j) S1.co (Stp.refl M1 H1)
theorem ds_asg {tg : Expr} {g : DTG} (he : DE X W e te) (hg : DG X W tg g) (hs : swapsWithSole [tg] e pos.line X.env = pure false := by rfl) (hw : swappedStores [tg] e X.env = pure none := by rfl)
    (h1 : (assignEach [tg] X.env).map (·.2) = [assign tg X.env] := by rfl) : DS X W (.Assign [tg] e pos) (dAsg te g) :=
  PS.of (ps_asg he hg hs hw h1) fun D1 σ H ⟨τ, M, D0, S, h⟩ => S.sub h fun d M1 v H1 h1 r1 S1 s1 =>
    ⟨d, τ, M1, D0.nx, D0.ex τ, r1, ⟨S1.rs, S1.co, S1.nx, fun x M' c d H' h r c' s' => S1.xc x τ M' c d σ H' h r (S1.rs.stp s') c' s'⟩, h1⟩
theorem ds_if {sa sb : List Stmt} (hc : DT X W c tt) (ha : DSs X W sa t) (hb : DSs X W sb u) : DS X W (.If c sa sb pos) (dIfS tt t u) :=
  PS.of (ps_if hc ha hb) fun D1 σ H ⟨τ, M, D0, S, h⟩ => S.sub h fun d M1 v H1 h1 r1 S1 s1 => by
    cases r1
    cases d with
    | true => exact ⟨τ, M1, D0, S1, h1⟩
    | false => exact ⟨τ, M1, D0, S1, h1⟩
def ItOk (K : PySem.W.Frag) (M : Mu) (H : Hp) (ds : List D) (J : It) : Prop := ∀ M' H', Stp M H M' H' → Cor K M' H' →
  (∀ i, ds.length ≤ i → J.stop i H') ∧ (∀ i, i < ds.length → J.go i H') ∧ ∀ i d v H2, ds[i]? = some d → J.yld i H' v H2 → Rep K M' H2 d v ∧ Cor K M' H2 ∧ Stp M' H' M' H2
abbrev DTI := DR (List D)
abbrev DI (X : Cx) (W : WX) (tg iter : Expr) (ti : DTI) : Prop := PI X tg iter (lif X.K W (ItOk X.K) ti)
theorem PI.of {X : Cx} {tg e : Expr} {t t0 : TI} (h : PI X tg e t0) (k : ∀ σ H R, t σ H R → t0 σ H R) : PI X tg e t := ⟨fun pins s σ H R I q => h.run pins s σ H R I (k σ H R q)⟩
def wFor (g : DTG) (tb : DTS) (D0 : DEnds) : List D → DSt → Mu → Prop
  | [], τ, M => D0.nx τ M
  | d :: ds, τ, M => g d τ M (fun τ1 M1 => tb { D0 with nx := wFor g tb D0 ds, ct := wFor g tb D0 ds, bk := D0.nx } τ1 M1) (D0.ex τ)
def dFor (ti : DTI) (g : DTG) (tb : DTS) : DTS := fun D0 τ M => ti τ M (fun ds M1 => wFor g tb D0 ds τ M1) (D0.ex τ)
theorem ds_for {tg iter : Expr} {body : List Stmt} {ti : DTI} {g : DTG} {tb : DTS} (G : Gd X W) (hi : DI X W tg iter ti) (hg : DG X W tg g) (hb : DSs X W body tb) (hs : ∀ x, foldedSetIterable iter X.env x = pure x := by intro _; rfl) :
    DS X W (.For tg iter body [] pos) (dFor ti g tb) :=
  PS.of (ps_for G.own G.calm hi hg hb hs) fun D1 σ H ⟨τ, M, D0, S, h⟩ => S.sub h fun ds M1 J H1 h1 r1 S1 s1 => by
    refine ⟨fun i m σ2 H2 => m = ds.length - i ∧ i ≤ ds.length ∧ ∃ τ2 M2, Stp M1 H1 M2 H2 ∧ SitS X.K W τ2 M2 σ2 H2 D0 D1 ∧ wFor g tb D0 (ds.drop i) τ2 M2, ⟨ds.length, rfl, Nat.zero_le _, τ, M1, Stp.refl M1 H1, S1, h1⟩, ?_⟩
    rintro i m σ2 H2 ⟨rfl, hi, τ2, M2, s2, S2, h2⟩
    obtain ⟨k1, k2, k3⟩ := r1 M2 H2 s2 S2.co
    by_cases hlt : i < ds.length
    · have e : ds.drop i = ds[i] :: ds.drop (i + 1) := List.drop_eq_getElem_cons hlt
      rw [e] at h2
      refine .inr ⟨k2 i hlt, fun σ3 H3 => ∃ τ3 M3, Stp M1 H1 M3 H3 ∧ SitS X.K W τ3 M3 σ3 H3 D0 D1 ∧ wFor g tb D0 (ds.drop (i + 1)) τ3 M3, fun σ3 H3 q => ⟨ds.length - (i + 1), by omega, rfl, hlt, q⟩, fun x H3 y => ?_⟩
      obtain ⟨y1, y2, y3⟩ := k3 i ds[i] x H3 (List.getElem?_eq_getElem hlt) y
      have S3 := S2.go (S2.rs.stp y3) y2 y3
      refine ⟨ds[i], τ2, M2, _, D0.ex τ2, y1, ⟨S3.rs, S3.co, fun τ4 M4 σ4 H4 h4 r4 c4 s4 => ?_, fun x M' c d H' h r c' s' => S3.xc x τ2 M' c d σ2 H' h r (S3.rs.stp s') c' s'⟩, h2⟩
      have S4 := S3.go r4 c4 s4
      exact ⟨τ4, M4, { D0 with nx := wFor g tb D0 (ds.drop (i + 1)), ct := wFor g tb D0 (ds.drop (i + 1)), bk := D0.nx }, ⟨S4.rs, S4.co, fun a b c d h r c' s => ⟨a, b, (s2.trans (y3.trans s4)).trans s, S4.go r c' s, h⟩, S4.rt, S4.nx, fun a b c d h r c' s => ⟨a, b, (s2.trans (y3.trans s4)).trans s, S4.go r c' s, h⟩, S4.xc⟩, h4⟩
    · have e : i = ds.length := by omega
      rw [e, List.drop_length] at h2
      exact .inl ⟨k1 i (by omega), S2.next h2⟩
def dWhile (c : DTT) (tb : DTS) : DTS := fun D0 τ M => ∃ I : Nat → DSt → Mu → Prop, (∃ n, I n τ M) ∧ ∀ n τ M, I n τ M →
  c τ M (fun b M1 => if b = true then tb { D0 with nx := fun τ' M' => ∃ n', n' < n ∧ I n' τ' M', ct := fun τ' M' => ∃ n', n' < n ∧ I n' τ' M', bk := D0.nx } τ M1 else D0.nx τ M1) (D0.ex τ)
theorem ds_while {c : Expr} {body : List Stmt} {tc : DTT} {tb : DTS} (G : Gd X W) (hc : DT X W c tc) (hb : DSs X W body tb) : DS X W (.While c body [] pos) (dWhile tc tb) :=
  PS.of (ps_while G.own hc hb) fun D1 σ H ⟨τ, M, D0, S, I, ⟨n0, i0⟩, turn⟩ => by
    refine ⟨fun n σ2 H2 => ∃ τ2 M2, SitS X.K W τ2 M2 σ2 H2 D0 D1 ∧ I n τ2 M2, ⟨n0, τ, M, S, i0⟩, ?_⟩
    rintro n σ2 H2 ⟨τ2, M2, S2, i2⟩
    refine S2.sub (turn n τ2 M2 i2) fun b M3 v H3 h3 r3 S3 s3 => ?_
    cases r3
    cases b with
    | false => exact S3.next h3
    | true =>
      refine ⟨fun σ4 H4 => ∃ n', n' < n ∧ ∃ τ4 M4, SitS X.K W τ4 M4 σ4 H4 D0 D1 ∧ I n' τ4 M4, fun σ4 H4 ⟨n', l, q⟩ => ⟨n', l, q⟩, τ2, M3, { D0 with nx := fun τ' M' => ∃ n', n' < n ∧ I n' τ' M', ct := fun τ' M' => ∃ n', n' < n ∧ I n' τ' M', bk := D0.nx }, ⟨S3.rs, S3.co, ?_, S3.rt, S3.nx, ?_, S3.xc⟩, h3⟩
      · rintro a b c d ⟨n', l, q⟩ r c' s
        exact ⟨n', l, a, b, S3.go r c' s, q⟩
      · rintro a b c d ⟨n', l, q⟩ r c' s
        exact ⟨n', l, a, b, S3.go r c' s, q⟩
def upTo (lo : Int) (n : Nat) : List D := (List.range n).map fun i : Nat => D.int (lo + i)
def diRng1 (ta : DTA) : DTI := fun τ M Q E => ta τ M (fun ds M1 => match ds with
  | [.int j] => -(2 ^ 62) ≤ j ∧ j < 2 ^ 62 ∧ Q (upTo 0 j.toNat) M1
  | _ => False) E
def diRng2 (ta : DTA) : DTI := fun τ M Q E => ta τ M (fun ds M1 => match ds with
  | [.int i, .int j] => (-(2 ^ 62) ≤ i ∧ i < 2 ^ 62 ∧ -(2 ^ 62) ≤ j ∧ j < 2 ^ 62) ∧ Q (upTo i (j - i).toNat) M1
  | _ => False) E
theorem upTo_len (lo : Int) (n : Nat) : (upTo lo n).length = n := by simp [upTo]
theorem upTo_get {lo : Int} {n i : Nat} {d : D} (h : (upTo lo n)[i]? = some d) : d = .int (lo + i) := by
  unfold upTo at h
  rw [List.getElem?_map] at h
  cases e : (List.range n)[i]? with
  | none => rw [e] at h; cases h
  | some j =>
    rw [e] at h
    have := List.getElem?_range (n := n) (i := i)
    cases h
    have hl : i < n := by
      have := (List.getElem?_eq_some_iff.mp e).1
      simpa using this
    rw [List.getElem?_range hl] at e
    cases e
    rfl
theorem it_rng {K : PySem.W.Frag} {M : Mu} {H : Hp} (lo : Int) (n : Nat) : ItOk K M H (upTo lo n) (Itr lo n) := fun M' H' s c => by
  refine ⟨fun i h => by rw [upTo_len] at h; exact h, fun i h => by rw [upTo_len] at h; exact h, fun i d v H2 h y => ?_⟩
  obtain ⟨rfl, rfl⟩ := y
  rw [upTo_get h]
  exact ⟨rfl, c, Stp.refl M' _⟩
theorem it_lst {K : PySem.W.Frag} {M : Mu} {H : Hp} {a : Addr} {ds : List D} {vs : List V} (ha : H a = some (.lst vs)) (ma : M a = none) (ra : Reps K M H ds vs) : ItOk K M H ds (Itl K a) := fun M' H' s c => by
  have q : SqL K H' a vs := .inl (.inl (s a _ ha ma).1)
  have r := ra.stp s
  refine ⟨fun i h => ⟨vs, q, by rw [ra.length]; exact h⟩, fun i h => ?_, fun i d v H2 h y => ?_⟩
  · obtain ⟨v, h1, _⟩ := r.get (List.getElem?_eq_getElem h)
    exact ⟨vs, v, q, h1⟩
  · obtain ⟨rfl, y⟩ := y
    obtain ⟨u, h1, h2⟩ := r.get h
    have := y vs q
    rw [h1] at this
    cases this
    exact ⟨h2, c, Stp.refl M' _⟩
theorem it_tup {K : PySem.W.Frag} {M : Mu} {H : Hp} {a : Addr} {ds : List D} {vs : List V} (ha : (H a = some (.tup vs) ∧ M a = none) ∨ WrN K a vs) (ra : Reps K M H ds vs) : ItOk K M H ds (Itt K a) := fun M' H' s c => by
  have q : SqT K H' a vs := ha.elim (fun z => .inl (.inl (s a _ z.1 z.2).1)) fun z => .inr z.1
  have r := ra.stp s
  refine ⟨fun i h => ⟨vs, q, by rw [ra.length]; exact h⟩, fun i h => ?_, fun i d v H2 h y => ?_⟩
  · obtain ⟨v, h1, _⟩ := r.get (List.getElem?_eq_getElem h)
    exact ⟨vs, v, q, h1⟩
  · obtain ⟨rfl, y⟩ := y
    obtain ⟨u, h1, h2⟩ := r.get h
    have := y vs q
    rw [h1] at this
    cases this
    exact ⟨h2, c, Stp.refl M' _⟩
theorem it_str {K : PySem.W.Frag} {M : Mu} {H : Hp} (x : Tx) : ItOk K M H (x.map fun c => D.str [c]) (Its (sx x)) := fun M' H' s c => by
  have e : (sx x).cps.size = x.length := by simp [sx]
  refine ⟨fun i h => by show (sx x).cps.size ≤ i; rw [e]; simpa using h, fun i h => by show i < (sx x).cps.size; rw [e]; simpa using h, fun i d v H2 h y => ?_⟩
  obtain ⟨rfl, k, hk, rfl⟩ := y
  rw [List.getElem?_map] at h
  have e2 : x[i]? = some k := by simpa [sx] using hk
  rw [e2] at h
  cases h
  exact ⟨rfl, c, Stp.refl M' _⟩
theorem di_rng1 {tg : Expr} (hm : X.mg "range" = none) (ha : DA X W [a] tl) (hg : Gl X "range" := by rfl) (hs : starEach [a] X.env = [(false, eval a X.env)] := by rfl) : DI X W tg (.Call (.Name "range" p) [a] [] pos) (diRng1 tl) :=
  PI.of (pi_range1 hg hm ha hs) fun σ H R ⟨τ, M, Q0, E0, S, h⟩ => S.sub h fun ds M1 vs H1 h1 r1 S1 s1 => by
    match ds, h1 with
    | [.int j], h1 =>
      obtain ⟨v, u, rfl, r2, r3⟩ := r1.uncons
      cases r3.unnil; cases r2
      exact ⟨j, rfl, h1.1, h1.2.1, S1.end_ h1.2.2 (it_rng 0 _)⟩
theorem di_rng2 {tg : Expr} (hm : X.mg "range" = none) (ha : DA X W [a, b] tl) (hg : Gl X "range" := by rfl) (hs : starEach [a, b] X.env = [(false, eval a X.env), (false, eval b X.env)] := by rfl) (hs2 : starEach [b] X.env = [(false, eval b X.env)] := by rfl) :
    DI X W tg (.Call (.Name "range" p) [a, b] [] pos) (diRng2 tl) :=
  PI.of (pi_range2 hg hm ha hs hs2) fun σ H R ⟨τ, M, Q0, E0, S, h⟩ => S.sub h fun ds M1 vs H1 h1 r1 S1 s1 => by
    match ds, h1 with
    | [.int i, .int j], h1 =>
      obtain ⟨v, u, rfl, r2, r3⟩ := r1.uncons
      obtain ⟨v, u, rfl, r4, r5⟩ := r3.uncons
      cases r5.unnil; cases r2; cases r4
      exact ⟨i, j, rfl, h1.1, S1.end_ h1.2 (it_rng i _)⟩
end
theorem def_ok {P : Program} {w : World} {K : PySem.W.Frag} {mg : Str → Option Value} {base : Heap} {x qual : Str} {st : Stmt} {f : Addr} {fd : FuncData} {N ps : List Str} {k : Nat} {sp : DSp} {t : DTS}
    (F : FunD K x qual (defArgs st) (defBody st) (defScope st) [] [] f fd) (S : FnScope N ps (defScope st)) (len : ∀ ds M Q E, sp ds M Q E → ds.length = ps.length)
    (hd : ∀ (cdv : Value) (A : Around) (outer : List Env) (s : Shared) (H : Hp) (E : XK), Gd (cxOf (L2N.CX P w) P w K mg base N qual (defScope st) f cdv A outer s H E) (fun c d _ H => E c d H) → Room k (cxOf (L2N.CX P w) P w K mg base N qual (defScope st) f cdv A outer s H E).A →
      DSs (cxOf (L2N.CX P w) P w K mg base N qual (defScope st) f cdv A outer s H E) (fun c d _ H => E c d H) (defBody st) t)
    (hp : ∀ ds M Q E, sp ds M Q E → t { nx := fun _ M' => Q .non M', rt := Q, xc := fun x _ M' => E x M' } (ds.map some ++ List.replicate (N.length - ps.length) none) M) :
    FnOk P w K mg base (L2N.CX P w) (k + 1) f fd ps (lsp K sp) := by
  refine F.ok S (fun vs H Q E h => ?_) (fun cdv A outer s H vs Q E hr h => ?_)
  · obtain ⟨ds, M, Q0, E0, r, c, h, _⟩ := h
    rw [r.length]
    exact len ds M Q0 E0 h
  · obtain ⟨ds, M, Q0, E0, r, c, h, hq, he⟩ := h
    have hl := len ds M Q0 E0 h
    refine ⟨lifS K (fun c d _ H => E c d H) t, ?_, ?_⟩
    · refine hd cdv A outer s H E ?_ hr
      exact ⟨rfl, L2N.takes_of rfl rfl rfl rfl, by have := hr.un; show A.units + 3 + 64 < cLine; have e : (A.deeper (PyProof.Rows.envOfC qual (defScope st) s.heap.objs.size f cdv)).units = A.units + 3 := rfl; omega, passes_of rfl, S.nd⟩
    · refine ⟨_, M, { nx := fun _ M' => Q0 .non M', rt := Q0, xc := fun x _ M' => E0 x M' }, ⟨?_, c, fun τ' M' σ' H' h r c' s' => hq .non M' .non H' h rfl c' s', hq, fun _ _ _ _ h => h.elim, fun _ _ _ _ h => h.elim, fun x τ' M' c d σ' H' h r _ c' s' => he x M' c d H' h r c' s'⟩, hp ds M Q0 E0 h⟩
      unfold L2.start
      rw [r.length, hl]
      exact RepS.start _ r
theorem FnM.of {P : Program} {w : World} {K : PySem.W.Frag} {mg : Str → Option Value} {base : Heap} {k : Nat} {x : Str} {f : Addr} {fd : FuncData} {ps : List Str} {sp : DSp} (F : FnOk P w K mg base (L2N.CX P w) k f fd ps (lsp K sp)) (hm : mg x = some (.ref f))
    (hk : PySem.W.keepIn K (.ref f) = true) (hb : Binds K fd ps []) : FnM P w K mg base k x sp := ⟨f, fd, ps, F, hm, hk, hb⟩
end DL
namespace DL
open PySem L2
section
variable {X : Cx} {W : WX} {a b c e o i : Expr} {rest es : List Expr} {ta tb tc te to ti : DTE} {tl : DTA} {tt : DTT} {pos apos cpos p : Pos} {x : Str}
theorem de_gs {z : Str} (h : ∃ t, X.mg x = some (.str z t)) (hg : Gl X x := by rfl) (hd : (x == ("__debug__" : Str)) = false := by decide) : DE X W (.Name x pos) (dC (.str (T z))) := by
  obtain ⟨t, h⟩ := h
  refine de_glob (v := .str z) hg h ⟨t, rfl⟩ (fun M H => ?_) hd
  show V.str z = V.str (sx (T z))
  rw [sx_T]
theorem de_gsc {z : Str} {u : Tx} (h : ∃ t, X.mg x = some (.str z t)) (e : T z = u) (hg : Gl X x := by rfl) (hd : (x == ("__debug__" : Str)) = false := by decide) : DE X W (.Name x pos) (dC (.str u)) := by
  rw [← e]
  exact de_gs h hg hd
theorem de_strc {z : Str} {t : Tx} {j : Nat} (h : T z = t) : DE X W (.Constant (.str z) j pos) (dC (.str t)) := by
  rw [← h]
  exact de_str
theorem de_gi {z : Int} (h : ∃ t, X.mg x = some (.int z t)) (hg : Gl X x := by rfl) (hd : (x == ("__debug__" : Str)) = false := by decide) : DE X W (.Name x pos) (dC (.int z)) := by
  obtain ⟨t, h⟩ := h
  exact de_glob (v := .int z) hg h ⟨t, rfl⟩ (fun M H => rfl) hd
def gIsNN (nb : Bool → Bool) : DOp := fun x y M Q => match y with
  | .non => (match x with
    | .non => Q (.bl (nb true)) M
    | _ => Q (.bl (nb false)) M)
  | _ => False
abbrev gIsN : DOp := gIsNN id
abbrev gNotN : DOp := gIsNN not
theorem od_isNN {K : PySem.W.Frag} {nb : Bool → Bool} : OpD K (gIsNN nb) (fun x y H Q => y = .non ∧ Q (.bl (nb (decide (x = .non)))) H) := fun M H x y v u Q0 Q c rx ry h q => by
  have fin : ∀ b, Q0 (.bl b) M → Q (.bl b) H := fun b z => q _ M _ H z rfl c (Stp.refl M H)
  cases y with
  | non =>
    cases ry
    refine ⟨rfl, ?_⟩
    cases x with
    | non => cases rx; exact fin _ h
    | bl _ => cases rx; exact fin _ h
    | int _ => cases rx; exact fin _ h
    | str _ => cases rx; exact fin _ h
    | ref _ => cases rx; exact fin _ h
    | ty _ => cases rx; exact fin _ h
    | scr _ => obtain ⟨a, rfl, _⟩ := (show ∃ a, v = .ref a ∧ _ from rx); exact fin _ h
    | cl _ => cases rx; exact fin _ h
    | exc _ _ _ _ _ => obtain ⟨rfl, _⟩ := (show v = _ ∧ _ from rx); exact fin _ h
    | lst _ => obtain ⟨a, vs, rfl, _⟩ := rep_of_lst rx; exact fin _ h
    | tup _ => obtain ⟨a, vs, rfl, _⟩ := rep_of_tup rx; exact fin _ h
  | _ => exact h.elim
theorem od_isN {K : PySem.W.Frag} : OpD K gIsN (fun x y H Q => y = .non ∧ Q (.bl (decide (x = .non))) H) := od_isNN (nb := id)
theorem od_notN {K : PySem.W.Frag} : OpD K gNotN (fun x y H Q => y = .non ∧ Q (.bl (!decide (x = .non))) H) := od_isNN (nb := not)
def iAny (K : PySem.W.Frag) (te : TE) : TI := fun σ H R => te σ H fun v H1 => (∃ z, v = .str z ∧ R (Its z) H1) ∨ (∃ a, v = .ref a ∧ (∃ xs, SqL K H1 a xs) ∧ R (Itl K a) H1) ∨ ∃ a, v = .ref a ∧ (∃ xs, SqT K H1 a xs) ∧ R (Itt K a) H1
theorem pi_any {tg : Expr} {te : TE} (he : PE X e te) : PI X tg e (iAny X.K te) := ⟨fun pins s σ H R I h => thn (he.run pins s σ H _ I h) fun v s1 hv => by
  obtain ⟨y, H1, J1, ry, hy⟩ := hv
  rcases hy with ⟨z, rfl, hR⟩ | ⟨a, rfl, ⟨xs, hs⟩, hR⟩ | ⟨a, rfl, ⟨xs, hs⟩, hR⟩
  · obtain ⟨tk, rfl⟩ := ry
    cases hz : z.cps.all (· < 128) with
    | false => exact wpAny_pyIter_wide hz (pi_one (tk := s1.toks) J1 _ (turn_str _ z tk _ (.inr rfl)) ⟨_, Heap.get?_push_size _ rfl, rfl, rfl⟩ hR)
    | true => exact wpAny_pyIter_ascii hz (pi_one (tk := s1.toks) J1 _ (turn_str _ z tk _ (.inl rfl)) ⟨_, Heap.get?_push_size _ rfl, rfl, rfl⟩ hR)
  · cases ry
    obtain ⟨its, rv, pl, hz⟩ := J1.list hs
    exact wpAny_pyIter_list pl.isList (pi_one (tk := s1.toks) J1 _ (turn_list a _) ⟨_, Heap.get?_push_size _ rfl, rfl, rfl⟩ hR)
  · cases ry
    obtain ⟨its, rv, pl, hz⟩ := J1.tuple hs
    exact wpAny_pyIter_tuple pl (pi_one (tk := s1.toks) J1 _ (turn_tuple a _) ⟨_, Heap.get?_push_size _ rfl, rfl, rfl⟩ hR)⟩
def itemsD : D → Option (List D)
  | .str x => some (x.map fun c => D.str [c])
  | .lst ds => some ds
  | .tup ds => some ds
  | _ => none
def diAny (te : DTE) : DTI := fun τ M Q E => te τ M (fun d M1 => match itemsD d with
  | some ds => Q ds M1
  | none => False) E
theorem di_any {tg : Expr} (h : DE X W e te) : DI X W tg e (diAny te) := PI.of (pi_any h) fun σ H R ⟨τ, M, Q0, E0, S, h⟩ => S.sub h fun d M1 v H1 h1 r1 S1 s1 => by
  cases d with
  | str x => exact .inl ⟨sx x, r1, S1.end_ h1 (it_str x)⟩
  | lst ds =>
    obtain ⟨a, vs, rfl, ha, ma, ra⟩ := rep_of_lst r1
    exact .inr (.inl ⟨a, rfl, ⟨vs, .inl (.inl ha)⟩, S1.end_ h1 (it_lst ha ma ra)⟩)
  | tup ds =>
    obtain ⟨a, vs, rfl, ha, ra⟩ := rep_of_tup r1
    exact .inr (.inr ⟨a, rfl, ⟨vs, sqT_of ha⟩, S1.end_ h1 (it_tup ha ra)⟩)
  | _ => exact h1.elim
theorem it_scr {K : PySem.W.Frag} {M : Mu} {H : Hp} {a : Addr} {ns : List Int} (ha : ((∃ o, H a = some (.frz o (.lst (ns.map V.int)))) ∧ M a = none) ∨ WrL K a (ns.map V.int)) : ItOk K M H (ns.map D.int) (Itl K a) := fun M' H' s c => by
  have q : SqL K H' a (ns.map V.int) := scr_sq (M := M') (ha.elim (fun z => .inl (z.1.elim fun o e => ⟨⟨o, (s a _ e z.2).1⟩, (s a _ e z.2).2⟩)) .inr)
  have r : Reps K M' H' (ns.map D.int) (ns.map V.int) := Reps.of_ints ns
  refine ⟨fun i h => ⟨_, q, by rw [r.length]; exact h⟩, fun i h => ?_, fun i d v H2 h y => ?_⟩
  · obtain ⟨v, h1, _⟩ := r.get (List.getElem?_eq_getElem h)
    exact ⟨_, v, q, h1⟩
  · obtain ⟨rfl, y⟩ := y
    obtain ⟨u, h1, h2⟩ := r.get h
    have := y _ q
    rw [h1] at this
    cases this
    exact ⟨h2, c, Stp.refl M' _⟩
def diScr (te : DTE) : DTI := fun τ M Q E => te τ M (fun d M1 => match d with
  | .scr ns => Q (ns.map D.int) M1
  | _ => False) E
theorem di_scr {tg : Expr} (h : DE X W e te) : DI X W tg e (diScr te) := PI.of (pi_any h) fun σ H R ⟨τ, M, Q0, E0, S, h⟩ => S.sub h fun d M1 v H1 h1 r1 S1 s1 => by
  cases d with
  | scr ns =>
    obtain ⟨a, rfl, ha⟩ := (show ∃ a, v = .ref a ∧ _ from r1)
    exact .inr (.inl ⟨a, rfl, ⟨_, scr_sq ha⟩, S1.end_ h1 (it_scr ha)⟩)
  | _ => exact h1.elim
theorem RepS.reset {K : PySem.W.Frag} {M : Mu} {H : Hp} {d : D} {v : V} (rp : Rep K M H d v) : ∀ {ds : List (Option D)} {vs : List (Option V)} (i : Nat), RepS K M H ds vs → vs[i]? = some (some v) → RepS K M H (ds.set i (some d)) vs
  | [], _, _, h, _ => h
  | .none :: ds, _, 0, ⟨u, r, e, h⟩, q => by subst e; have q2 : u = some v := by simpa using q
                                             rw [q2]; exact ⟨v, r, rfl, rp, h⟩
  | some _ :: ds, _, 0, ⟨u, r, e, _, h⟩, q => by subst e; have q2 : u = v := by simpa using q
                                                 rw [q2]; exact ⟨v, r, rfl, rp, h⟩
  | .none :: ds, _, i + 1, ⟨u, r, e, h⟩, q => by subst e; exact ⟨u, r, rfl, RepS.reset rp i h (by simpa using q)⟩
  | some x :: ds, _, i + 1, ⟨u, r, e, h1, h⟩, q => by subst e; exact ⟨u, r, rfl, h1, RepS.reset rp i h (by simpa using q)⟩
def dFz (i : Nat) (t : DTS) : DTS := fun D0 τ M => match τ[i]? with
  | some (some (.ref a)) => (match M a with
    | some (.lst ds) => t D0 (τ.set i (some (.lst ds))) (del M a)
    | _ => False)
  | _ => False
theorem dss_fz {sts : List Stmt} {t : DTS} (j : Nat) (h : DSs X W sts t) : DSs X W sts (dFz j t) := PSs.of h fun D1 σ H ⟨τ, M, D0, S, h⟩ => by
  unfold dFz at h
  split at h
  · rename_i a e
    obtain ⟨v, e2, r⟩ := S.rs.get e
    cases r
    split at h
    · rename_i ds e3
      obtain ⟨vs, ha, ra⟩ := mu_lst S.co e3
      refine ⟨_, _, D0, S.go (RepS.reset (rep_lst ha del_same (ra.stp Stp.frz)) j (S.rs.stp Stp.frz) e2) S.co.frz Stp.frz, h⟩
    · exact h.elim
  · exact h.elim
end
end DL
namespace DL
open PySem L2 PySem.Spec PyProof.Rows
theorem turn_mid {elt t0 i0 t1 i1 : Expr} {f0 f1 : List Expr} {gs : List Comprehension} {d : Nat} {scope : Scope} {pos : Pos} {it acc : Value} {env : Env} (h0 : gs[d]? = some ⟨t0, i0, f0, 0⟩) (h1 : gs[d + 1]? = some ⟨t1, i1, f1, 0⟩) :
    compTurn (.ListComp elt gs scope pos) d it acc env = (do
      standAt i0.pos
      match ← pyNext it with
      | none => pure (.done .next)
      | some u =>
        letOwnedTupleGo t0 it u
        assign t0 env u
        let mut yes := true
        for c in f0 do
          if yes then yes ← isTrue c env (eval c env)
        if yes then
          let z ← eval i1 env
          standAt i1.pos
          let z ← foldedSetIterable i1 env z
          let _ ← runOwn (.compStart (.ListComp elt gs scope pos) (d + 1) (← holding [z] (pyIter z)) acc env) env
        again (.compLoop (.ListComp elt gs scope pos) d it acc env)) := by
  unfold compTurn
  simp only [h0, h1]
  rfl
theorem turn_last {elt t0 i0 : Expr} {f0 : List Expr} {gs : List Comprehension} {d : Nat} {scope : Scope} {pos : Pos} {it acc : Value} {env : Env} (h0 : gs[d]? = some ⟨t0, i0, f0, 0⟩) (h1 : gs[d + 1]? = none) :
    compTurn (.ListComp elt gs scope pos) d it acc env = (do
      standAt i0.pos
      match ← pyNext it with
      | none => pure (.done .next)
      | some u =>
        letOwnedTupleGo t0 it u
        assign t0 env u
        let mut yes := true
        for c in f0 do
          if yes then yes ← isTrue c env (eval c env)
        if yes then
          (do let _ ← call (.builtin "list.append") [acc, ← eval elt env])
        again (.compLoop (.ListComp elt gs scope pos) d it acc env)) := by
  unfold compTurn
  simp only [h0, h1]
  rfl
end DL
namespace DL
open PySem L2 PySem.Spec PyProof.Rows
section
variable {prog : Program} {w : World} {A : Around} {R : Result → Shared → Prop} {s : Shared} {elt t0 i0 t1 i1 : Expr} {f0 f1 : List Expr} {gs : List Comprehension} {d : Nat} {scope : Scope} {pos : Pos} {it acc : Value} {env : Env}
abbrev noE : Value → Shared → Prop := fun _ _ => False
theorem noE_le {α : Type} {M : Model} {t : Sem α} {Q Q' : α → Shared → Prop} {E : Value → Shared → Prop} (h : wpAny M A t Q noE s) (k : ∀ a z, Q a z → Q' a z) : wpAny M A t Q' E s := wpAny_mono h k fun _ _ f => f.elim
abbrev tsts (fs : List Expr) (env : Env) : Sem Bool := forIn fs true fun c r => if r = true then do let ok ← isTrue c env (eval c env); pure (ForInStep.yield ok) else pure (ForInStep.yield r)
def TurnTo (prog : Program) (w : World) (A : Around) (t0 : Expr) (f0 : List Expr) (it : Value) (env : Env) (done : Shared → Prop) (yes no : Shared → Prop) (z : Shared) : Prop :=
  wpAny (model prog w) A (pyNext it) (fun r z1 => match r with
    | none => done z1
    | some u => wpAny (model prog w) A (letOwnedTupleGo t0 it u) (fun _ z2 => wpAny (model prog w) A (assign t0 env u) (fun _ z3 => wpAny (model prog w) A (tsts f0 env) (fun b z4 => if b = true then yes z4 else no z4) noE z3) noE z2) noE z1) noE z
theorem loop_mid (h0 : gs[d]? = some ⟨t0, i0, f0, 0⟩) (h1 : gs[d + 1]? = some ⟨t1, i1, f1, 0⟩) (hs : ∀ x, foldedSetIterable i1 env x = pure x) (V G : Nat → Shared → Prop)
    (turn : ∀ k z, V k z → TurnTo prog w A t0 f0 it env (R (.ok .next)) (G k) (fun z => ∃ m, m < k ∧ V m z) z)
    (step : ∀ k z, G k z → wpAny (model prog w) A (eval i1 env) (fun x z1 => wpAny (model prog w) A (pyIter x) (fun y z2 => codeAny (model prog w) A (.compStart (.ListComp elt gs scope pos) (d + 1) y acc env) (fun r z3 => match r with
      | .ok _ => ∃ m, m < k ∧ V m z3
      | .error _ => False) z2) noE z1) noE z) (n : Nat) (h : V n s) : codeAny (model prog w) A (.compLoop (.ListComp elt gs scope pos) d it acc env) R s := by
  refine codeAny_loop rfl V (fun k z hV => ?_) n h
  show wpAny _ A ((compTurn (.ListComp elt gs scope pos) d it acc env).onRaise (fun x => do noteFrame x env; theTreesLotGoes x)) _ _ z
  refine wpAny_noted ?_
  rw [turn_mid h0 h1]
  refine wpAny_bind (wpAny_standAt (wpAny_bind (noE_le (turn k z hV) fun r z1 q1 => ?_)))
  cases r with
  | none => exact wpAny_pure q1
  | some u =>
    refine wpAny_bind (noE_le q1 fun _ z2 q2 => wpAny_bind (noE_le q2 fun _ z3 q3 => wpAny_bind (noE_le q3 fun b z4 q4 => ?_)))
    cases b with
    | false => exact wpAny_pure ⟨rfl, q4⟩
    | true =>
      refine wpAny_bind (noE_le (step k z4 q4) fun x z5 q5 => ?_)
      refine wpAny_bind (wpAny_standAt (wpAny_bind (wpAny_of_eq (hs x) (wpAny_bind (wpAny_holding (noE_le q5 fun y z6 q6 => ?_))))))
      refine wpAny_bind (wpAny_runOwn ?_)
      rw [Around.mark_none]
      refine codeAny_mono q6 fun r z7 q7 => ?_
      cases r with
      | ok f =>
        first
          | exact wpAny_pure ⟨rfl, q7⟩
          | exact wpAny_bind (wpAny_pure (wpAny_pure ⟨rfl, q7⟩))
      | error e => exact q7.elim
theorem loop_last (h0 : gs[d]? = some ⟨t0, i0, f0, 0⟩) (h1 : gs[d + 1]? = none) (V G : Nat → Shared → Prop)
    (turn : ∀ k z, V k z → TurnTo prog w A t0 f0 it env (R (.ok .next)) (G k) (fun z => ∃ m, m < k ∧ V m z) z)
    (step : ∀ k z, G k z → wpAny (model prog w) A (eval elt env) (fun x z1 => wpAny (model prog w) A (call (.builtin "list.append") [acc, x]) (fun _ z2 => ∃ m, m < k ∧ V m z2) noE z1) noE z)
    (n : Nat) (h : V n s) : codeAny (model prog w) A (.compLoop (.ListComp elt gs scope pos) d it acc env) R s := by
  refine codeAny_loop rfl V (fun k z hV => ?_) n h
  show wpAny _ A ((compTurn (.ListComp elt gs scope pos) d it acc env).onRaise (fun x => do noteFrame x env; theTreesLotGoes x)) _ _ z
  refine wpAny_noted ?_
  rw [turn_last h0 h1]
  refine wpAny_bind (wpAny_standAt (wpAny_bind (noE_le (turn k z hV) fun r z1 q1 => ?_)))
  cases r with
  | none => exact wpAny_pure q1
  | some u =>
    refine wpAny_bind (noE_le q1 fun _ z2 q2 => wpAny_bind (noE_le q2 fun _ z3 q3 => wpAny_bind (noE_le q3 fun b z4 q4 => ?_)))
    cases b with
    | false => exact wpAny_pure ⟨rfl, q4⟩
    | true => exact wpAny_bind (wpAny_bind (noE_le (step k z4 q4) fun x z5 q5 => wpAny_bind (noE_le q5 fun _ z6 q6 => wpAny_pure (wpAny_pure ⟨rfl, q6⟩))))
theorem start_at (h0 : gs[d]? = some ⟨t0, i0, f0, 0⟩) (ha : codeAny (model prog w) A (.compLoop (.ListComp elt gs scope pos) d it acc env) R s)
    (hb : wpAny (model prog w) A (pyIter it) (fun y z => codeAny (model prog w) A (.compLoop (.ListComp elt gs scope pos) d y acc env) R z) (notedBy (model prog w) A env fun x z => R (.error x) z) s) :
    codeAny (model prog w) A (.compStart (.ListComp elt gs scope pos) d it acc env) R s := by
  have hcl : (clausesOf (.ListComp elt gs scope pos))[d]? = some ⟨t0, i0, f0, 0⟩ := h0
  refine codeAny_of_tree ?_
  show wpAny _ _ ((compStart (.ListComp elt gs scope pos) d it acc env).onRaise (fun x => do noteFrame x env; standAt theWindowsPlace)) _ _ s
  refine wpAny_notedAt ?_
  unfold compStart
  simp only [hcl]
  show wpAny _ _ (ask >>= _) _ _ s
  refine wpAny_bind (wpAny_askSetting (wpAny_ite ?_))
  split
  · first
      | exact wpAny_bind (wpAny_pure (wpAny_pure (And.intro rfl ha)))
      | exact wpAny_pure (And.intro rfl ha)
  · first
      | exact wpAny_bind (wpAny_rule (wpAny_bind (wpAny_standAt (wpAny_bind (wpAny_mono hb (fun y z q => wpAny_pure (And.intro rfl q)) fun _ _ x => x)))))
      | (refine wpAny_bind (wpAny_rule ?_); show wpAny _ _ (standAt i0.pos >>= _) _ _ s; exact wpAny_bind (wpAny_standAt (wpAny_bind (wpAny_mono hb (fun y z q => wpAny_pure (And.intro rfl q)) fun _ _ x => x))))
end
end DL
namespace DL
open PySem L2 PySem.Spec PyProof.Rows
structure Cl where
  tg : Expr
  iter : Expr
  ifs : List Expr
  wi : TI
  g : TG
  tt : TT
  vs : List Nat
abbrev Cl.c (c : Cl) : Comprehension := ⟨c.tg, c.iter, c.ifs, 0⟩
def wTurns (g : TG) (tt : TT) (vs : List Nat) (σ : L2.St) (inn : L2.St → Hp → (Hp → Prop) → Prop) (Nx : Hp → Prop) (J : It) (H1 : Hp) : Prop :=
  ∃ W : Nat → Nat → Hp → Prop, (∃ m, W 0 m H1) ∧ ∀ i m H, W i m H → (J.stop i H ∧ Nx H) ∨ (J.go i H ∧ ∃ N1 : Hp → Prop, (∀ H', N1 H' → ∃ m', m' < m ∧ W (i + 1) m' H') ∧
    ∀ x H', J.yld i H x H' → g x (wipe σ vs) H' fun σ2 H2 => wipe σ2 vs = wipe σ vs ∧ tt σ2 H2 fun b H3 => if b = true then inn σ2 H3 N1 else N1 H3)
def Nst (em : L2.St → Hp → (Hp → Prop) → Prop) : List Cl → L2.St → Hp → (Hp → Prop) → Prop
  | [], σ, H, Nx => em σ H Nx
  | c :: cs, σ, H, Nx => c.wi σ H fun J H1 => wTurns c.g c.tt c.vs σ (Nst em cs) Nx J H1
def emt (D : Addr) (te : TE) : L2.St → Hp → (Hp → Prop) → Prop := fun σ H Nx => te σ H fun y H1 => ∃ acc, H1 D = some (.lst acc) ∧ acc.length < sizeLine ∧ Nx (upd H1 D (.lst (acc ++ [y])))
def hvs : List Cl → List Nat
  | [] => []
  | c :: _ => c.vs
structure ClOk (B : Cx) (c : Cl) : Prop where
  g : PG B c.tg c.g
  t : PTs B c.ifs c.tt
structure ClIn (B : Cx) (c : Cl) : Prop extends ClOk B c where
  i : PI B c.tg c.iter c.wi
  s : ∀ x, foldedSetIterable c.iter B.env x = pure x
def Dec : List Nat → List Cl → Prop
  | _, [] => True
  | vs, c :: cs => (∀ i ∈ c.vs, i ∈ vs) ∧ Dec c.vs cs
structure Kps (vs : List Nat) (σ σ' : L2.St) : Prop where
  len : σ'.length = σ.length
  k : ∀ (j : Nat) v, (wipe σ vs)[j]? = some (some v) → σ'[j]? = some (some v)
section
variable {B : Cx} {elt : Expr} {gs : List Comprehension} {scope : Scope} {pos : Pos} {D : Addr} {te : TE}
theorem kps_back {vs us : List Nat} {σ σ2 σ3 : L2.St} (hu : ∀ i ∈ us, i ∈ vs) (e : wipe σ2 vs = wipe σ vs) (k : Kps us σ2 σ3) : Kps [] (wipe σ vs) σ3 :=
  ⟨by rw [k.len, ← e, wipe_length], fun j v h => by
    have h : (wipe σ vs)[j]? = some (some v) := h
    rw [← e] at h
    obtain ⟨h1, h2⟩ := wipe_some h
    exact k.k j v (by rw [wipe_out fun z => h2 (hu j z)]; exact h1)⟩
theorem Kps.refl (vs : List Nat) (σ : L2.St) : Kps vs σ σ := ⟨rfl, fun j v h => (wipe_some h).1⟩
section
variable {c : Cl} {cs : List Cl} {P : List (Addr × Obj)} {σ : L2.St} {it : Addr} {fp : List Addr} {tn : Nat → Heap → Prop} {J : It} {Nx : Hp → Prop} {W : Nat → Nat → Hp → Prop}
def Btw (B : Cx) (c : Cl) (P : List (Addr × Obj)) (σ : L2.St) (fp : List Addr) (tn : Nat → Heap → Prop) (W : Nat → Nat → Hp → Prop) (k : Nat) (z : Shared) : Prop :=
  ∃ i H', Inv B P (wipe σ c.vs) H' z ∧ tn i z.heap ∧ (∀ b ∈ fp, H' b = none) ∧ W i k H'
def Bhd (B : Cx) (V : Nat → Shared → Prop) (D : Addr) (te : TE) (cs : List Cl) (k : Nat) (z : Shared) : Prop :=
  ∃ σ2 H2 N1 P2, Inv B P2 σ2 H2 z ∧ Nst (emt D te) cs σ2 H2 N1 ∧ ∀ σ3 H3 z3, Inv B P2 σ3 H3 z3 → Kps (hvs cs) σ2 σ3 → N1 H3 → ∃ m, m < k ∧ V m z3
theorem clause_turn (hx : ∀ e z, ¬ B.xe e z) {done : Shared → Prop} (hd : ∀ H' z, Inv B P (wipe σ c.vs) H' z → Nx H' → done z) (hc : B.calm = true) (hdec : Dec c.vs cs) (ok : ClOk B c) (T : Turn B.prog B.w B.K c.tg J fp it tn) (stat : ∀ {H' : Hp}, (∀ b ∈ fp, H' b = none) → ∀ b ∈ fp, FpOk B P H' b)
    (turn : ∀ i m H, W i m H → (J.stop i H ∧ Nx H) ∨ (J.go i H ∧ ∃ N1 : Hp → Prop, (∀ H', N1 H' → ∃ m', m' < m ∧ W (i + 1) m' H') ∧
      ∀ x H', J.yld i H x H' → c.g x (wipe σ c.vs) H' fun σ2 H2 => wipe σ2 c.vs = wipe σ c.vs ∧ c.tt σ2 H2 fun b H3 => if b = true then Nst (emt D te) cs σ2 H3 N1 else N1 H3))
    {k : Nat} {z : Shared} (hv : Btw B c P σ fp tn W k z) :
    TurnTo B.prog B.w B.A c.tg c.ifs (.ref it) B.env done (Bhd B (Btw B c P σ fp tn W) D te cs k) (fun z => ∃ m, m < k ∧ Btw B c P σ fp tn W m z) z := by
  obtain ⟨i, H5, I5, st5, n5, w5⟩ := hv
  unfold TurnTo
  rcases turn i k H5 w5 with ⟨stop, nx⟩ | ⟨go, N1, hN1, yl⟩
  · refine noE_le (T.done B rfl rfl rfl hc i P z _ H5 noE I5 (stat n5) st5 stop) fun r z1 ⟨hr, I6⟩ => ?_
    subst hr
    exact hd H5 _ I6 nx
  · refine noE_le (T.item B rfl rfl rfl hc i P z _ H5 noE I5 (stat n5) st5 go) fun r z1 ⟨u, hr, h6⟩ => ?_
    subst hr
    refine noE_le h6 fun _ z2 ⟨x, H7, I7, r7, y7, st7, n7⟩ => ?_
    have pinned := I7.pinned (stat n7) (T.obj _ _ st7)
    refine wpAny_mono (ok.g.run _ z2 _ H7 x u _ pinned r7 (yl x H7 y7)) (fun _ z3 ⟨σ8, H8, I8, hw8, q8⟩ => ?_) fun e z hx1 => ?_
    · refine wpAny_mono (ok.t.run _ z3 σ8 H8 _ I8 q8) (fun b z4 ⟨H9, I9, q9⟩ => ?_) fun e z hx2 => ?_
      · have fin : ∀ σ3 H3 z3, Inv B (P ++ pinsAt fp z2.heap) σ3 H3 z3 → Kps (hvs cs) σ8 σ3 → N1 H3 → ∃ m, m < k ∧ Btw B c P σ fp tn W m z3 := fun σ3 H3 z3 I' kp nx => by
          obtain ⟨m', hm, w'⟩ := hN1 H3 nx
          have pin' : ∀ b ∈ fp, ∀ o, z2.heap.get? b = some o → z3.heap.get? b = some o ∧ H3 b = none := fun b hb o e =>
            let q := I'.pin (b, o) (List.mem_append_right _ (List.mem_append_right _ (mem_pinsAt hb e)))
            ⟨q.1, q.2.1⟩
          have kb : Kps [] (wipe σ c.vs) σ3 := kps_back (us := hvs cs) (by cases cs with
            | nil => intro i h; cases h
            | cons x xs => exact hdec.1) hw8 kp
          refine ⟨m', hm, i + 1, H3, (I'.unpinned (pins := P)).weak kb.len.symm kb.k, T.keep _ _ _ st7 fun b hb o e => (pin' b hb o e).1, fun b hb => ?_, w'⟩
          obtain ⟨o, e, _⟩ := T.obj _ _ st7 b hb
          exact (pin' b hb o e).2
        cases b with
        | false =>
          simp only [Bool.false_eq_true, if_false] at q9 ⊢
          exact fin σ8 H9 z4 I9 (Kps.refl _ _) q9
        | true =>
          simp only [if_true] at q9 ⊢
          exact ⟨σ8, H9, N1, _, I9, q9, fin⟩
      · exact (hx e z hx2).elim
    · exact (hx e z hx1).elim
theorem clause_loop (hx : ∀ e z, ¬ B.xe e z) (hc : B.calm = true) (hel : PE B elt te) : ∀ (cs : List Cl) (c : Cl) (d : Nat) (P : List (Addr × Obj)) (σ : L2.St) (H : Hp) (s : Shared) (it : Addr) (fp : List Addr) (tn : Nat → Heap → Prop) (J : It) (Nx : Hp → Prop) (R : Result → Shared → Prop),
    (∀ H' z, Inv B P (wipe σ c.vs) H' z → Nx H' → R (.ok .next) z) →
    gs[d]? = some c.c → (∀ j, gs[d + 1 + j]? = (cs.map Cl.c)[j]?) → Dec c.vs cs → ClOk B c → (∀ x ∈ cs, ClIn B x) → Inv B P (wipe σ c.vs) H s → Turn B.prog B.w B.K c.tg J fp it tn → tn 0 s.heap → (∀ b ∈ fp, FpOk B P H b) →
    wTurns c.g c.tt c.vs σ (Nst (emt D te) cs) Nx J H →
    codeAny (model B.prog B.w) B.A (.compLoop (.ListComp elt gs scope pos) d (.ref it) (.ref D) B.env) R s := by
  intro cs
  induction cs with
  | nil =>
    intro c d P σ H s it fp tn J Nx R hR h0 hr hdec okc okcs I T st hfp ⟨W, ⟨m0, w0⟩, turn⟩
    have h1 : gs[d + 1]? = none := by simpa using hr 0
    have stat : ∀ {H' : Hp}, (∀ b ∈ fp, H' b = none) → ∀ b ∈ fp, FpOk B P H' b := fun hn b hb => ⟨hn b hb, (hfp b hb).2⟩
    refine loop_last h0 h1 (Btw B c P σ fp tn W) (Bhd B (Btw B c P σ fp tn W) D te [] ) (fun k z hv => clause_turn (te := te) (cs := []) hx hR hc hdec okc T stat turn hv) (fun k z hg => ?_) m0 ⟨0, H, I, st, fun b hb => (hfp b hb).1, w0⟩
    obtain ⟨σ2, H2, N1, P2, I2, q, fin⟩ := hg
    refine wpAny_mono (hel.run _ z σ2 H2 _ I2 q) (fun u z1 ⟨yv, H3, I3, r3, acc, hD, hz, nx⟩ => ?_) fun e z he => (hx e z he).elim
    exact app_ok (X := B) I3 hD hz r3 fun z2 I4 => fin σ2 _ z2 I4 (Kps.refl _ _) nx
  | cons c2 cs ih =>
    intro c d P σ H s it fp tn J Nx R hR h0 hr hdec okc okcs I T st hfp ⟨W, ⟨m0, w0⟩, turn⟩
    have h1 : gs[d + 1]? = some c2.c := by simpa using hr 0
    have hr2 : ∀ j, gs[d + 1 + 1 + j]? = (cs.map Cl.c)[j]? := fun j => by
      have := hr (j + 1)
      rw [show d + 1 + (j + 1) = d + 1 + 1 + j by omega] at this
      simpa using this
    have ok2 := okcs c2 List.mem_cons_self
    have stat : ∀ {H' : Hp}, (∀ b ∈ fp, H' b = none) → ∀ b ∈ fp, FpOk B P H' b := fun hn b hb => ⟨hn b hb, (hfp b hb).2⟩
    refine loop_mid h0 h1 ok2.s (Btw B c P σ fp tn W) (Bhd B (Btw B c P σ fp tn W) D te (c2 :: cs)) (fun k z hv => clause_turn (te := te) (cs := c2 :: cs) hx hR hc hdec okc T stat turn hv) (fun k z hg => ?_) m0 ⟨0, H, I, st, fun b hb => (hfp b hb).1, w0⟩
    obtain ⟨σ2, H2, N1, P2, I2, q, fin⟩ := hg
    refine wpAny_mono (ok2.i.run _ z σ2 H2 _ I2 q) (fun xv z1 hx1 => wpAny_mono hx1 (fun itv z2 hp => ?_) fun e z he => (hx e z he).elim) fun e z he => (hx e z he).elim
    obtain ⟨it1, fp1, tn1, J1, H3, e1, I3, T1, st1, hfp1, tw⟩ := hp
    subst e1
    have I3w : Inv B P2 (wipe σ2 c2.vs) H3 z2 := I3.weak (wipe_length _ _) fun j v e => (wipe_some e).1
    have lp := ih c2 (d + 1) P2 σ2 H3 z2 it1 fp1 tn1 J1 N1 (fun r z3 => match r with
      | .ok _ => ∃ m, m < k ∧ Btw B c P σ fp tn W m z3
      | .error _ => False) (fun H' z' I' nx => fin (wipe σ2 c2.vs) H' z' I' ⟨wipe_length _ _, fun j v e => e⟩ nx) h1 hr2 hdec.2 ok2.toClOk (fun x hx => okcs x (List.mem_cons_of_mem _ hx)) I3w T1 st1 hfp1 tw
    exact start_at h1 lp (T1.self B.A 0 _ _ _ st1 lp)
end
end
end DL
namespace DL
open PySem L2 PySem.Spec PyProof.Rows
section
variable {X : Cx}
def tLcN (c : Cl) (cs : List Cl) (te : TE) : TE := fun σ H Q => c.wi σ H fun J H1 => ∀ D, H1 D = none → wTurns c.g c.tt c.vs σ (Nst (emt D te) cs) (fun H2 => Q (.ref D) H2) J (upd H1 D (.lst []))
abbrev Blk (X : Cx) (scope : Scope) (B : Cx) : Prop := ∃ s H C cl fp, B = X.blk s H scope (compEnvC scope cl C X.env) fp
theorem lcN_core {P : List (Addr × Obj)} {s : Shared} {σ : L2.St} {H : Hp} {Q : VK} {elt : Expr} {c : Cl} {cs : List Cl} {scope : Scope} {own : List (Str × Nat)} {pos pos' : Pos} {te : TE} {use : Option (Value → Sem Unit)} {Qf : Value → Shared → Prop}
    (hc : X.calm = true) (hN : X.N.Nodup) (I : Inv X P σ H s) (hi : PI X c.tg c.iter c.wi) (ok : BlkOk X.N X.env.scope scope own) (hv : c.vs = own.map (·.2)) (hdec : Dec c.vs cs)
    (hcl : ∀ B, Blk X scope B → ClOk B c ∧ (∀ x ∈ cs, ClIn B x) ∧ PE B elt te) (hs : ∀ x, foldedSetIterable c.iter X.env x = pure x) (h : tLcN c cs te σ H Q)
    (hend : ∀ D C z m H', Inv X P σ H' z → Q (.ref D) H' → z.heap.Ns C m → FpOk X P H' C → compPost (model X.prog X.w) X.A X.xe use Qf (.ref D) C (.ok .next) z) :
    wpAny (model X.prog X.w) X.A (comprehension (.ListComp elt (c.c :: cs.map Cl.c) scope pos) scope X.env pos' (newList []) false (eval c.iter X.env) use) Qf X.xe s := by
  have cells : ∀ y ∈ scope.names, y.2 = .free → ∃ a, X.env.cells.lookup y.1 = some a := fun y hy e => (ok.free y hy e).elim (fun q => I.ok.has _ (.inl q)) fun q => I.ok.has _ (.inr q)
  refine wpAny_comprehension_free (use := use) rfl hs (closure_ok cells) ok.kind (fun y hy e => (ok.uniq y hy).trans (by rw [e])) (thn (hi.run P s σ H _ I h) fun xv z1 q1 => thn q1 fun yv z2 q2 => ?_)
  obtain ⟨it, fp, tn, J, H2, e, I2, T, st2, f2, q⟩ := q2
  subst e
  refine wpAny_newObj_type (newEnv_comp ?_) (by show 0 ≤ sizeLine; decide)
  generalize hD : z2.heap.objs.size = D
  have free : H2 D = none := I2.hok.fresh (Nat.le_of_eq hD)
  have tw := q D free
  generalize hz3 : ({ z2 with heap := z2.heap.push { cls := .type "list", data := .seq ([] : List Value).toArray } } : Shared) = z3
  have heap3 : z3.heap = z2.heap.push { cls := .type "list", data := .seq ([] : List Value).toArray } := by rw [← hz3]
  have I3 : Inv X P σ (upd H2 D (.lst [])) z3 := by
    subst hz3
    refine I2.laid (t' := z2.toks) (fun b o e => Heap.get?_push_of_some _ e) (Nat.le_of_eq hD) ⟨Nat.zero_le _, [], 0, .nil, ?_⟩
    subst hD
    exact Heap.get?_push_size _ rfl
  have f3 : ∀ b ∈ fp, FpOk X P (upd H2 D (.lst [])) b ∧ b < z3.heap.objs.size := fun b hb => by
    obtain ⟨o, e, _⟩ := T.obj _ _ st2 b hb
    have lt := Heap.lt_size e
    exact ⟨⟨(upd_ne (by rw [← hD]; exact Nat.ne_of_lt lt)).trans (f2 b hb).1, (f2 b hb).2⟩, by rw [heap3, Heap.size_push]; exact Nat.lt_succ_of_lt lt⟩
  have st3 : tn 0 z3.heap := T.keep _ _ _ st2 fun b _ o e => by rw [heap3]; exact Heap.get?_push_of_some _ e
  have I4 := block_start I3 ok hN f3
  obtain ⟨okc, okcs, oke⟩ := hcl _ ⟨z3, upd H2 D (.lst []), z3.heap.objs.size, cellsFrom (z3.heap.objs.size + 1) scope.names (cloFrom X.env.cells scope.names []), fp, rfl⟩
  show codeAny _ _ (.compStart (.ListComp elt (c.c :: cs.map Cl.c) scope pos) 0 (.ref it) (.ref D) (compEnvC scope (cellsFrom (z3.heap.objs.size + 1) scope.names (cloFrom X.env.cells scope.names [])) z3.heap.objs.size X.env)) (compPost (model X.prog X.w) X.A X.xe use Qf (.ref D) z3.heap.objs.size) { z3 with heap := pushCells (z3.heap.push { cls := .type "dict", data := .dict #[] }) scope.names }
  generalize hce : compEnvC scope (cellsFrom (z3.heap.objs.size + 1) scope.names (cloFrom X.env.cells scope.names [])) z3.heap.objs.size X.env = ce at I4 okc okcs oke ⊢
  have loc : ce.locals = z3.heap.objs.size := by subst hce; rfl
  generalize hH3 : upd H2 D (.lst []) = H3 at I3 I4 okc okcs oke tw f3
  generalize hz4 : ({ z3 with heap := pushCells (z3.heap.push { cls := .type "dict", data := .dict #[] }) scope.names } : Shared) = z4 at I4 ⊢
  have st4 : tn 0 z4.heap := T.keep _ _ _ st3 fun b _ o e => by rw [← hz4]; exact pushCells_keeps _ _ _ _ (Heap.get?_push_of_some _ e)
  have f4 : ∀ b ∈ fp, FpOk (X.blk z3 H3 scope ce fp) [] H3 b := fun b hb =>
    ⟨(f3 b hb).1.1, (I4.ok.exf b hb).1, I4.ok.exfs b hb, .inl hb, fun x a e => (I4.ok.exf b hb).2 x a e, fun p hp => absurd (show p ∈ ([] : List (Addr × Obj)) ++ [] from hp) (by simp)⟩
  rw [← hv] at I4
  have lp := clause_loop (B := X.blk z3 H3 scope ce fp) (elt := elt) (gs := c.c :: cs.map Cl.c) (scope := scope) (pos := pos) (D := D) (te := te) (fun _ _ f => f) hc oke cs c 0 [] σ H3 z4 it fp tn J (fun H5 => Q (.ref D) H5) (compPost (model X.prog X.w) X.A X.xe use Qf (.ref D) z3.heap.objs.size)
    (fun H5 z5 I5 q5 => by
      have I6 : Inv X P σ H5 z5 := I3.call' (ch := fp) I5.os I5.base I5.hok I5.bare fun b hb => ⟨(f3 b hb).1.2.2.2.1, (f3 b hb).1.2.1, (f3 b hb).1.2.2.2.2.1, (f3 b hb).1.2.2.2.2.2⟩
      have nC : H5 z3.heap.objs.size = none := by
        have f : H5 ce.locals = none := I5.free
        rw [loc] at f
        exact f
      obtain ⟨m, hn, _⟩ := I5.loc
      have hn : z5.heap.Ns ce.locals m := hn
      rw [loc] at hn
      exact hend D z3.heap.objs.size z5 m H5 I6 q5 hn (I3.fpOk (Nat.le_refl _) nC))
    rfl (fun j => by rw [show 0 + 1 + j = j + 1 by omega, List.getElem?_cons_succ]) hdec okc okcs I4 T st4 f4 tw
  exact codeAny_compStart_list lp (T.self X.A 0 _ _ _ st4 lp)
theorem pe_lcN {elt : Expr} {c : Cl} {cs : List Cl} {scope : Scope} {own : List (Str × Nat)} {pos : Pos} {te : TE} (hc : X.calm = true) (hN : X.N.Nodup) (hi : PI X c.tg c.iter c.wi) (ok : BlkOk X.N X.env.scope scope own) (hv : c.vs = own.map (·.2)) (hdec : Dec c.vs cs)
    (hcl : ∀ B, Blk X scope B → ClOk B c ∧ (∀ x ∈ cs, ClIn B x) ∧ PE B elt te) (hs : ∀ x, foldedSetIterable c.iter X.env x = pure x) : PE X (.ListComp elt (c.c :: cs.map Cl.c) scope pos) (tLcN c cs te) := by
  refine ⟨fun P s σ H Q I h => ?_⟩
  rw [eval_ListComp]
  refine lcN_core hc hN I hi ok hv hdec hcl hs h fun D C z m H' I' q hn f => ⟨m, hn, fun h2 sb => ?_⟩
  obtain ⟨g0, g1, g2, g3, g4, g5⟩ := f
  exact ⟨.ref D, H', I'.turned (t' := z.toks) (fun b o hb e => (sb.2 b hb).trans e) g0 g1 g3 g4 g5, rfl, q⟩
end
end DL
namespace DL
open PySem L2
abbrev noX : DX := fun _ _ => False
abbrev W0 : WX := fun _ _ _ _ => False
theorem wipe_get (σ : L2.St) (j : Nat) : ∀ vs : List Nat, (wipe σ vs)[j]? = if j ∈ vs then σ[j]?.map (fun _ => none) else σ[j]?
  | [] => by simp [wipe]
  | v :: vs => by
    show ((wipe σ vs).set v none)[j]? = _
    rw [List.getElem?_set, wipe_length, wipe_get σ j vs]
    by_cases e : v = j
    · subst e
      by_cases l : v < σ.length
      · simp [l]
      · simp [l, List.getElem?_eq_none (Nat.le_of_not_lt l)]
    · have e2 : ¬ j = v := fun z => e z.symm
      simp [e, e2]
theorem wipe_set {σ : L2.St} {i : Nat} {x : Option V} {vs : List Nat} (h : i ∈ vs) : wipe (σ.set i x) vs = wipe σ vs := by
  apply List.ext_getElem?
  intro j
  rw [wipe_get, wipe_get]
  by_cases m : j ∈ vs
  · rw [if_pos m, if_pos m, List.getElem?_set]
    by_cases e : i = j
    · subst e
      by_cases l : i < σ.length
      · simp [l]
      · simp [l, List.getElem?_eq_none (Nat.le_of_not_lt l)]
    · simp [e]
  · rw [if_neg m, if_neg m, List.getElem?_set_ne fun e => m (by rw [← e]; exact h)]
theorem wipe_wipe (σ : L2.St) (vs : List Nat) : wipe (wipe σ vs) vs = wipe σ vs := by
  apply List.ext_getElem?
  intro j
  rw [wipe_get, wipe_get]
  by_cases m : j ∈ vs
  · simp [m, Function.comp_def]
  · simp [m]
def wipeD (τ : DSt) : List Nat → DSt
  | [] => τ
  | v :: vs => (wipeD τ vs).set v none
theorem RepS.wipe {K : PySem.W.Frag} {M : Mu} {H : Hp} {τ : DSt} {σ : L2.St} (h : RepS K M H τ σ) : ∀ vs : List Nat, RepS K M H (wipeD τ vs) (L2.wipe σ vs)
  | [] => h
  | v :: vs => RepS.none v Option.none (h.wipe vs)
theorem Gd.blk {X : Cx} {W : WX} (G : Gd X W) (s : Shared) (H : Hp) (scope : Scope) (cenv : Env) (fp : List Addr) : Gd (X.blk s H scope cenv fp) W0 :=
  ⟨G.calm, fun u s' ⟨a, B, sI, pins, σ, H, cls, d, e, I, nb, up, sky, na, os, ag, w⟩ => w.elim, G.hu, PassesOwn.never, G.nd⟩
def lifGw (K : PySem.W.Frag) (W : WX) (g : DTG) (vs : List Nat) : TG := fun v σ H Q => lifG K W g v σ H fun σ' H' => wipe σ' vs = wipe σ vs → Q σ' H'
abbrev DGw (X : Cx) (W : WX) (tg : Expr) (g : DTG) (vs : List Nat) : Prop := PG X tg (lifGw X.K W g vs)
section
variable {X : Cx} {W : WX} {a b c e o i : Expr} {rest es : List Expr} {ta tb tc te to ti : DTE} {tl : DTA} {tt : DTT} {pos apos cpos p : Pos} {x : Str} {vs : List Nat}
theorem dgw_name (j : Nat) (hN : X.N.Nodup) (hj : j ∈ vs := by decide) (hi : X.N[j]? = some x := by rfl) (hx : Loc X.env.scope x := by first | exact .inl rfl | exact .inr rfl) (hf : X.fn x = true ∨ X.env.scope.names.lookup x = some .local := by first | exact .inl rfl | exact .inr rfl) : DGw X W (.Name x pos) (dgName j) vs :=
  PG.of (pg_name hN hi hx hf) fun v σ H Q ⟨d, τ, M, Q0, E0, r, S, h⟩ => S.q _ M _ H h (S.rs.set r j) S.co (Stp.refl M H) (wipe_set hj)
abbrev DTs (X : Cx) (W : WX) (ifs : List Expr) (t : DTT) : Prop := PTs X ifs (lif X.K W RB t)
def dYes : DTT := fun _ M Q _ => Q true M
theorem dts_nil : DTs X W [] dYes := ⟨fun pins s σ H Q I ⟨τ, M, Q0, E0, S, h⟩ => pts_nil.run pins s σ H Q I (S.end_ h rfl)⟩
theorem dts_one (h : DT X W c tt) : DTs X W [c] tt := pts_one h
structure DCl where
  ti : DTI
  g : DTG
  tt : DTT
  vs : List Nat
def wTs (g : DTG) (tt : DTT) (vs : List Nat) (τ : DSt) (inn : DSt → Mu → (Mu → Prop) → Prop) (Nx : Mu → Prop) : List D → Mu → Prop
  | [], M => Nx M
  | d :: ds, M => g d (wipeD τ vs) M (fun τ2 M2 => tt τ2 M2 (fun b M3 => if b = true then inn τ2 M3 (wTs g tt vs τ inn Nx ds) else wTs g tt vs τ inn Nx ds M3) noX) noX
def wNst (em : DSt → Mu → (Mu → Prop) → Prop) : List DCl → DSt → Mu → (Mu → Prop) → Prop
  | [], τ, M, Nx => em τ M Nx
  | c :: cs, τ, M, Nx => c.ti τ M (fun ds M1 => wTs c.g c.tt c.vs τ (wNst em cs) Nx ds M1) noX
def dEm (p : Addr) (te : DTE) : DSt → Mu → (Mu → Prop) → Prop := fun τ M Nx => te τ M (fun y M1 => ∃ acc, M1 p = some (.lst acc) ∧ acc.length < sizeLine ∧ Nx (put M1 p (.lst (acc ++ [y])))) noX
def dLcM (ti : DTI) (g : DTG) (tt : DTT) (vs : List Nat) (cs : List DCl) (te : DTE) : DTE := fun τ M Q E => ti τ M (fun ds M1 => ∀ p, M1 p = none → wTs g tt vs τ (wNst (dEm p te) cs) (fun M2 => Q (.ref p) M2) ds (put M1 p (.lst []))) E
def Inn (K : PySem.W.Frag) (inn : DSt → Mu → (Mu → Prop) → Prop) (innL : L2.St → Hp → (Hp → Prop) → Prop) : Prop :=
  ∀ τ σ M H Nx0 Nx, RepS K M H τ σ → Cor K M H → (∀ M' H', Nx0 M' → Cor K M' H' → Stp M H M' H' → Nx H') → inn τ M Nx0 → innL σ H Nx
theorem turns_ok {K : PySem.W.Frag} {inn : DSt → Mu → (Mu → Prop) → Prop} {innL : L2.St → Hp → (Hp → Prop) → Prop} (hin : Inn K inn innL) {g : DTG} {τ : DSt} {σ : L2.St} {M M1 : Mu} {H H1 : Hp} {ds : List D} {J : It} {Nx0 : Mu → Prop} {Nx : Hp → Prop}
    (hJ : ItOk K M H ds J) (rs : RepS K M H τ σ) (hN : ∀ M' H', Nx0 M' → Cor K M' H' → Stp M H M' H' → Nx H') (s1 : Stp M H M1 H1) (c1 : Cor K M1 H1) (h : wTs g tt vs τ inn Nx0 ds M1) :
    wTurns (lifGw K W0 g vs) (lif K W0 RB tt) vs σ innL Nx J H1 := by
  refine ⟨fun i m H2 => m = ds.length - i ∧ i ≤ ds.length ∧ ∃ M2, Stp M H M2 H2 ∧ Cor K M2 H2 ∧ wTs g tt vs τ inn Nx0 (ds.drop i) M2, ⟨ds.length, rfl, Nat.zero_le _, M1, s1, c1, h⟩, ?_⟩
  rintro i m H2 ⟨rfl, hi, M2, s2, c2, h2⟩
  obtain ⟨k1, k2, k3⟩ := hJ M2 H2 s2 c2
  by_cases hlt : i < ds.length
  · have e : ds.drop i = ds[i] :: ds.drop (i + 1) := List.drop_eq_getElem_cons hlt
    rw [e] at h2
    refine .inr ⟨k2 i hlt, fun H3 => ∃ M3, Stp M H M3 H3 ∧ Cor K M3 H3 ∧ wTs g tt vs τ inn Nx0 (ds.drop (i + 1)) M3, fun H3 q => ⟨ds.length - (i + 1), by omega, rfl, hlt, q⟩, fun x H3 y => ?_⟩
    obtain ⟨y1, y2, y3⟩ := k3 i ds[i] x H3 (List.getElem?_eq_getElem hlt) y
    have s3 := s2.trans y3
    refine ⟨ds[i], wipeD τ vs, M2, _, noX, y1, ⟨(rs.stp s3).wipe vs, y2, fun τ4 M4 σ4 H4 h4 r4 c4 s4 hw => ⟨hw.trans (wipe_wipe σ vs), ?_⟩, fun _ _ _ _ _ z => z.elim⟩, h2⟩
    refine ⟨τ4, M4, _, noX, ⟨r4, c4, fun b M5 b' H5 h5 r5 c5 s5 => ?_, fun _ _ _ _ _ z => z.elim⟩, h4⟩
    cases r5
    cases b with
    | false => exact ⟨M5, s3.trans (s4.trans s5), c5, h5⟩
    | true =>
      simp only [if_true] at h5 ⊢
      exact hin τ4 σ4 M5 H5 _ _ (r4.stp s5) c5 (fun M' H' n c' s' => ⟨M', s3.trans (s4.trans (s5.trans s')), c', n⟩) h5
  · have e : i = ds.length := by omega
    rw [e, List.drop_length] at h2
    exact .inl ⟨k1 i (by omega), hN M2 H2 h2 c2 s2⟩
theorem em_ok {K : PySem.W.Frag} (p : Addr) : Inn K (dEm p te) (emt p (lif K W0 (RD K) te)) := fun τ σ M H Nx0 Nx rs co hN h => by
  refine ⟨τ, M, _, noX, ⟨rs, co, fun yd M6 yv H6 h6 r6 c6 s6 => ?_, fun _ _ _ _ _ z => z.elim⟩, h⟩
  obtain ⟨acc, ha, hl, h6⟩ := h6
  obtain ⟨us, hu, ru⟩ := mu_lst c6 ha
  have st := Stp.write (H := H6) (o := .lst (us ++ [yv])) (mo' := .lst (acc ++ [yd])) ha
  exact ⟨us, hu, by rw [ru.length]; exact hl, hN _ _ h6 (c6.write ha (mo' := .lst (acc ++ [yd])) (o := .lst (us ++ [yv])) ⟨_, rfl, ru.snoc r6⟩) (s6.trans st)⟩
structure TCl where
  tg : Expr
  iter : Expr
  ifs : List Expr
  c : DCl
def TCl.cl (K : PySem.W.Frag) (c : TCl) : Cl := ⟨c.tg, c.iter, c.ifs, lif K W0 (ItOk K) c.c.ti, lifGw K W0 c.c.g c.c.vs, lif K W0 RB c.c.tt, c.c.vs⟩
theorem nst_ok {K : PySem.W.Frag} {em : DSt → Mu → (Mu → Prop) → Prop} {emL : L2.St → Hp → (Hp → Prop) → Prop} (he : Inn K em emL) : ∀ cs : List TCl, Inn K (wNst em (cs.map (·.c))) (Nst emL (cs.map (TCl.cl K)))
  | [] => he
  | c :: cs => fun τ σ M H Nx0 Nx rs co hN h =>
    ⟨τ, M, _, noX, ⟨rs, co, fun ds M1 J H1 h1 r1 c1 s1 => turns_ok (nst_ok he cs) r1 (rs.stp s1) (fun M' H' n c' s' => hN M' H' n c' (s1.trans s')) (Stp.refl M1 H1) c1 h1, fun _ _ _ _ _ z => z.elim⟩, h⟩
variable {elt tg iter : Expr} {ifs : List Expr} {scope : Scope} {own : List (Str × Nat)} {ti : DTI} {g : DTG} {cs : List TCl}
def fCl (X : Cx) (W : WX) (tg iter : Expr) (ifs : List Expr) (ti : DTI) (g : DTG) (tt : DTT) (vs : List Nat) : Cl := ⟨tg, iter, ifs, lif X.K W (ItOk X.K) ti, lifGw X.K W0 g vs, lif X.K W0 RB tt, vs⟩
theorem lif_lc {σ : L2.St} {H : Hp} {Q : VK} (h : lif X.K W (RD X.K) (dLcM ti g tt vs (cs.map (·.c)) te) σ H Q) :
    tLcN (fCl X W tg iter ifs ti g tt vs) (cs.map (TCl.cl X.K)) (lif X.K W0 (RD X.K) te) σ H Q := by
  obtain ⟨τ, M, Q0, E0, S, h⟩ := h
  refine S.sub h fun ds M1 J H1 h1 r1 S1 s1 => ?_
  intro D hD
  exact turns_ok (nst_ok (em_ok D) cs) r1 S1.rs (fun M' H' n c' s' => S1.q (.ref D) M' (.ref D) H' n rfl c' s') (Stp.newM hD) (S1.co.newM hD (mo := .lst []) ⟨[], rfl, .nil⟩) (h1 D (S1.co.free hD))
structure BlkD (B : Cx) (tg : Expr) (g : DTG) (ifs : List Expr) (tt : DTT) (vs : List Nat) (cs : List TCl) (elt : Expr) (te : DTE) : Prop where
  g : DGw B W0 tg g vs
  t : DTs B W0 ifs tt
  cs : ∀ c ∈ cs, DGw B W0 c.tg c.c.g c.c.vs ∧ DTs B W0 c.ifs c.c.tt ∧ DI B W0 c.tg c.iter c.c.ti ∧ ∀ x, foldedSetIterable c.iter B.env x = pure x
  e : DE B W0 elt te
def Dec2 : List Nat → List TCl → Bool
  | _, [] => true
  | vs, c :: cs => (c.c.vs.all fun i => decide (i ∈ vs)) && Dec2 c.c.vs cs
theorem dec_of (K : PySem.W.Frag) : ∀ {vs : List Nat} {cs : List TCl}, Dec2 vs cs = true → Dec vs (cs.map (TCl.cl K))
  | _, [], _ => trivial
  | vs, c :: cs, h => by
    unfold Dec2 at h
    rw [Bool.and_eq_true, List.all_eq_true] at h
    exact ⟨fun i hi => by simpa using h.1 i hi, dec_of K h.2⟩
theorem blk_ok {B : Cx} {W : WX} (hK : B.K = X.K) (h : BlkD B tg g ifs tt vs cs elt te) : ClOk B (fCl X W tg iter ifs ti g tt vs) ∧ (∀ x ∈ cs.map (TCl.cl X.K), ClIn B x) ∧ PE B elt (lif X.K W0 (RD X.K) te) := by
  rw [← hK]
  refine ⟨⟨by rw [fCl, ← hK]; exact h.g, by rw [fCl, ← hK]; exact h.t⟩, fun x hx => ?_, h.e⟩
  obtain ⟨c, hc, rfl⟩ := List.mem_map.mp hx
  obtain ⟨a, b, d, e⟩ := h.cs c hc
  exact ⟨⟨a, b⟩, d, e⟩
theorem de_lcN (own : List (Str × Nat)) (cs : List TCl) (G : Gd X W) (hi : DI X W tg iter ti) (hb : ∀ (s : Shared) (H : Hp) (C : Addr) (cl : List (Str × Addr)) (fp : List Addr), Gd (X.blk s H scope (compEnvC scope cl C X.env) fp) W0 → BlkD (X.blk s H scope (compEnvC scope cl C X.env) fp) tg g ifs tt (own.map (·.2)) cs elt te)
    (hd : Dec2 (own.map (·.2)) cs = true) (ok : blkC X.N X.env.scope scope own = true) (hs : ∀ x, foldedSetIterable iter X.env x = pure x) : DE X W (.ListComp elt (⟨tg, iter, ifs, 0⟩ :: cs.map (fun c => (TCl.cl X.K c).c)) scope pos) (dLcM ti g tt (own.map (·.2)) (cs.map (·.c)) te) := by
  rw [show cs.map (fun c => (TCl.cl X.K c).c) = (cs.map (TCl.cl X.K)).map Cl.c by rw [List.map_map]; rfl]
  exact PE.of (pe_lcN (c := fCl X W tg iter ifs ti g tt (@List.map (Str × Nat) Nat (fun p => p.2) own)) G.calm G.nd hi (blkOk_by ok) rfl (show Dec (own.map (·.2)) _ from dec_of X.K hd) (fun B ⟨s, H, C, cl, fp, e⟩ => by subst e; exact blk_ok rfl (hb s H C cl fp (G.blk ..))) hs) fun σ H Q h => lif_lc h
section
variable {tg1 iter1 tg2 iter2 : Expr} {ifs1 ifs2 : List Expr} {ti1 ti2 : DTI} {g1 g2 : DTG} {tt1 tt2 : DTT} {vs1 vs2 : List Nat}
theorem bk1 (hg : DGw X W0 tg g vs) (ht : DTs X W0 ifs tt) (he : DE X W0 elt te) : BlkD X tg g ifs tt vs [] elt te := ⟨hg, ht, fun _ h => (nomatch h), he⟩
theorem de_lc1 (own : List (Str × Nat)) (G : Gd X W) (hi : DI X W tg iter ti) (hb : ∀ (s : Shared) (H : Hp) (C : Addr) (cl : List (Str × Addr)) (fp : List Addr), Gd (X.blk s H scope (compEnvC scope cl C X.env) fp) W0 → BlkD (X.blk s H scope (compEnvC scope cl C X.env) fp) tg g ifs tt (own.map (·.2)) [] elt te) (ok : blkC X.N X.env.scope scope own = true := by first | kernel_rfl | decide +kernel) (hs : ∀ x, foldedSetIterable iter X.env x = pure x := by intro _; rfl) :
    DE X W (.ListComp elt [⟨tg, iter, ifs, 0⟩] scope pos) (dLcM ti g tt (own.map (·.2)) [] te) := de_lcN own [] G hi hb rfl ok hs
end
end
end DL
namespace DL
open PySem L2
def dJs : List DTE → Tx → DSt → Mu → (Tx → Mu → Prop) → DX → Prop
  | [], acc, _, M, Q, _ => Q acc M
  | t :: ts, acc, τ, M, Q, E => t τ M (fun x M1 => match x with
    | .str y => (acc ++ y).length ≤ 16777216 ∧ dJs ts (acc ++ y) τ M1 Q E
    | _ => False) E
def dFs (ts : List DTE) : DTE := fun τ M Q E => dJs ts [] τ M (fun out M1 => Q (.str out) M1) E
def intT (i : Int) : Tx := T (toString i)
def dFmt (te : DTE) : DTE := fun τ M Q E => te τ M (fun x M1 => match x with
  | .str y => y.length ≤ 16777216 ∧ Q (.str y) M1
  | .int i => i.natAbs.log2 < 1920 ∧ Q (.str (intT i)) M1
  | _ => False) E
section
variable {X : Cx} {W : WX} {a b c e e1 e2 o : Expr} {rest es : List Expr} {ta tb tc te to : DTE} {ts : List DTE} {tl : DTA} {pos apos cpos p : Pos} {name : Str}
end
def hd1 (acc : Tx) : List Tx → List Tx
  | [] => [acc]
  | y :: ys => (acc ++ y) :: ys
def gReverse : DMt := fun x xs M Q => match x, xs with
  | .ref a, [] => (match M a with
    | some (.lst ds) => Q .non (put M a (.lst ds.reverse))
    | _ => False)
  | _, _ => False
section
variable {K : PySem.W.Frag}
end
def gAllA (f : List Bool → Bool) : DCb := fun xs M Q => match xs with
  | [.lst ds] => ∃ bs : List Bool, ds = bs.map D.bl ∧ Q (.bl (f bs)) M
  | _ => False
abbrev gAll : DCb := gAllA fun bs => bs.all id
theorem cb_allA {K : PySem.W.Frag} {f : List Bool → Bool} : CbD K (gAllA f) (fun vs H Q => ∃ (a : Addr) (bs : List Bool), vs = [V.ref a] ∧ SqL K H a (bs.map V.bl) ∧ Q (.bl (f bs)) H) := fun M H xs vs Q0 Q c r h q => by
  match xs, h with
  | [.lst ds], h =>
    obtain ⟨bs, e, h⟩ := h
    subst e
    obtain ⟨v, u, rfl, r1, r2⟩ := r.uncons
    cases r2.unnil
    obtain ⟨a, ws, rfl, ha, ma, ra⟩ := rep_of_lst r1
    have e := ra.bls
    subst e
    exact ⟨a, bs, rfl, .inl (.inl ha), q _ M _ H h rfl c (Stp.refl M H)⟩
theorem cb_all {K : PySem.W.Frag} : CbD K gAll (rAll K) := cb_allA
end DL
namespace DL
open PySem L2
def dNever : DTS := fun _ _ _ => False
theorem wTs_cons {g : DTG} {tt : DTT} {vs : List Nat} {τ : DSt} {inn : DSt → Mu → (Mu → Prop) → Prop} {Nx : Mu → Prop} {M : Mu} {d : D} {ds : List D} :
    wTs g tt vs τ inn Nx (d :: ds) M = g d (wipeD τ vs) M (fun τ2 M2 => tt τ2 M2 (fun b M3 => if b = true then inn τ2 M3 (wTs g tt vs τ inn Nx ds) else wTs g tt vs τ inn Nx ds M3) noX) noX := rfl
theorem lc_by {i : Nat} {tt : DTT} {vs : List Nat} {τ : DSt} {p : Addr} {te : DTE} {Nx : Mu → Prop} {ds : List D} {M : Mu} (I : Nat → List D → Mu → Prop) (h0 : I 0 [] M) (hM : M p = some (.lst []))
    (hs : ∀ k d acc M, ds[k]? = some d → M p = some (.lst acc) → I k acc M → ∀ N : Mu → Prop,
      (∀ y M1, M1 p = some (.lst acc) → I (k + 1) (acc ++ [y]) (put M1 p (.lst (acc ++ [y]))) → N (put M1 p (.lst (acc ++ [y])))) → (∀ M1, M1 p = some (.lst acc) → I (k + 1) acc M1 → N M1) →
      tt ((wipeD τ vs).set i (some d)) M (fun b M3 => if b = true then dEm p te ((wipeD τ vs).set i (some d)) M3 N else N M3) noX)
    (hd : ∀ acc M, M p = some (.lst acc) → I ds.length acc M → Nx M) : wTs (dgName i) tt vs τ (wNst (dEm p te) []) Nx ds M := by
  have go : ∀ (n k : Nat) (acc : List D) (M : Mu), n + k = ds.length → M p = some (.lst acc) → I k acc M → wTs (dgName i) tt vs τ (wNst (dEm p te) []) Nx (ds.drop k) M := by
    intro n
    induction n with
    | zero =>
      intro k acc M e hp hi
      have e2 : k = ds.length := by omega
      rw [e2, List.drop_length]
      rw [e2] at hi
      exact hd acc M hp hi
    | succ n ih =>
      intro k acc M e hp hi
      have hlt : k < ds.length := by omega
      rw [List.drop_eq_getElem_cons hlt, wTs_cons]
      exact hs k ds[k] acc M (List.getElem?_eq_getElem hlt) hp hi _ (fun y M1 _ i' => ih (k + 1) _ _ (by omega) put_same i') fun M1 hp' i' => ih (k + 1) _ _ (by omega) hp' i'
  exact go ds.length 0 [] M (by omega) hM h0
theorem lc_pure {i : Nat} {tt : DTT} {vs : List Nat} {τ : DSt} {p : Addr} {te : DTE} {Nx : Mu → Prop} {ds : List D} {M : Mu} (f : D → D) (g : D → Bool) (hl : ds.length < 16777216)
    (ht : ∀ d ∈ ds, ∀ acc (N : Bool → Mu → Prop), N (g d) (put M p (.lst acc)) → tt ((wipeD τ vs).set i (some d)) (put M p (.lst acc)) N noX)
    (he : ∀ d ∈ ds, g d = true → ∀ acc (N : D → Mu → Prop), N (f d) (put M p (.lst acc)) → te ((wipeD τ vs).set i (some d)) (put M p (.lst acc)) N noX)
    (h : Nx (put M p (.lst ((ds.filter g).map f)))) : wTs (dgName i) tt vs τ (wNst (dEm p te) []) Nx ds (put M p (.lst [])) := by
  refine lc_by (fun k acc M' => M' = put M p (.lst acc) ∧ acc = ((ds.take k).filter g).map f) ⟨rfl, by simp⟩ put_same ?_ ?_
  · rintro k d acc M' hk hp ⟨rfl, e⟩ N hy hn
    have hm := List.mem_of_getElem? hk
    have tk : ds.take (k + 1) = ds.take k ++ [d] := by rw [List.take_succ, hk]; rfl
    refine ht d hm acc _ ?_
    cases hg : g d with
    | true =>
      simp only [if_true]
      refine he d hm hg acc _ ⟨acc, put_same, ?_, ?_⟩
      · rw [e, List.length_map]
        have := List.length_filter_le g (ds.take k)
        have h2 : (ds.take k).length ≤ ds.length := by rw [List.length_take]; omega
        rw [line24] <;> omega
      · refine hy (f d) _ put_same ⟨by rw [put_put], ?_⟩
        rw [tk, List.filter_append, List.map_append, ← e]
        simp [hg]
    | false =>
      simp only [Bool.false_eq_true, if_false]
      refine hn _ put_same ⟨rfl, ?_⟩
      rw [tk, List.filter_append, List.map_append, ← e]
      simp [hg]
  · rintro acc M' hp ⟨rfl, e⟩
    rw [List.take_length] at e
    rw [e]
    exact h
theorem lc_map {i : Nat} {vs : List Nat} {τ : DSt} {p : Addr} {te : DTE} {Nx : Mu → Prop} {ds : List D} {M : Mu} (f : D → D) (hl : ds.length < 16777216)
    (he : ∀ d ∈ ds, ∀ acc (N : D → Mu → Prop), N (f d) (put M p (.lst acc)) → te ((wipeD τ vs).set i (some d)) (put M p (.lst acc)) N noX)
    (h : Nx (put M p (.lst (ds.map f)))) : wTs (dgName i) dYes vs τ (wNst (dEm p te) []) Nx ds (put M p (.lst [])) :=
  lc_pure f (fun _ => true) hl (fun d _ acc N h => h) (fun d hd _ => he d hd) (by rw [List.filter_eq_self.mpr fun _ _ => rfl]; exact h)
end DL
namespace DL
open PySem L2 He
def obsX (fa : List Fa) (fn : List DefD) (gb : List (PySem.W.Frag → Bool)) (K : PySem.W.Frag) : AlD := ((obsD fa fn K).1 && gb.all (fun f => f K), (obsD fa fn K).2)
def SaysX (fa : List Fa) (fn : List DefD) (gb : List (PySem.W.Frag → Bool)) (K : PySem.W.Frag) : Prop := obsX fa fn gb K = valD fn
section
variable {fa : List Fa} {fn : List DefD} {gb : List (PySem.W.Frag → Bool)} {K : PySem.W.Frag}
theorem SaysX.d (c : SaysX fa fn gb K) : SaysD fa fn K := by
  have c1 : ((obsD fa fn K).1 && gb.all (fun f => f K)) = true := congrArg (fun z : AlD => z.1) c
  have c2 : (obsD fa fn K).2 = fn.map DefD.val := congrArg (fun z : AlD => z.2) c
  exact Prod.ext (ba c1).1 c2
theorem SaysX.b (c : SaysX fa fn gb K) (i : Nat) {f : PySem.W.Frag → Bool} (h : gb[i]? = some f := by rfl) : f K = true := by
  have c1 : ((obsD fa fn K).1 && gb.all (fun f => f K)) = true := congrArg (fun z : AlD => z.1) c
  exact List.all_eq_true.mp (ba c1).2 f (List.mem_of_getElem? h)
end
end DL
namespace DL
open PySem L2
def putD (kvs : List (DKey × D)) (k : DKey) (d : D) : List (DKey × D) := if (kvs.any fun q => decide (q.1 = k)) = true then kvs.map (fun q => if q.1 = k then (q.1, d) else q) else kvs ++ [(k, d)]
def mergeD (kvs more : List (DKey × D)) : List (DKey × D) := more.foldl (fun acc q => putD acc q.1 q.2) kvs
section
variable {K : PySem.W.Frag} {M : Mu} {H : Hp}
theorem any_keys {k : DKey} : ∀ {kvs : List (DKey × D)} {ks : List (Key × V)}, ks.map (·.1) = kvs.map (fun q => kO q.1) → (ks.any fun q => decide (q.1 = kO k)) = kvs.any fun q => decide (q.1 = k)
  | [], [], _ => rfl
  | [], _ :: _, h => by cases h
  | _ :: _, [], h => by cases h
  | a :: kvs, b :: ks, h => by
    simp only [List.map_cons, List.cons.injEq] at h
    rw [List.any_cons, List.any_cons, any_keys h.2, h.1, kO_dec]
theorem map_keys {k : DKey} {d : D} {v : V} (r0 : Rep K M H d v) : ∀ {kvs : List (DKey × D)} {ks : List (Key × V)}, ks.map (·.1) = kvs.map (fun q => kO q.1) → Reps K M H (kvs.map (·.2)) (ks.map (·.2)) →
    ((ks.map fun q => if q.1 = kO k then (q.1, v) else q).map (·.1) = (kvs.map fun q => if q.1 = k then (q.1, d) else q).map (fun q => kO q.1)) ∧
      Reps K M H ((kvs.map fun q => if q.1 = k then (q.1, d) else q).map (·.2)) ((ks.map fun q => if q.1 = kO k then (q.1, v) else q).map (·.2))
  | [], [], _, _ => ⟨rfl, .nil⟩
  | [], _ :: _, h, _ => by cases h
  | _ :: _, [], h, _ => by cases h
  | a :: kvs, b :: ks, h, r => by
    simp only [List.map_cons, List.cons.injEq] at h
    obtain ⟨u, us, e, r1, r2⟩ := r.uncons
    simp only [List.map_cons, List.cons.injEq] at e
    obtain ⟨i1, i2⟩ := map_keys r0 h.2 (by rw [e.2]; exact r2)
    by_cases q : a.1 = k
    · have q2 : b.1 = kO k := by rw [h.1, q]
      simp only [List.map_cons, if_pos q, if_pos q2]
      exact ⟨by rw [i1, h.1], .cons r0 i2⟩
    · have q2 : ¬ b.1 = kO k := fun z => q (kO_inj (by rw [← h.1, z]))
      simp only [List.map_cons, if_neg q, if_neg q2]
      exact ⟨by rw [i1, h.1], .cons (by rw [e.1]; exact r1) i2⟩
theorem put_rep {k : DKey} {d : D} {v : V} (r0 : Rep K M H d v) {kvs : List (DKey × D)} {ks : List (Key × V)} (h : ks.map (·.1) = kvs.map (fun q => kO q.1)) (r : Reps K M H (kvs.map (·.2)) (ks.map (·.2))) :
    (putK ks (kO k) v).map (·.1) = (putD kvs k d).map (fun q => kO q.1) ∧ Reps K M H ((putD kvs k d).map (·.2)) ((putK ks (kO k) v).map (·.2)) := by
  unfold putK putD
  rw [any_keys h]
  split
  · exact map_keys r0 h r
  · rw [List.map_append, List.map_append, List.map_append, List.map_append, h]
    exact ⟨rfl, r.append (.cons r0 .nil)⟩
theorem merge_rep : ∀ {more : List (DKey × D)} {ms : List (Key × V)} {kvs : List (DKey × D)} {ks : List (Key × V)}, ms.map (·.1) = more.map (fun q => kO q.1) → Reps K M H (more.map (·.2)) (ms.map (·.2)) →
    ks.map (·.1) = kvs.map (fun q => kO q.1) → Reps K M H (kvs.map (·.2)) (ks.map (·.2)) →
    (mergeK ks ms).map (·.1) = (mergeD kvs more).map (fun q => kO q.1) ∧ Reps K M H ((mergeD kvs more).map (·.2)) ((mergeK ks ms).map (·.2))
  | [], [], _, _, _, _, h, r => ⟨h, r⟩
  | [], _ :: _, _, _, h, _, _, _ => by cases h
  | _ :: _, [], _, _, h, _, _, _ => by cases h
  | a :: more, b :: ms, kvs, ks, h0, r0, h, r => by
    simp only [List.map_cons, List.cons.injEq] at h0
    obtain ⟨u, us, e, r1, r2⟩ := r0.uncons
    simp only [List.map_cons, List.cons.injEq] at e
    have p := put_rep (k := a.1) r1 h r
    have q := merge_rep (more := more) (ms := ms) h0.2 (by rw [e.2]; exact r2) p.1 p.2
    unfold mergeK mergeD at q ⊢
    rw [List.foldl_cons, List.foldl_cons, h0.1, e.1]
    exact q
end
def dPairs : List (DTE × DTE) → DSt → Mu → (List (D × D) → Mu → Prop) → DX → Prop
  | [], _, M, Q, _ => Q [] M
  | (tk, tv) :: r, τ, M, Q, E => tk τ M (fun x M1 => tv τ M1 (fun y M2 => dPairs r τ M2 (fun ps M3 => Q ((x, y) :: ps) M3) E) E) E
def dDict (prs : List (DTE × DTE)) : DTE := fun τ M Q E => ∀ p, M p = none → dPairs prs τ (put M p (.dK [])) (fun ps M2 => M2 p = some (.dK []) ∧ ∃ kvs : List (DKey × D), ps = kvs.map (fun q => (kD q.1, q.2)) ∧ kvs.length ≤ 15 ∧ Q (.ref p) (put M2 p (.dK (mergeD [] kvs)))) E
def dDict0 : DTE := fun _ M Q _ => ∀ p, M p = none → Q (.ref p) (put M p (.dK []))
section
variable {X : Cx} {W : WX} {a b c e o i k v : Expr} {rest es : List Expr} {ta tb tc te to ti tk tv : DTE} {tl : DTA} {tt : DTT} {pos apos cpos p : Pos} {x : Str} {keys ks : List (Option Expr)} {values vs : List Expr} {prs : List (DTE × DTE)} {st : Stmt} {t : DTS}
theorem kD_rep {K : PySem.W.Frag} {M : Mu} {H : Hp} (k : DKey) : Rep K M H (kD k) (kV (kO k)) := by
  cases k <;> exact rfl
theorem de_dict0 : DE X W (.Dict [] [] pos) dDict0 := PE.of pe_dnewK fun σ H Q ⟨τ, M, Q0, E0, S, h⟩ => fun p hp =>
  S.q _ _ _ _ (h p (S.co.free hp)) rfl (S.co.newM hp ⟨[], rfl, rfl, .nil⟩) (Stp.newM hp)
def keysOf (kvs : List (DKey × D)) : List D := kvs.map fun q => kD q.1
def wForK (a : Addr) (kvs : List (DKey × D)) (u : HO) (g : DTG) (tb : DTS) (D0 : DEnds) : List D → DSt → Mu → Prop
  | [], τ, M => M a = some (.fK kvs u) ∧ D0.nx τ M
  | d :: ds, τ, M => M a = some (.fK kvs u) ∧ g d τ M (fun τ1 M1 => tb { D0 with nx := wForK a kvs u g tb D0 ds, ct := wForK a kvs u g tb D0 ds, bk := D0.nx } τ1 M1) (D0.ex τ)
def dForK (te : DTE) (g : DTG) (tb : DTS) : DTS := fun D0 τ M => te τ M (fun d M1 => match d with
  | .ref a => (match M1 a with
    | some (.fK kvs u) => wForK a kvs u g tb D0 (keysOf kvs) τ M1
    | _ => False)
  | _ => False) (D0.ex τ)
def dLock (i : Nat) (t : DTS) : DTS := fun D0 τ M => match τ[i]? with
  | some (some (.ref a)) => (match M a with
    | some (.dK kvs) => ∀ u, t ⟨fun τ' M' => M' a = some (.fK kvs u) ∧ D0.nx τ' (put M' a (.dK kvs)), fun d M' => M' a = some (.fK kvs u) ∧ D0.rt d (put M' a (.dK kvs)), fun τ' M' => M' a = some (.fK kvs u) ∧ D0.bk τ' (put M' a (.dK kvs)),
      fun τ' M' => M' a = some (.fK kvs u) ∧ D0.ct τ' (put M' a (.dK kvs)), fun _ _ _ => False⟩ τ (put M a (.fK kvs u))
    | _ => False)
  | _ => False
theorem ds_lock (j : Nat) (h : DS X W st t) : DS X W st (dLock j t) := PS.of (ps_lock h) fun D1 σ H ⟨τ, M, D0, S, hh⟩ => by
  unfold dLock at hh
  split at hh
  · rename_i a e
    split at hh
    · rename_i kvs em
      obtain ⟨ks, ha, ek, rk⟩ := mu_dK S.co em
      refine ⟨a, .dK ks, ha, trivial, fun od => ?_⟩
      have s0 := Stp.write (H := H) (o := .frz od (.dK ks)) (mo' := .fK kvs (.frz od (.dK ks))) em
      have c0 := S.co.write (o := .frz od (.dK ks)) (mo' := .fK kvs (.frz od (.dK ks))) em ⟨rfl, od, ks, rfl, ek, rk⟩
      -- back
      have back : ∀ {M' : Mu} {H' : Hp}, M' a = some (.fK kvs (.frz od (.dK ks))) → Cor X.K M' H' → Stp (put M a (.fK kvs (.frz od (.dK ks)))) (upd H a (.frz od (.dK ks))) M' H' →
          H' a = some (.frz od (.dK ks)) ∧ Cor X.K (put M' a (.dK kvs)) (upd H' a (.dK ks)) ∧ Stp M' H' (put M' a (.dK kvs)) (upd H' a (.dK ks)) ∧ Stp M H (put M' a (.dK kvs)) (upd H' a (.dK ks)) := by
        intro M' H' m c s
        obtain ⟨od', ks', q1, q2, q3, q4⟩ := mu_fK c m
        injection q2 with q5 q6
        injection q6 with q7
        subst q5 q7
        have s1 := Stp.write (H := H') (o := .dK ks) (mo' := .dK kvs) m
        exact ⟨q1, c.write m ⟨_, rfl, q3, q4⟩, s1, (s0.trans s).trans s1⟩
      refine ⟨τ, _, _, ⟨S.rs.stp s0, c0, ?_, ?_, ?_, ?_, ?_⟩, hh (.frz od (.dK ks))⟩
      · rintro τ' M' σ' H' ⟨m, n⟩ r c s
        obtain ⟨b1, b2, b3, b4⟩ := back m c s
        exact ⟨b1, S.nx _ _ _ _ n (r.stp b3) b2 b4⟩
      · rintro d M' v H' ⟨m, n⟩ r c s
        obtain ⟨b1, b2, b3, b4⟩ := back m c s
        exact ⟨b1, S.rt _ _ _ _ n (r.stp b3) b2 b4⟩
      · rintro τ' M' σ' H' ⟨m, n⟩ r c s
        obtain ⟨b1, b2, b3, b4⟩ := back m c s
        exact ⟨b1, S.bk _ _ _ _ n (r.stp b3) b2 b4⟩
      · rintro τ' M' σ' H' ⟨m, n⟩ r c s
        obtain ⟨b1, b2, b3, b4⟩ := back m c s
        exact ⟨b1, S.ct _ _ _ _ n (r.stp b3) b2 b4⟩
      · exact fun _ _ _ _ _ _ _ z => z.elim
    · exact hh.elim
  · exact hh.elim
end
end DL
namespace DL
open PySem L2 He
def gSetA : DSet := fun o i d M Q => match o, i with
  | .ref a, .int k => (match M a with
    | some (.lst ds) => (match ixN ds.length k with
      | some j => Q (put M a (.lst (ds.set j d)))
      | none => False)
    | some (.dK kvs) => kvs.length < 16777216 ∧ Q (put M a (.dK (putD kvs (.inl k) d)))
    | _ => False)
  | .ref a, .str x => (match M a with
    | some (.dK kvs) => kvs.length < 16777216 ∧ Q (put M a (.dK (putD kvs (.inr x) d)))
    | _ => False)
  | _, _ => False
theorem set_any {X : Cx} (hu : X.A.units + 1 < cLine) : PSet X (fun o i v H Q => rSetL o i v H Q ∨ rSetD o i v H Q) := by
  intro pins s σ H o i v ov iv u Q I ro ri rv h
  rcases h with h | h
  · exact set_list pins s σ H o i v ov iv u Q I ro ri rv h
  · exact set_dict hu pins s σ H o i v ov iv u Q I ro ri rv h
section
variable {X : Cx} {W : WX} {a b c e o i : Expr} {rest es : List Expr} {ta tb tc te to ti : DTE} {tl : DTA} {tt : DTT} {pos apos cpos p : Pos} {x : Str}
theorem dg_setA (G : Gd X W) (ho : DE X W o to) (hi : DE X W i ti) (ha : ∀ v, assign (.Subscript o i pos) X.env v = (do
      let ov ← holding [v] (eval o X.env)
      let iv ← holding [v, ov] (eval i X.env)
      standAt pos
      holding [v, ov, iv] (setItem ov iv v)
      release [v, ov, iv] []) := by intro _; rfl) : DG X W (.Subscript o i pos) (dgSub to ti gSetA) :=
  PG.of (pg_sub ho hi (set_any G.hu1) ha) fun v σ H Q ⟨d, τ, M, Q0, E0, r, S, h⟩ => S.sub h fun x M1 v1 H1 h1 r1 S1 s1 => S1.sub h1 fun y M2 v2 H2 h2 r2 S2 s2 => by
    have dic : ∀ {a : Addr} {k : DKey} {kvs : List (DKey × D)}, M2 a = some (.dK kvs) → kvs.length < 16777216 ∧ Q0 τ (put M2 a (.dK (putD kvs k d))) → rSetD (.ref a) (kV (kO k)) v H2 (fun H' => Q σ H') := by
      intro a k kvs e z
      obtain ⟨ks, hv, ek, ra⟩ := mu_dK S2.co e
      have hl := congrArg List.length ek
      rw [List.length_map, List.length_map] at hl
      have st := Stp.write (H := H2) (o := .dK (putK ks (kO k) v)) (mo' := .dK (putD kvs k d)) e
      obtain ⟨p1, p2⟩ := put_rep (k := k) ((r.stp s1).stp s2) ek ra
      exact ⟨a, _, rfl, DPut.k hv (by rw [line24, hl]; exact z.1), S2.q _ _ _ _ z.2 (S2.rs.stp st) (S2.co.write e ⟨_, rfl, p1, p2⟩) st⟩
    match x, y, h2 with
    | .ref a, .int k, h2 =>
      cases r1; cases r2
      have h3 : (match M2 a with
        | some (.lst ds) => (match ixN ds.length k with
          | some j => Q0 τ (put M2 a (.lst (ds.set j d)))
          | none => False)
        | some (.dK kvs) => kvs.length < 16777216 ∧ Q0 τ (put M2 a (.dK (putD kvs (.inl k) d)))
        | _ => False) := h2
      cases e : M2 a with
      | none => rw [e] at h3; exact h3.elim
      | some mo =>
        rw [e] at h3
        cases mo with
        | lst ds =>
          obtain ⟨vs, hv, ra⟩ := mu_lst S2.co e
          have h4 : (match ixN ds.length k with
            | some j => Q0 τ (put M2 a (.lst (ds.set j d)))
            | none => False) := h3
          cases e2 : ixN ds.length k with
          | none => rw [e2] at h4; exact h4.elim
          | some j =>
            rw [e2] at h4
            refine .inl ⟨a, vs, k, j, rfl, rfl, hv, by rw [ra.length]; exact e2, ?_⟩
            have st := Stp.write (H := H2) (o := .lst (vs.set j v)) (mo' := .lst (ds.set j d)) e
            exact S2.q _ _ _ _ h4 (S2.rs.stp st) (S2.co.write e ⟨_, rfl, ra.set ((r.stp s1).stp s2) j⟩) st
        | dK kvs => exact .inr (dic (k := .inl k) e h3)
        | _ => exact h3.elim
    | .ref a, .str x, h2 =>
      cases r1; cases r2
      have h3 : (match M2 a with
        | some (.dK kvs) => kvs.length < 16777216 ∧ Q0 τ (put M2 a (.dK (putD kvs (.inr x) d)))
        | _ => False) := h2
      cases e : M2 a with
      | none => rw [e] at h3; exact h3.elim
      | some mo =>
        rw [e] at h3
        cases mo with
        | dK kvs => exact .inr (dic (k := .inr x) e h3)
        | _ => exact h3.elim
end
def gEnds : DMt := fun x xs M Q => match x, xs with
  | .str a, [.str b] => Q (.bl (b.isSuffixOf a)) M
  | _, _ => False
def gInsert : DMt := fun x xs M Q => match x, xs with
  | .ref a, [.int i, y] => (match M a with
    | some (.lst ds) => ds.length < 16777216 ∧ 0 ≤ i ∧ i < 2 ^ 62 ∧ Q .non (put M a (.lst (ds.take i.toNat ++ [y] ++ ds.drop i.toNat)))
    | _ => False)
  | _, _ => False
section
variable {K : PySem.W.Frag}
end
def dKd (kvs : List (Tx × Tx)) (te : DTE) : DTE := fun τ M Q E => te τ M (fun d M1 => match d with
  | .str z => (match kvs.lookup z with
    | some v => Q (.str v) M1
    | none => False)
  | _ => False) E
section
variable {X : Cx} {W : WX} {a b c e o i : Expr} {ta tb te : DTE} {pos p : Pos} {x : Str}
end
abbrev AlY : Type := AlD × List (Option (List (Option (Str × Int))))
def obsY (fa : List Fa) (fn : List DefD) (gb : List (PySem.W.Frag → Bool)) (ts : List Tab) (K : PySem.W.Frag) : AlY := (obsX fa fn gb K, ts.map fun t => dicW K (t.1 K))
def valY (fn : List DefD) (ts : List Tab) (w : World) : AlY := (valD fn, ts.map fun t => some (keysIn w.params t.2))
def SaysY (fa : List Fa) (fn : List DefD) (gb : List (PySem.W.Frag → Bool)) (ts : List Tab) (w : World) (K : PySem.W.Frag) : Prop := obsY fa fn gb ts K = valY fn ts w
section
variable {fa : List Fa} {fn : List DefD} {gb : List (PySem.W.Frag → Bool)} {ts : List Tab} {w : World} {K : PySem.W.Frag}
theorem SaysY.x (c : SaysY fa fn gb ts w K) : SaysX fa fn gb K := congrArg (fun z : AlY => z.1) c
end
end DL
namespace DL
open PySem L2
def gStr1 : DCb := fun xs M Q => match xs with
  | [.int i] => i.natAbs.log2 < 1920 ∧ Q (.str (intT i)) M
  | [.str x] => Q (.str x) M
  | _ => False
theorem cb_str {K : PySem.W.Frag} : CbD K gStr1 (fun xs H Q => (∃ i, xs = [V.int i] ∧ i.natAbs.log2 < 1920 ∧ Q (.str (toString i)) H) ∨ ∃ a, xs = [V.str a] ∧ Q (.str a) H) := fun M H xs vs Q0 Q c r h q => by
  match xs, h with
  | [.int i], h =>
    obtain ⟨v, u, rfl, r1, r2⟩ := r.uncons
    cases r2.unnil; cases r1
    refine .inl ⟨i, rfl, h.1, q _ M _ H h.2 ?_ c (Stp.refl M H)⟩
    show V.str _ = V.str (sx (T _))
    rw [sx_T]
  | [.str x], h =>
    obtain ⟨v, u, rfl, r1, r2⟩ := r.uncons
    cases r2.unnil; cases r1
    exact .inr ⟨sx x, rfl, q _ M _ H h rfl c (Stp.refl M H)⟩
theorem call_str1 {X : Cx} : CallR X (.type "str") (fun xs H Q => (∃ i, xs = [V.int i] ∧ i.natAbs.log2 < 1920 ∧ Q (.str (toString i)) H) ∨ ∃ a, xs = [V.str a] ∧ Q (.str a) H) := call_str_int.or SkE.call_str_str
def gExtend : DMt := fun x xs M Q => match x, xs with
  | .ref a, [.lst zs] => (match M a with
    | some (.lst ds) => ds.length + zs.length ≤ 16777216 ∧ Q .non (put M a (.lst (ds ++ zs)))
    | _ => False)
  | .ref a, [.ref b] => (match M a, M b with
    | some (.lst ds), some (.lst zs) => ds.length + zs.length ≤ 16777216 ∧ Q .non (put M a (.lst (ds ++ zs)))
    | _, _ => False)
  | _, _ => False
def gPop : DMt := fun x xs M Q => match x, xs with
  | .ref a, [] => (match M a with
    | some (.lst ds) => (match ds.getLast? with
      | some d => Q d (put M a (.lst ds.dropLast))
      | none => False)
    | _ => False)
  | _, _ => False
def gClear : DMt := fun x xs M Q => match x, xs with
  | .ref a, [] => (match M a with
    | some (.lst ds) => Q .non (put M a (.lst []))
    | _ => False)
  | _, _ => False
section
variable {K : PySem.W.Frag}
theorem md_pop : MtD K gPop rPop := fun M H x v xs vs Q0 Q c rx r h q => by
  match x, xs, h with
  | .ref a, [], h =>
    cases r.unnil; cases rx
    have h2 : (match M a with
      | some (.lst ds) => (match ds.getLast? with
        | some d => Q0 d (put M a (.lst ds.dropLast))
        | none => False)
      | _ => False) := h
    cases e : M a with
    | none => rw [e] at h2; exact h2.elim
    | some mo =>
      rw [e] at h2
      cases mo with
      | lst ds =>
        obtain ⟨us, ha, ra⟩ := mu_lst c e
        have h3 : (match ds.getLast? with
          | some d => Q0 d (put M a (.lst ds.dropLast))
          | none => False) := h2
        cases e3 : ds.getLast? with
        | none => rw [e3] at h3; exact h3.elim
        | some d =>
          rw [e3] at h3
          rw [List.getLast?_eq_getElem?] at e3
          obtain ⟨y, hy, ry⟩ := ra.get e3
          refine ⟨a, us, y, rfl, rfl, ha, by rw [ra.length]; exact hy, ?_⟩
          have st := Stp.write (H := H) (o := .lst us.dropLast) (mo' := .lst ds.dropLast) e
          exact q _ _ _ _ h3 (ry.stp st) (c.write e ⟨_, rfl, ra.dropLast⟩) st
      | _ => exact h2.elim
end
def dStar (te : DTE) (tl : DTA) : DTA := fun τ M Q E => te τ M (fun d M1 => match d with
  | .lst xs => tl τ M1 (fun ys M2 => Q (xs ++ ys) M2) E
  | .tup xs => tl τ M1 (fun ys M2 => Q (xs ++ ys) M2) E
  | .ref a => (match M1 a with
    | some (.lst xs) => tl τ M1 (fun ys M2 => Q (xs ++ ys) M2) E
    | _ => False)
  | _ => False) E
end DL
namespace DL
open PySem L2
abbrev DTR := DR (Addr × List D)
def ItR (K : PySem.W.Frag) (M : Mu) (H : Hp) (q : Addr × List D) (J : It) : Prop := ∀ M' H', Cor K M' H' → M' q.1 = some (.lst q.2) →
  (∀ i, q.2.length ≤ i → J.stop i H') ∧ (∀ i, i < q.2.length → J.go i H') ∧ ∀ i d v H2, q.2[i]? = some d → J.yld i H' v H2 → Rep K M' H2 d v ∧ Cor K M' H2 ∧ Stp M' H' M' H2
abbrev DIR (X : Cx) (W : WX) (tg iter : Expr) (tr : DTR) : Prop := PI X tg iter (lif X.K W (ItR X.K) tr)
theorem it_ref {K : PySem.W.Frag} {M : Mu} {H : Hp} {a : Addr} {ds : List D} : ItR K M H (a, ds) (Itl K a) := fun M' H' c m => by
  obtain ⟨vs, ha, r⟩ := mu_lst c m
  have q : SqL K H' a vs := .inl (.inl ha)
  refine ⟨fun i h => ⟨vs, q, by rw [r.length]; exact h⟩, fun i h => ?_, fun i d v H2 h y => ?_⟩
  · obtain ⟨v, h1, _⟩ := r.get (List.getElem?_eq_getElem h)
    exact ⟨vs, v, q, h1⟩
  · obtain ⟨rfl, y⟩ := y
    obtain ⟨u, h1, h2⟩ := r.get h
    have := y vs q
    rw [h1] at this
    cases this
    exact ⟨h2, c, Stp.refl M' _⟩
def diRef (te : DTE) : DTR := fun τ M Q E => te τ M (fun d M1 => match d with
  | .ref a => (match M1 a with
    | some (.lst ds) => Q (a, ds) M1
    | _ => False)
  | _ => False) E
def wForR (a : Addr) (all : List D) (g : DTG) (tb : DTS) (D0 : DEnds) : List D → DSt → Mu → Prop
  | [], τ, M => M a = some (.lst all) ∧ D0.nx τ M
  | d :: ds, τ, M => M a = some (.lst all) ∧ g d τ M (fun τ1 M1 => tb { D0 with nx := wForR a all g tb D0 ds, ct := wForR a all g tb D0 ds, bk := D0.nx } τ1 M1) (D0.ex τ)
def dForR (tr : DTR) (g : DTG) (tb : DTS) : DTS := fun D0 τ M => tr τ M (fun q M1 => wForR q.1 q.2 g tb D0 q.2 τ M1) (D0.ex τ)
section
variable {X : Cx} {W : WX} {a b c e o i elt tg iter : Expr} {rest es : List Expr} {ta tb te to : DTE} {tt : DTT} {pos p : Pos} {x : Str} {g : DTG} {tr : DTR} {ifs : List Expr} {scope : Scope} {own : List (Str × Nat)} {vs : List Nat}
theorem di_ref {tg : Expr} (h : DE X W e te) : DIR X W tg e (diRef te) := PI.of (pi_any h) fun σ H R ⟨τ, M, Q0, E0, S, h⟩ => S.sub h fun d M1 v H1 h1 r1 S1 s1 => by
  cases d with
  | ref a =>
    cases r1
    have h2 : (match M1 a with
      | some (.lst ds) => Q0 (a, ds) M1
      | _ => False) := h1
    cases em : M1 a with
    | none => rw [em] at h2; exact h2.elim
    | some mo =>
      rw [em] at h2
      cases mo with
      | lst ds =>
        obtain ⟨vs, ha, ra⟩ := mu_lst S1.co em
        exact .inr (.inl ⟨a, rfl, ⟨vs, .inl (.inl ha)⟩, S1.end_ (d := (a, ds)) h2 it_ref⟩)
      | _ => exact h2.elim
  | _ => exact h1.elim
theorem ds_forR {body : List Stmt} {tb : DTS} (G : Gd X W) (hi : DIR X W tg iter tr) (hg : DG X W tg g) (hb : DSs X W body tb) (hs : ∀ x, foldedSetIterable iter X.env x = pure x := by intro _; rfl) :
    DS X W (.For tg iter body [] pos) (dForR tr g tb) :=
  PS.of (ps_for G.own G.calm hi hg hb hs) fun D1 σ H ⟨τ, M, D0, S, h⟩ => S.sub h fun q M1 J H1 h1 r1 S1 s1 => by
    obtain ⟨a, ds⟩ := q
    have h1 : wForR a ds g tb D0 ds τ M1 := h1
    refine ⟨fun i m σ2 H2 => m = ds.length - i ∧ i ≤ ds.length ∧ ∃ τ2 M2, Stp M1 H1 M2 H2 ∧ SitS X.K W τ2 M2 σ2 H2 D0 D1 ∧ wForR a ds g tb D0 (ds.drop i) τ2 M2, ⟨ds.length, rfl, Nat.zero_le _, τ, M1, Stp.refl M1 H1, S1, h1⟩, ?_⟩
    rintro i m σ2 H2 ⟨rfl, hi, τ2, M2, s2, S2, h2⟩
    by_cases hlt : i < ds.length
    · have e : ds.drop i = ds[i] :: ds.drop (i + 1) := List.drop_eq_getElem_cons hlt
      rw [e] at h2
      obtain ⟨k1, k2, k3⟩ := r1 M2 H2 S2.co h2.1
      refine .inr ⟨k2 i hlt, fun σ3 H3 => ∃ τ3 M3, Stp M1 H1 M3 H3 ∧ SitS X.K W τ3 M3 σ3 H3 D0 D1 ∧ wForR a ds g tb D0 (ds.drop (i + 1)) τ3 M3, fun σ3 H3 q => ⟨ds.length - (i + 1), by omega, rfl, hlt, q⟩, fun x H3 y => ?_⟩
      obtain ⟨y1, y2, y3⟩ := k3 i ds[i] x H3 (List.getElem?_eq_getElem hlt) y
      have S3 := S2.go (S2.rs.stp y3) y2 y3
      refine ⟨ds[i], τ2, M2, _, D0.ex τ2, y1, ⟨S3.rs, S3.co, fun τ4 M4 σ4 H4 h4 r4 c4 s4 => ?_, fun x M' c d H' h r c' s' => S3.xc x τ2 M' c d σ2 H' h r (S3.rs.stp s') c' s'⟩, h2.2⟩
      have S4 := S3.go r4 c4 s4
      exact ⟨τ4, M4, { D0 with nx := wForR a ds g tb D0 (ds.drop (i + 1)), ct := wForR a ds g tb D0 (ds.drop (i + 1)), bk := D0.nx }, ⟨S4.rs, S4.co, fun a b c d h r c' s => ⟨a, b, (s2.trans (y3.trans s4)).trans s, S4.go r c' s, h⟩, S4.rt, S4.nx, fun a b c d h r c' s => ⟨a, b, (s2.trans (y3.trans s4)).trans s, S4.go r c' s, h⟩, S4.xc⟩, h4⟩
    · have e : i = ds.length := by omega
      rw [e, List.drop_length] at h2
      obtain ⟨k1, k2, k3⟩ := r1 M2 H2 S2.co h2.1
      exact .inl ⟨k1 i (show ds.length ≤ i by omega), S2.next h2.2⟩
structure BlkR (B : Cx) (tg : Expr) (g : DTG) (ifs : List Expr) (tt : DTT) (vs : List Nat) (elt : Expr) (te : DTE) : Prop where
  g : DGw B W0 tg g vs
  t : DTs B W0 ifs tt
  e : DE B W0 elt te
end
end DL
namespace DL
open PySem L2
def okT (x : Tx) : Prop := ∀ c ∈ x, c < 1114112
theorem canLay_strs : ∀ {xs : List Tx}, (∀ x ∈ xs, okT x) → PyData.canLayAll0 (pds (xs.map D.str)) = true
  | [], _ => by simp [pds, PyData.canLayAll0]
  | x :: xs, h => by
    have h1 : PyData.canLay0 (pd (.str x)) = true := by
      unfold pd PyData.canLay0
      show (sx x).cps.all (· < 0x110000) = true
      rw [Array.all_eq_true]
      intro i hi
      have := h x (List.mem_cons_self ..) ((sx x).cps[i]) (by
        have : (sx x).cps[i] ∈ (sx x).cps.toList := by rw [Array.mem_toList_iff]; exact Array.getElem_mem hi
        exact this)
      exact decide_eq_true this
    rw [List.map_cons]
    unfold pds PyData.canLayAll0
    rw [h1, canLay_strs fun y hy => h y (List.mem_cons_of_mem _ hy)]
    rfl
theorem plains_strs : ∀ (xs : List Tx), plains (xs.map D.str) = true
  | [] => rfl
  | x :: xs => by
    rw [List.map_cons]
    unfold plains
    rw [plains_strs xs]
    rfl
theorem eqv_strs : ∀ (xs ys : List Tx), PyData.eqvAll (pds (xs.map D.str)) (pds (ys.map D.str)) = decide (xs = ys)
  | [], [] => by simp [pds, PyData.eqvAll]
  | [], _ :: _ => by simp [pds, PyData.eqvAll]
  | _ :: _, [] => by simp [pds, PyData.eqvAll]
  | x :: xs, y :: ys => by
    rw [List.map_cons, List.map_cons]
    unfold pds PyData.eqvAll
    rw [eqv_strs xs ys]
    unfold pd PyData.eqv
    rw [Bool.eq_iff_iff, Bool.and_eq_true, beq_iff_eq, decide_eq_true_iff, decide_eq_true_iff]
    constructor
    · rintro ⟨h1, h2⟩; rw [sx_inj h1, h2]
    · intro h; injection h with h1 h2; rw [h1, h2]; exact ⟨rfl, rfl⟩
theorem eqvL_strs (xs ys : List Tx) : PyData.eqv (.list (pds (xs.map D.str))) (.list (pds (ys.map D.str))) = decide (xs = ys) := by
  unfold PyData.eqv
  exact eqv_strs xs ys
theorem depth_strs : ∀ (xs : List Tx), PyData.depthAll (pds (xs.map D.str)) = 0
  | [] => by simp [pds, PyData.depthAll]
  | x :: xs => by
    rw [List.map_cons]
    unfold pds PyData.depthAll
    rw [depth_strs xs]
    unfold pd PyData.depth
    rfl
theorem eqOk_strs {xs : List Tx} (h : ∀ x ∈ xs, okT x) : eqOk (.lst (xs.map D.str)) = true := by
  unfold eqOk
  rw [Bool.and_eq_true]
  refine ⟨by unfold plain; exact plains_strs xs, ?_⟩
  unfold SeqAt.shaped
  rw [Bool.and_eq_true]
  unfold pd
  refine ⟨by unfold PyData.canLay0; exact canLay_strs h, ?_⟩
  unfold PyData.depth
  rw [depth_strs]
  decide
def txs (ts : List Tx) : List D := ts.map D.str
theorem txs_app (a b : List Tx) : txs (a ++ b) = txs a ++ txs b := List.map_append
end DL
namespace DL
open PySem L2
theorem pq {a b : Prop} (h : a ↔ b) : a = b := propext h
inductive Lk {α : Type} (a : α) : Type where
  | mk
def onSome {α : Type} {K : α → Prop} (_ : Lk K) (o : Option α) : Prop := match o with
  | some a => K a
  | none => False
def onBl {K : Bool → Prop} (_ : Lk K) (d : D) : Prop := match d with
  | .bl b => K b
  | _ => False
def onInt {K : Int → Prop} (_ : Lk K) (d : D) : Prop := match d with
  | .int i => K i
  | _ => False
def onStr {K : Tx → Prop} (_ : Lk K) (d : D) : Prop := match d with
  | .str y => K y
  | _ => False
def onVar {K : D → Prop} (_ : Lk K) (o : Option (Option D)) : Prop := match o with
  | some (some d) => K d
  | _ => False
def onML {K : List D → Prop} (_ : Lk K) (o : Option MO) : Prop := match o with
  | some (.lst ds) => K ds
  | _ => False
def onML2 {K : List D → Prop} {L : List (DKey × D) → Prop} (_ : Lk K) (_ : Lk L) (o : Option MO) : Prop := match o with
  | some (.lst ds) => K ds
  | some (.dK kvs) => L kvs
  | _ => False
def onML3 {K : List D → Prop} {L : List (DKey × D) → Prop} (_ : Lk K) (_ : Lk L) (o : Option MO) : Prop := match o with
  | some (.lst ds) => K ds
  | some (.dK kvs) => L kvs
  | some (.fK kvs _) => L kvs
  | _ => False
def onDR {K : List (DKey × D) → Prop} (_ : Lk K) (o : Option MO) : Prop := match o with
  | some (.dK kvs) => K kvs
  | some (.fK kvs _) => K kvs
  | _ => False
def onFK {K : List (DKey × D) → HO → Prop} (_ : Lk K) (o : Option MO) : Prop := match o with
  | some (.fK kvs u) => K kvs u
  | _ => False
theorem onML3_l {K : List D → Prop} {L : List (DKey × D) → Prop} {ds : List D} : onML3 (K := K) (L := L) ⟨⟩ ⟨⟩ (some (.lst ds)) = K ds := pq Iff.rfl
theorem onML3_d {K : List D → Prop} {L : List (DKey × D) → Prop} {ds : List (DKey × D)} : onML3 (K := K) (L := L) ⟨⟩ ⟨⟩ (some (.dK ds)) = L ds := pq Iff.rfl
theorem onML3_f {K : List D → Prop} {L : List (DKey × D) → Prop} {ds : List (DKey × D)} {u : HO} : onML3 (K := K) (L := L) ⟨⟩ ⟨⟩ (some (.fK ds u)) = L ds := pq Iff.rfl
theorem onDR_d {L : List (DKey × D) → Prop} {ds : List (DKey × D)} : onDR (K := L) ⟨⟩ (some (.dK ds)) = L ds := pq Iff.rfl
theorem onDR_f {L : List (DKey × D) → Prop} {ds : List (DKey × D)} {u : HO} : onDR (K := L) ⟨⟩ (some (.fK ds u)) = L ds := pq Iff.rfl
theorem onFK_f {L : List (DKey × D) → HO → Prop} {ds : List (DKey × D)} {u : HO} : onFK (K := L) ⟨⟩ (some (.fK ds u)) = L ds u := pq Iff.rfl
def onDK {K : List (DKey × D) → Prop} (_ : Lk K) (o : Option MO) : Prop := match o with
  | some (.dK kvs) => K kvs
  | _ => False
def truK {K : Bool → Prop} (_ : Lk K) (M : Mu) (d : D) : Prop := match d with
  | .str x => x.length ≤ 16777216 ∧ K (!x.isEmpty)
  | d => match truD M d with
    | some b => K b
    | none => False
def frzK {K : DK} (_ : Lk K) (d : D) (M : Mu) : Prop := match d with
  | .ref a => (match M a with
    | some (.lst ds) => K (.lst ds) (del M a)
    | _ => False)
  | _ => False
def isiK {K : Bool → Prop} (_ : Lk K) (o : Option String) (T : String) : Prop := match o with
  | some n => ["bool", "int", "str", "list", "tuple", "dict"].contains T = true ∧ K (isaB n T)
  | none => False
def rng1K {K : List D → Mu → Prop} (_ : Lk K) (ds : List D) (M : Mu) : Prop := match ds with
  | [.int j] => -(2 ^ 62) ≤ j ∧ j < 2 ^ 62 ∧ K (upTo 0 j.toNat) M
  | _ => False
def rng2K {K : List D → Mu → Prop} (_ : Lk K) (ds : List D) (M : Mu) : Prop := match ds with
  | [.int i, .int j] => (-(2 ^ 62) ≤ i ∧ i < 2 ^ 62 ∧ -(2 ^ 62) ≤ j ∧ j < 2 ^ 62) ∧ K (upTo i (j - i).toNat) M
  | _ => False
def fzK {K : Addr → List D → Prop} (_ : Lk K) (o : Option (Option D)) (M : Mu) : Prop := match o with
  | some (some (.ref a)) => (match M a with
    | some (.lst ds) => K a ds
    | _ => False)
  | _ => False
def fmtK {K : DK} (_ : Lk K) (d : D) (M : Mu) : Prop := match d with
  | .str y => y.length ≤ 16777216 ∧ K (.str y) M
  | .int i => i.natAbs.log2 < 1920 ∧ K (.str (intT i)) M
  | _ => False
def opK {K : DK} (_ : Lk K) (g : DOp) (x y : D) (M : Mu) : Prop := g x y M K
def unK {K : DK} (_ : Lk K) (g : DUn) (x : D) (M : Mu) : Prop := g x M K
def cbK {K : DK} (_ : Lk K) (g : DCb) (ds : List D) (M : Mu) : Prop := g ds M K
def mtK {K : DK} (_ : Lk K) (g : DMt) (x : D) (ds : List D) (M : Mu) : Prop := g x ds M K
def slK {K : DK} (_ : Lk K) (x : D) (lo hi : Option Int) (M : Mu) : Prop := gSl x lo hi M K
def callK {K : DK} {L : DX} (_ : Lk K) (_ : Lk L) (sp : DSp) (ds : List D) (M : Mu) : Prop := sp ds M K L
theorem onSome_s {α : Type} {a : α} {k : α → Prop} : onSome (K := k) ⟨⟩ (some a) = k a := pq Iff.rfl
theorem onBl_b {b : Bool} {k : Bool → Prop} : onBl (K := k) ⟨⟩ (.bl b) = k b := pq Iff.rfl
theorem onInt_i {b : Int} {k : Int → Prop} : onInt (K := k) ⟨⟩ (.int b) = k b := pq Iff.rfl
theorem onVar_s {d : D} {k : D → Prop} : onVar (K := k) ⟨⟩ (some (some d)) = k d := pq Iff.rfl
theorem onML_l {ds : List D} {k : List D → Prop} : onML (K := k) ⟨⟩ (some (.lst ds)) = k ds := pq Iff.rfl
theorem onML2_l {ds : List D} {k : List D → Prop} {l : List (DKey × D) → Prop} : onML2 (K := k) (L := l) ⟨⟩ ⟨⟩ (some (.lst ds)) = k ds := pq Iff.rfl
theorem onML2_d {ds : List (DKey × D)} {k : List D → Prop} {l : List (DKey × D) → Prop} : onML2 (K := k) (L := l) ⟨⟩ ⟨⟩ (some (.dK ds)) = l ds := pq Iff.rfl
theorem onDK_d {ds : List (DKey × D)} {l : List (DKey × D) → Prop} : onDK (K := l) ⟨⟩ (some (.dK ds)) = l ds := pq Iff.rfl
section
variable {M : Mu} {Q : DK} {k : Bool → Prop} {τ : DSt} {E : DX} {te ta tb : DTE} {tl : DTA}
theorem tru_n : truK (K := k) ⟨⟩ M .non = k false := pq Iff.rfl
theorem tru_b {b : Bool} : truK (K := k) ⟨⟩ M (.bl b) = k b := pq Iff.rfl
theorem tru_i {i : Int} : truK (K := k) ⟨⟩ M (.int i) = k (i != 0) := pq Iff.rfl
theorem tru_s {x : Tx} : truK (K := k) ⟨⟩ M (.str x) = (x.length ≤ 16777216 ∧ k (!x.isEmpty)) := pq Iff.rfl
theorem tru_l {x : List D} : truK (K := k) ⟨⟩ M (.lst x) = k (!x.isEmpty) := pq Iff.rfl
theorem tru_t {x : List D} : truK (K := k) ⟨⟩ M (.tup x) = k (!x.isEmpty) := pq Iff.rfl
theorem tru_r {a : Addr} : truK (K := k) ⟨⟩ M (.ref a) = onML2 (K := fun ds => k !ds.isEmpty) (L := fun kvs => k !kvs.isEmpty) ⟨⟩ ⟨⟩ (M a) := by
  show (match (match M a with
    | some (.lst ds) => some !ds.isEmpty
    | some (.dK kvs) => some !kvs.isEmpty
    | _ => none) with
    | some b => k b
    | none => False) = _
  unfold onML2
  cases M a with
  | none => rfl
  | some mo => cases mo <;> rfl
theorem r_var {i : Nat} : dVar i τ M Q E = onVar (K := fun d => Q d M) ⟨⟩ τ[i]? := pq Iff.rfl
theorem r_test {Qb : Bool → Mu → Prop} : dTest te τ M Qb E = te τ M (fun d M1 => onBl (K := fun b => Qb b M1) ⟨⟩ d) E := pq Iff.rfl
theorem r_tru {Qb : Bool → Mu → Prop} : dTru te τ M Qb E = te τ M (fun d M1 => truK (K := fun b => Qb b M1) ⟨⟩ M1 d) E := pq Iff.rfl
theorem r_andV : dAndV ta tb τ M Q E = ta τ M (fun d M1 => onBl (K := fun b => if b = true then tb τ M1 Q E else Q (.bl false) M1) ⟨⟩ d) E := pq Iff.rfl
theorem r_orV : dOrV ta tb τ M Q E = ta τ M (fun d M1 => onBl (K := fun b => if b = true then Q (.bl true) M1 else tb τ M1 Q E) ⟨⟩ d) E := pq Iff.rfl
theorem r_notV : dNotV ta τ M Q E = ta τ M (fun d M1 => onBl (K := fun b => Q (.bl (!b)) M1) ⟨⟩ d) E := pq Iff.rfl
theorem r_frz : dFrz te τ M Q E = te τ M (fun d M1 => frzK (K := Q) ⟨⟩ d M1) E := pq Iff.rfl
theorem frz_r {a : Addr} : frzK (K := Q) ⟨⟩ (.ref a) M = onML (K := fun ds => Q (.lst ds) (del M a)) ⟨⟩ (M a) := pq Iff.rfl
theorem r_osome {Qo : Option Int → Mu → Prop} : doSome te τ M Qo E = te τ M (fun d M1 => onInt (K := fun i => Qo (some i) M1) ⟨⟩ d) E := pq Iff.rfl
theorem sl_s {x : Tx} {lo hi : Option Int} : slK (K := Q) ⟨⟩ (.str x) lo hi M = (x.length ≤ 16777216 ∧ Q (.str (cut x lo hi)) M) := pq Iff.rfl
theorem sl_l {x : List D} {lo hi : Option Int} : slK (K := Q) ⟨⟩ (.lst x) lo hi M = Q (.lst (cut x lo hi)) M := pq Iff.rfl
theorem sl_t {x : List D} {lo hi : Option Int} : slK (K := Q) ⟨⟩ (.tup x) lo hi M = (¬ (HT.sIx x.length 0 lo = 0 ∧ HT.sIx x.length x.length hi = x.length) ∧ Q (.tup (cut x lo hi)) M) := pq Iff.rfl
theorem sl_r {a : Addr} {lo hi : Option Int} : slK (K := Q) ⟨⟩ (.ref a) lo hi M = onML (K := fun ds => Q (.lst (cut ds lo hi)) M) ⟨⟩ (M a) := pq Iff.rfl
theorem add_i {i j : Int} : opK (K := Q) ⟨⟩ gAdd (.int i) (.int j) M = Q (.int (i + j)) M := pq Iff.rfl
theorem add_s {a b : Tx} : opK (K := Q) ⟨⟩ gAdd (.str a) (.str b) M = (a.length + b.length ≤ 16777216 ∧ Q (.str (a ++ b)) M) := pq Iff.rfl
theorem add_l {a b : List D} : opK (K := Q) ⟨⟩ gAdd (.lst a) (.lst b) M = (a.length + b.length ≤ 16777216 ∧ Q (.lst (a ++ b)) M) := pq Iff.rfl
theorem add_t {a b : List D} : opK (K := Q) ⟨⟩ gAdd (.tup a) (.tup b) M = (a ≠ [] ∧ a.length + b.length ≤ 16777216 ∧ Q (.tup (a ++ b)) M) := pq Iff.rfl
theorem add_rl {p : Addr} {b : List D} : opK (K := Q) ⟨⟩ gAdd (.ref p) (.lst b) M = onML (K := fun a => a.length + b.length ≤ 16777216 ∧ Q (.lst (a ++ b)) M) ⟨⟩ (M p) := pq Iff.rfl
theorem add_lr {p : Addr} {a : List D} : opK (K := Q) ⟨⟩ gAdd (.lst a) (.ref p) M = onML (K := fun b => a.length + b.length ≤ 16777216 ∧ Q (.lst (a ++ b)) M) ⟨⟩ (M p) := pq Iff.rfl
theorem sub_i {i j : Int} : opK (K := Q) ⟨⟩ gSub (.int i) (.int j) M = Q (.int (i - j)) M := pq Iff.rfl
theorem mul_i {i j : Int} : opK (K := Q) ⟨⟩ gMul (.int i) (.int j) M = (CMul i j ∧ Q (.int (i * j)) M) := pq Iff.rfl
theorem div_i {i j : Int} : opK (K := Q) ⟨⟩ gDiv (.int i) (.int j) M = (CDiv i j ∧ Q (.int (i / j)) M) := pq Iff.rfl
theorem mod_i {i j : Int} : opK (K := Q) ⟨⟩ gMod (.int i) (.int j) M = (0 < j ∧ Q (.int (i % j)) M) := pq Iff.rfl
theorem pow_i {i j : Int} : opK (K := Q) ⟨⟩ gPow (.int i) (.int j) M = (CPow i j ∧ Q (.int (i ^ j.toNat)) M) := pq Iff.rfl
theorem neg_i {i : Int} : unK (K := Q) ⟨⟩ gNeg (.int i) M = Q (.int (-i)) M := pq Iff.rfl
theorem cmp_i {p : Int → Int → Bool} {i j : Int} : opK (K := Q) ⟨⟩ (gInt p) (.int i) (.int j) M = Q (.bl (p i j)) M := pq Iff.rfl
variable {nb : Bool → Bool}
theorem eq_i {i j : Int} : opK (K := Q) ⟨⟩ (gEqN nb) (.int i) (.int j) M = Q (.bl (nb (decide (i = j)))) M := pq Iff.rfl
theorem eq_s {i j : Tx} : opK (K := Q) ⟨⟩ (gEqN nb) (.str i) (.str j) M = Q (.bl (nb (decide (i = j)))) M := pq Iff.rfl
theorem eq_b {i j : Bool} : opK (K := Q) ⟨⟩ (gEqN nb) (.bl i) (.bl j) M = Q (.bl (nb (decide (i = j)))) M := pq Iff.rfl
theorem eq_n : opK (K := Q) ⟨⟩ (gEqN nb) .non .non M = Q (.bl (nb true)) M := pq Iff.rfl
theorem eq_l {a b : List D} : opK (K := Q) ⟨⟩ (gEqN nb) (.lst a) (.lst b) M = (eqOk (.lst a) = true ∧ eqOk (.lst b) = true ∧ Q (.bl (nb (PyData.eqv (.list (pds a)) (.list (pds b))))) M) := pq Iff.rfl
theorem eq_t {a b : List D} : opK (K := Q) ⟨⟩ (gEqN nb) (.tup a) (.tup b) M = (eqOk (.tup a) = true ∧ eqOk (.tup b) = true ∧ Q (.bl (nb (PyData.eqv (.tuple (pds a)) (.tuple (pds b))))) M) := pq Iff.rfl
theorem eq_rl {p : Addr} {b : List D} : opK (K := Q) ⟨⟩ (gEqN nb) (.ref p) (.lst b) M = onML (K := fun a => eqOk (.lst a) = true ∧ eqOk (.lst b) = true ∧ Q (.bl (nb (PyData.eqv (.list (pds a)) (.list (pds b))))) M) ⟨⟩ (M p) := pq Iff.rfl
theorem eq_lr {p : Addr} {a : List D} : opK (K := Q) ⟨⟩ (gEqN nb) (.lst a) (.ref p) M = onML (K := fun b => eqOk (.lst a) = true ∧ eqOk (.lst b) = true ∧ Q (.bl (nb (PyData.eqv (.list (pds a)) (.list (pds b))))) M) ⟨⟩ (M p) := pq Iff.rfl
theorem tt {P : Prop} : (true = true ∧ P) = P := by simp
theorem eq_ni {i : Int} : opK (K := Q) ⟨⟩ (gEqN nb) .non (.int i) M = Q (.bl (nb false)) M := tt
theorem eq_in {i : Int} : opK (K := Q) ⟨⟩ (gEqN nb) (.int i) .non M = Q (.bl (nb false)) M := tt
theorem eq_ns {i : Tx} : opK (K := Q) ⟨⟩ (gEqN nb) .non (.str i) M = Q (.bl (nb false)) M := tt
theorem eq_sn {i : Tx} : opK (K := Q) ⟨⟩ (gEqN nb) (.str i) .non M = Q (.bl (nb false)) M := tt
theorem eq_nb {i : Bool} : opK (K := Q) ⟨⟩ (gEqN nb) .non (.bl i) M = Q (.bl (nb false)) M := tt
theorem eq_bn {i : Bool} : opK (K := Q) ⟨⟩ (gEqN nb) (.bl i) .non M = Q (.bl (nb false)) M := tt
theorem eq_is {i : Int} {x : Tx} : opK (K := Q) ⟨⟩ (gEqN nb) (.int i) (.str x) M = Q (.bl (nb false)) M := tt
theorem eq_si {i : Int} {x : Tx} : opK (K := Q) ⟨⟩ (gEqN nb) (.str x) (.int i) M = Q (.bl (nb false)) M := tt
theorem ix_l {ds : List D} {i : Int} : opK (K := Q) ⟨⟩ gIx (.lst ds) (.int i) M = onSome (K := fun d => Q d M) ⟨⟩ (atI ds i) := by
  show (match atI ds i with | some d => Q d M | none => False) = _
  cases atI ds i <;> rfl
theorem ix_t {ds : List D} {i : Int} : opK (K := Q) ⟨⟩ gIx (.tup ds) (.int i) M = onSome (K := fun d => Q d M) ⟨⟩ (atI ds i) := by
  show (match atI ds i with | some d => Q d M | none => False) = _
  cases atI ds i <;> rfl
theorem ix_s {x : Tx} {i : Int} : opK (K := Q) ⟨⟩ gIx (.str x) (.int i) M = (x.length ≤ 16777216 ∧ onSome (K := fun c => Q (.str [c]) M) ⟨⟩ (atI x i)) := by
  show (x.length ≤ 16777216 ∧ (match atI x i with | some c => Q (.str [c]) M | none => False)) = _
  cases atI x i <;> rfl
theorem ix_ri {a : Addr} {i : Int} : opK (K := Q) ⟨⟩ gIx (.ref a) (.int i) M = onML3 (K := fun ds => onSome (K := fun d => Q d M) ⟨⟩ (atI ds i)) (L := fun kvs => onSome (K := fun d => Q d M) ⟨⟩ (lookK kvs (.inl i))) ⟨⟩ ⟨⟩ (M a) := by
  show (match M a with
    | some (.lst ds) => (match atI ds i with | some d => Q d M | none => False)
    | some (.dK kvs) => (match lookK kvs (.inl i) with | some d => Q d M | none => False)
    | some (.fK kvs _) => (match lookK kvs (.inl i) with | some d => Q d M | none => False)
    | _ => False) = _
  cases M a with
  | none => rfl
  | some mo => cases mo with
    | lst ds => show (match atI ds i with | some d => Q d M | none => False) = onSome (K := fun d => Q d M) ⟨⟩ (atI ds i); cases atI ds i <;> rfl
    | dK kvs => show (match lookK kvs (.inl i) with | some d => Q d M | none => False) = onSome (K := fun d => Q d M) ⟨⟩ (lookK kvs (.inl i)); cases lookK kvs (.inl i) <;> rfl
    | fK kvs u => show (match lookK kvs (.inl i) with | some d => Q d M | none => False) = onSome (K := fun d => Q d M) ⟨⟩ (lookK kvs (.inl i)); cases lookK kvs (.inl i) <;> rfl
    | _ => rfl
theorem ix_rs {a : Addr} {x : Tx} : opK (K := Q) ⟨⟩ gIx (.ref a) (.str x) M = onDR (K := fun kvs => onSome (K := fun d => Q d M) ⟨⟩ (lookK kvs (.inr x))) ⟨⟩ (M a) := by
  show (match M a with
    | some (.dK kvs) => (match lookK kvs (.inr x) with | some d => Q d M | none => False)
    | some (.fK kvs _) => (match lookK kvs (.inr x) with | some d => Q d M | none => False)
    | _ => False) = _
  cases M a with
  | none => rfl
  | some mo => cases mo with
    | dK kvs => show (match lookK kvs (.inr x) with | some d => Q d M | none => False) = onSome (K := fun d => Q d M) ⟨⟩ (lookK kvs (.inr x)); cases lookK kvs (.inr x) <;> rfl
    | fK kvs u => show (match lookK kvs (.inr x) with | some d => Q d M | none => False) = onSome (K := fun d => Q d M) ⟨⟩ (lookK kvs (.inr x)); cases lookK kvs (.inr x) <;> rfl
    | _ => rfl
theorem in_ss {c : Nat} {z : Tx} : opK (K := Q) ⟨⟩ (gInN nb) (.str [c]) (.str z) M = Q (.bl (nb (decide (c ∈ z)))) M := pq Iff.rfl
theorem in_l {x : D} {ys : List D} : opK (K := Q) ⟨⟩ (gInN nb) x (.lst ys) M = (flatD x = true ∧ ys.all flatD = true ∧ Q (.bl (nb (inD x ys))) M) := by
  cases x <;> first
    | rfl
    | (rename_i w; cases w with
      | nil => rfl
      | cons a l => cases l <;> rfl)
theorem in_t {x : D} {ys : List D} : opK (K := Q) ⟨⟩ (gInN nb) x (.tup ys) M = (flatD x = true ∧ ys.all flatD = true ∧ Q (.bl (nb (inD x ys))) M) := by
  cases x <;> first
    | rfl
    | (rename_i w; cases w with
      | nil => rfl
      | cons a l => cases l <;> rfl)
theorem in_ir {i : Int} {a : Addr} : opK (K := Q) ⟨⟩ (gInN nb) (.int i) (.ref a) M = onML3 (K := fun ys => ys.all flatD = true ∧ Q (.bl (nb (inD (.int i) ys))) M) (L := fun kvs => Q (.bl (nb (lookK kvs (.inl i)).isSome)) M) ⟨⟩ ⟨⟩ (M a) := pq Iff.rfl
theorem in_sr {x : Tx} {a : Addr} : opK (K := Q) ⟨⟩ (gInN nb) (.str x) (.ref a) M = onML3 (K := fun ys => ys.all flatD = true ∧ Q (.bl (nb (inD (.str x) ys))) M) (L := fun kvs => Q (.bl (nb (lookK kvs (.inr x)).isSome)) M) ⟨⟩ ⟨⟩ (M a) := by
  cases x with
  | nil => rfl
  | cons c l => cases l <;> rfl
theorem isn_n : opK (K := Q) ⟨⟩ (gIsNN nb) .non .non M = Q (.bl (nb true)) M := pq Iff.rfl
theorem isn_b {b : Bool} : opK (K := Q) ⟨⟩ (gIsNN nb) (.bl b) .non M = Q (.bl (nb false)) M := pq Iff.rfl
theorem isn_i {b : Int} : opK (K := Q) ⟨⟩ (gIsNN nb) (.int b) .non M = Q (.bl (nb false)) M := pq Iff.rfl
theorem isn_s {b : Tx} : opK (K := Q) ⟨⟩ (gIsNN nb) (.str b) .non M = Q (.bl (nb false)) M := pq Iff.rfl
theorem isn_r {b : Addr} : opK (K := Q) ⟨⟩ (gIsNN nb) (.ref b) .non M = Q (.bl (nb false)) M := pq Iff.rfl
theorem isn_l {b : List D} : opK (K := Q) ⟨⟩ (gIsNN nb) (.lst b) .non M = Q (.bl (nb false)) M := pq Iff.rfl
theorem isn_t {b : List D} : opK (K := Q) ⟨⟩ (gIsNN nb) (.tup b) .non M = Q (.bl (nb false)) M := pq Iff.rfl
theorem len_s {x : Tx} : cbK (K := Q) ⟨⟩ gLen [.str x] M = (x.length ≤ 16777216 ∧ Q (.int x.length) M) := pq Iff.rfl
theorem len_c {ns : List Int} : cbK (K := Q) ⟨⟩ gLen [.scr ns] M = Q (.int ns.length) M := pq Iff.rfl
theorem len_l {x : List D} : cbK (K := Q) ⟨⟩ gLen [.lst x] M = Q (.int x.length) M := pq Iff.rfl
theorem len_t {x : List D} : cbK (K := Q) ⟨⟩ gLen [.tup x] M = Q (.int x.length) M := pq Iff.rfl
theorem len_r {a : Addr} : cbK (K := Q) ⟨⟩ gLen [.ref a] M = onML2 (K := fun ds => Q (.int ds.length) M) (L := fun kvs => Q (.int kvs.length) M) ⟨⟩ ⟨⟩ (M a) := pq Iff.rfl
theorem int_i {i : Int} : cbK (K := Q) ⟨⟩ gInt1 [.int i] M = Q (.int i) M := pq Iff.rfl
theorem int_b {b : Bool} : cbK (K := Q) ⟨⟩ gInt1 [.bl b] M = Q (.int (if b then 1 else 0)) M := pq Iff.rfl
theorem min_ii {i j : Int} : cbK (K := Q) ⟨⟩ gMin2 [.int i, .int j] M = Q (.int (if j < i then j else i)) M := pq Iff.rfl
theorem max_ii {i j : Int} : cbK (K := Q) ⟨⟩ gMax2 [.int i, .int j] M = Q (.int (if j > i then j else i)) M := pq Iff.rfl
theorem list_l {x : List D} : cbK (K := Q) ⟨⟩ gList [.lst x] M = Q (.lst x) M := pq Iff.rfl
theorem list_t {x : List D} : cbK (K := Q) ⟨⟩ gList [.tup x] M = Q (.lst x) M := pq Iff.rfl
theorem list_r {a : Addr} : cbK (K := Q) ⟨⟩ gList [.ref a] M = onML (K := fun ds => Q (.lst ds) M) ⟨⟩ (M a) := pq Iff.rfl
theorem list_c {ns : List Int} : cbK (K := Q) ⟨⟩ gList [.scr ns] M = Q (.lst (ns.map D.int)) M := pq Iff.rfl
theorem listM_c {ns : List Int} : cbK (K := Q) ⟨⟩ gListM [.scr ns] M = (∀ p, M p = none → Q (.ref p) (put M p (.lst (ns.map D.int)))) := pq Iff.rfl
theorem listM_l {x : List D} : cbK (K := Q) ⟨⟩ gListM [.lst x] M = (∀ p, M p = none → Q (.ref p) (put M p (.lst x))) := pq Iff.rfl
theorem listM_t {x : List D} : cbK (K := Q) ⟨⟩ gListM [.tup x] M = (∀ p, M p = none → Q (.ref p) (put M p (.lst x))) := pq Iff.rfl
theorem listM_r {a : Addr} : cbK (K := Q) ⟨⟩ gListM [.ref a] M = onML (K := fun ds => ∀ p, M p = none → Q (.ref p) (put M p (.lst ds))) ⟨⟩ (M a) := pq Iff.rfl
theorem isi_ {d : D} {T : String} : cbK (K := Q) ⟨⟩ gIsi [d, .ty T] M = isiK (K := fun b => Q (.bl b) M) ⟨⟩ (tyD M d) T := pq Iff.rfl
theorem isi_k {n T : String} {k : Bool → Prop} : isiK (K := k) ⟨⟩ (some n) T = (["bool", "int", "str", "list", "tuple", "dict"].contains T = true ∧ k (isaB n T)) := pq Iff.rfl
theorem ty_n : tyD M .non = some "NoneType" := rfl
theorem ty_b {b : Bool} : tyD M (.bl b) = some "bool" := rfl
theorem ty_i {b : Int} : tyD M (.int b) = some "int" := rfl
theorem ty_s {b : Tx} : tyD M (.str b) = some "str" := rfl
theorem ty_l {b : List D} : tyD M (.lst b) = some "list" := rfl
theorem ty_t {b : List D} : tyD M (.tup b) = some "tuple" := rfl
theorem it_s {x : Tx} : isTy "str" M (.str x) = True := by show ("str" = "str") = True; simp
theorem it_l {x : List D} : isTy "list" M (.lst x) = True := by show ("list" = "list") = True; simp
def isTyM (T : String) (o : Option MO) : Prop := match o with
  | some (.lst _) => T = "list"
  | some (.dK _) => T = "dict"
  | some (.dT _) => T = "dict"
  | _ => False
theorem it_r {T : String} {a : Addr} : isTy T M (.ref a) = isTyM T (M a) := pq Iff.rfl
theorem itM_l {x : List D} : isTyM "list" (some (.lst x)) = True := by show ("list" = "list") = True; simp
theorem itM_d {x : List (DKey × D)} : isTyM "dict" (some (.dK x)) = True := by show ("dict" = "dict") = True; simp
theorem app_r {a : Addr} {y : D} : mtK (K := Q) ⟨⟩ gAppend (.ref a) [y] M = onML (K := fun ds => ds.length < 16777216 ∧ Q .non (put M a (.lst (ds ++ [y])))) ⟨⟩ (M a) := pq Iff.rfl
theorem rev_r {a : Addr} : mtK (K := Q) ⟨⟩ gReverse (.ref a) [] M = onML (K := fun ds => Q .non (put M a (.lst ds.reverse))) ⟨⟩ (M a) := pq Iff.rfl
theorem join_l {s : Tx} {ds : List D} : mtK (K := Q) ⟨⟩ gJoin (.str s) [.lst ds] M = (∃ ys : List Tx, ds = ys.map D.str ∧ (ys.map (·.length)).sum + ys.length * s.length ≤ 16777216 ∧ Q (.str (joinT s ys)) M) := pq Iff.rfl
theorem join_t {s : Tx} {ds : List D} : mtK (K := Q) ⟨⟩ gJoin (.str s) [.tup ds] M = (∃ ys : List Tx, ds = ys.map D.str ∧ (ys.map (·.length)).sum + ys.length * s.length ≤ 16777216 ∧ Q (.str (joinT s ys)) M) := pq Iff.rfl
theorem join_r {s : Tx} {a : Addr} : mtK (K := Q) ⟨⟩ gJoin (.str s) [.ref a] M = onML (K := fun ds => ∃ ys : List Tx, ds = ys.map D.str ∧ (ys.map (·.length)).sum + ys.length * s.length ≤ 16777216 ∧ Q (.str (joinT s ys)) M) ⟨⟩ (M a) := pq Iff.rfl
theorem starts_s {a b : Tx} : mtK (K := Q) ⟨⟩ gStarts (.str a) [.str b] M = Q (.bl (b.isPrefixOf a)) M := pq Iff.rfl
variable {d : D} {Qs : DSt → Mu → Prop}
theorem r_gtup {n : Nat} {u : DTGs} {ds : List D} : dgTup n u (.tup ds) τ M Qs E = (ds.length = n ∧ u ds τ M Qs (fun _ _ => False)) := pq Iff.rfl
theorem r_glst {n : Nat} {u : DTGs} {ds : List D} : dgLst n u (.lst ds) τ M Qs E = (ds.length = n ∧ u ds τ M Qs (fun _ _ => False)) := pq Iff.rfl
theorem r_gnil : dgNil [] τ M Qs E = Qs τ M := pq Iff.rfl
theorem r_gcons {i : Nat} {u : DTGs} {r : List D} : dgCons i u (d :: r) τ M Qs E = u r (τ.set i (some d)) M Qs E := pq Iff.rfl
def setK {K : Mu → Prop} (_ : Lk K) (g : DSet) (o i d : D) (M : Mu) : Prop := g o i d M K
theorem set_r {a : Addr} {k : Int} {Qm : Mu → Prop} : setK (K := Qm) ⟨⟩ gSetA (.ref a) (.int k) d M = onML2 (K := fun ds => onSome (K := fun j => Qm (put M a (.lst (ds.set j d)))) ⟨⟩ (ixN ds.length k)) (L := fun kvs => kvs.length < 16777216 ∧ Qm (put M a (.dK (putD kvs (.inl k) d)))) ⟨⟩ ⟨⟩ (M a) := by
  show (match M a with
    | some (.lst ds) => (match ixN ds.length k with | some j => Qm (put M a (.lst (ds.set j d))) | none => False)
    | some (.dK kvs) => kvs.length < 16777216 ∧ Qm (put M a (.dK (putD kvs (.inl k) d)))
    | _ => False) = _
  cases M a with
  | none => rfl
  | some mo => cases mo with
    | lst ds => show (match ixN ds.length k with | some j => Qm (put M a (.lst (ds.set j d))) | none => False) = onSome (K := fun j => Qm (put M a (.lst (ds.set j d)))) ⟨⟩ (ixN ds.length k); cases ixN ds.length k <;> rfl
    | _ => rfl
theorem set_rs {a : Addr} {x : Tx} {Qm : Mu → Prop} : setK (K := Qm) ⟨⟩ gSetA (.ref a) (.str x) d M = onDK (K := fun kvs => kvs.length < 16777216 ∧ Qm (put M a (.dK (putD kvs (.inr x) d)))) ⟨⟩ (M a) := pq Iff.rfl
theorem str_i {i : Int} : cbK (K := Q) ⟨⟩ gStr1 [.int i] M = (i.natAbs.log2 < 1920 ∧ Q (.str (intT i)) M) := pq Iff.rfl
theorem str_s {x : Tx} : cbK (K := Q) ⟨⟩ gStr1 [.str x] M = Q (.str x) M := pq Iff.rfl
theorem ext_l {a : Addr} {zs : List D} : mtK (K := Q) ⟨⟩ gExtend (.ref a) [.lst zs] M = onML (K := fun ds => ds.length + zs.length ≤ 16777216 ∧ Q .non (put M a (.lst (ds ++ zs)))) ⟨⟩ (M a) := pq Iff.rfl
theorem pop_r {a : Addr} : mtK (K := Q) ⟨⟩ gPop (.ref a) [] M = onML (K := fun ds => onSome (K := fun d => Q d (put M a (.lst ds.dropLast))) ⟨⟩ ds.getLast?) ⟨⟩ (M a) := by
  show (match M a with
    | some (.lst ds) => (match ds.getLast? with
      | some d => Q d (put M a (.lst ds.dropLast))
      | none => False)
    | _ => False) = _
  cases M a with
  | none => rfl
  | some mo => cases mo with
    | lst ds => show (match ds.getLast? with | some d => Q d (put M a (.lst ds.dropLast)) | none => False) = onSome (K := fun d => Q d (put M a (.lst ds.dropLast))) ⟨⟩ ds.getLast?; cases ds.getLast? <;> rfl
    | _ => rfl
theorem clr_r {a : Addr} : mtK (K := Q) ⟨⟩ gClear (.ref a) [] M = onML (K := fun _ => Q .non (put M a (.lst []))) ⟨⟩ (M a) := pq Iff.rfl
theorem ends_s {a b : Tx} : mtK (K := Q) ⟨⟩ gEnds (.str a) [.str b] M = Q (.bl (b.isSuffixOf a)) M := pq Iff.rfl
theorem ins_r {a : Addr} {i : Int} {y : D} : mtK (K := Q) ⟨⟩ gInsert (.ref a) [.int i, y] M = onML (K := fun ds => ds.length < 16777216 ∧ 0 ≤ i ∧ i < 2 ^ 62 ∧ Q .non (put M a (.lst (ds.take i.toNat ++ [y] ++ ds.drop i.toNat)))) ⟨⟩ (M a) := pq Iff.rfl
theorem r_any {Ql : List D → Mu → Prop} : diAny te τ M Ql E = te τ M (fun d M1 => onSome (K := fun ds => Ql ds M1) ⟨⟩ (itemsD d)) E := by
  unfold diAny
  congr 1
  funext d M1
  cases itemsD d <;> rfl
def scrK {K : List D → Prop} (_ : Lk K) (d : D) : Prop := match d with
  | .scr ns => K (ns.map D.int)
  | _ => False
theorem scr_c {K : List D → Prop} {ns : List Int} : scrK (K := K) ⟨⟩ (.scr ns) = K (ns.map D.int) := pq Iff.rfl
theorem r_scr {Ql : List D → Mu → Prop} : diScr te τ M Ql E = te τ M (fun d M1 => scrK (K := fun ds => Ql ds M1) ⟨⟩ d) E := by
  unfold diScr
  congr 1
theorem items_s {x : Tx} : itemsD (.str x) = some (x.map fun c => D.str [c]) := rfl
theorem items_l {x : List D} : itemsD (.lst x) = some x := rfl
theorem items_t {x : List D} : itemsD (.tup x) = some x := rfl
theorem r_rng1 {Ql : List D → Mu → Prop} : diRng1 tl τ M Ql E = tl τ M (fun ds M1 => rng1K (K := Ql) ⟨⟩ ds M1) E := pq Iff.rfl
theorem r_rng2 {Ql : List D → Mu → Prop} : diRng2 tl τ M Ql E = tl τ M (fun ds M1 => rng2K (K := Ql) ⟨⟩ ds M1) E := pq Iff.rfl
theorem rng1_i {j : Int} {Ql : List D → Mu → Prop} : rng1K (K := Ql) ⟨⟩ [.int j] M = (-(2 ^ 62) ≤ j ∧ j < 2 ^ 62 ∧ Ql (upTo 0 j.toNat) M) := pq Iff.rfl
theorem rng2_i {i j : Int} {Ql : List D → Mu → Prop} : rng2K (K := Ql) ⟨⟩ [.int i, .int j] M = ((-(2 ^ 62) ≤ i ∧ i < 2 ^ 62 ∧ -(2 ^ 62) ≤ j ∧ j < 2 ^ 62) ∧ Ql (upTo i (j - i).toNat) M) := pq Iff.rfl
theorem r_fz {i : Nat} {t : DTS} {D0 : DEnds} : dFz i t D0 τ M = fzK (K := fun a ds => t D0 (τ.set i (some (.lst ds))) (del M a)) ⟨⟩ τ[i]? M := by
  unfold dFz fzK
  cases τ[i]? with
  | none => rfl
  | some o => cases o with
    | none => rfl
    | some d => cases d with
      | ref a => show (match M a with | some (.lst ds) => t D0 (τ.set i (some (.lst ds))) (del M a) | _ => False) = (match M a with | some (.lst ds) => t D0 (τ.set i (some (.lst ds))) (del M a) | _ => False); rfl
      | _ => rfl
theorem fz_r {a : Addr} {k : Addr → List D → Prop} : fzK (K := k) ⟨⟩ (some (some (.ref a))) M = onML (K := fun ds => k a ds) ⟨⟩ (M a) := pq Iff.rfl
end
theorem onStr_s {y : Tx} {k : Tx → Prop} : onStr (K := k) ⟨⟩ (.str y) = k y := pq Iff.rfl
theorem fmt_s {y : Tx} {M : Mu} {Q : DK} : fmtK (K := Q) ⟨⟩ (.str y) M = (y.length ≤ 16777216 ∧ Q (.str y) M) := pq Iff.rfl
theorem fmt_i {i : Int} {M : Mu} {Q : DK} : fmtK (K := Q) ⟨⟩ (.int i) M = (i.natAbs.log2 < 1920 ∧ Q (.str (intT i)) M) := pq Iff.rfl
theorem ex_mk {nx : DSt → Mu → Prop} {rt : DK} {bk ct : DSt → Mu → Prop} {xc : XD → DSt → Mu → Prop} {τ : DSt} : DEnds.ex ⟨nx, rt, bk, ct, xc⟩ τ = (fun x M => xc x τ M) := funext fun _ => funext fun _ => pq Iff.rfl
section
variable {nx : DSt → Mu → Prop} {rt : DK} {bk ct : DSt → Mu → Prop} {xc : XD → DSt → Mu → Prop}
theorem nx_mk : DEnds.nx ⟨nx, rt, bk, ct, xc⟩ = nx := funext fun _ => funext fun _ => pq Iff.rfl
theorem rt_mk : DEnds.rt ⟨nx, rt, bk, ct, xc⟩ = rt := funext fun _ => funext fun _ => pq Iff.rfl
theorem bk_mk : DEnds.bk ⟨nx, rt, bk, ct, xc⟩ = bk := funext fun _ => funext fun _ => pq Iff.rfl
theorem ct_mk : DEnds.ct ⟨nx, rt, bk, ct, xc⟩ = ct := funext fun _ => funext fun _ => pq Iff.rfl
theorem xc_mk : DEnds.xc ⟨nx, rt, bk, ct, xc⟩ = xc := funext fun _ => funext fun _ => funext fun _ => pq Iff.rfl
end
section
variable {d : D} {g : DOp} {gu : DUn} {gc : DCb} {gm : DMt} {gs : DSet} {tg : DTG} {T : String} {ta tb te to : DTE} {t u : DTT} {tl : DTA} {sp : DSp} {a b : DTS} {ti : DTI} {i : Nat} {l h : DTO} {τ : DSt} {M : Mu} {Q : DK} {E : DX} {Qb : Bool → Mu → Prop} {Ql : List D → Mu → Prop} {Qo : Option Int → Mu → Prop} {Qs : DSt → Mu → Prop} {D0 : DEnds} {ts : List DTE} {acc : Tx} {Qt : Tx → Mu → Prop} {p : Addr} {Nx : Mu → Prop}
theorem u_c : dC d τ M Q E = Q d M := pq Iff.rfl
theorem u_op : dOp g ta tb τ M Q E = ta τ M (fun x M1 => tb τ M1 (fun y M2 => opK (K := Q) ⟨⟩ g x y M2) E) E := pq Iff.rfl
theorem u_un : dUn gu ta τ M Q E = ta τ M (fun x M1 => unK (K := Q) ⟨⟩ gu x M1) E := pq Iff.rfl
theorem u_and : dAnd t u τ M Qb E = t τ M (fun b M1 => if b = true then u τ M1 Qb E else Qb false M1) E := pq Iff.rfl
theorem u_or : dOr t u τ M Qb E = t τ M (fun b M1 => if b = true then Qb true M1 else u τ M1 Qb E) E := pq Iff.rfl
theorem u_not : dNot t τ M Qb E = t τ M (fun b M1 => Qb (!b) M1) E := pq Iff.rfl
theorem u_if : dIf t ta tb τ M Q E = t τ M (fun b M1 => if b = true then ta τ M1 Q E else tb τ M1 Q E) E := pq Iff.rfl
theorem u_anil : daNil τ M Ql E = Ql [] M := pq Iff.rfl
theorem u_acons : daCons te tl τ M Ql E = te τ M (fun d M1 => tl τ M1 (fun ds M2 => Ql (d :: ds) M2) E) E := pq Iff.rfl
theorem u_lst : dLst tl τ M Q E = tl τ M (fun ds M1 => ds.length ≤ 16777216 ∧ Q (.lst ds) M1) E := pq Iff.rfl
theorem u_lstM : dLstM tl τ M Q E = tl τ M (fun ds M1 => ds.length ≤ 16777216 ∧ ∀ p, M1 p = none → Q (.ref p) (put M1 p (.lst ds))) E := pq Iff.rfl
theorem u_tup : dTup tl τ M Q E = tl τ M (fun ds M1 => ds.length ≤ 16777216 ∧ Q (.tup ds) M1) E := pq Iff.rfl
theorem u_call : dCall sp tl τ M Q E = tl τ M (fun ds M1 => callK (K := Q) (L := E) ⟨⟩ ⟨⟩ sp ds M1) E := pq Iff.rfl
theorem u_sl : dSl te l h τ M Q E = te τ M (fun d M1 => l τ M1 (fun lo M2 => h τ M2 (fun hi M3 => slK (K := Q) ⟨⟩ d lo hi M3) E) E) E := pq Iff.rfl
theorem u_onone : doNone τ M Qo E = Qo none M := pq Iff.rfl
theorem u_cb : dCB gc tl τ M Q E = tl τ M (fun ds M1 => cbK (K := Q) ⟨⟩ gc ds M1) E := pq Iff.rfl
theorem u_mt : dMt T gm to tl τ M Q E = to τ M (fun d M1 => isTy T M1 d ∧ tl τ M1 (fun ds M2 => mtK (K := Q) ⟨⟩ gm d ds M2) E) E := pq Iff.rfl
theorem u_mt0 : dMt0 T gm to τ M Q E = to τ M (fun d M1 => isTy T M1 d ∧ mtK (K := Q) ⟨⟩ gm d [] M1) E := pq Iff.rfl
theorem u_pass : dPass D0 τ M = D0.nx τ M := pq Iff.rfl
theorem u_seq : dSeq a b D0 τ M = a { D0 with nx := b D0 } τ M := pq Iff.rfl
theorem u_set : dSet i te D0 τ M = te τ M (fun d M1 => D0.nx (τ.set i (some d)) M1) (D0.ex τ) := pq Iff.rfl
theorem u_asg : dAsg te tg D0 τ M = te τ M (fun d M1 => tg d τ M1 D0.nx (D0.ex τ)) (D0.ex τ) := pq Iff.rfl
theorem u_drop : dDrop te D0 τ M = te τ M (fun _ M1 => D0.nx τ M1) (D0.ex τ) := pq Iff.rfl
theorem u_ret : dRet te D0 τ M = te τ M D0.rt (D0.ex τ) := pq Iff.rfl
theorem u_retN : dRetN D0 τ M = D0.rt .non M := pq Iff.rfl
theorem u_ifs : dIfS t a b D0 τ M = t τ M (fun c M1 => if c = true then a D0 τ M1 else b D0 τ M1) (D0.ex τ) := pq Iff.rfl
theorem u_brk : dBrk D0 τ M = D0.bk τ M := pq Iff.rfl
theorem u_cnt : dCnt D0 τ M = D0.ct τ M := pq Iff.rfl
theorem u_for : dFor ti tg a D0 τ M = ti τ M (fun ds M1 => wFor tg a D0 ds τ M1) (D0.ex τ) := pq Iff.rfl
theorem u_gname : dgName i d τ M Qs E = Qs (τ.set i (some d)) M := pq Iff.rfl
theorem u_gsub : dgSub ta tb gs d τ M Qs E = ta τ M (fun o M1 => tb τ M1 (fun i M2 => setK (K := fun M3 => Qs τ M3) ⟨⟩ gs o i d M2) E) E := pq Iff.rfl
theorem u_fs : dFs ts τ M Q E = dJs ts [] τ M (fun out M1 => Q (.str out) M1) E := pq Iff.rfl
theorem u_fmt : dFmt te τ M Q E = te τ M (fun x M1 => fmtK (K := Q) ⟨⟩ x M1) E := pq Iff.rfl
theorem u_js0 : dJs [] acc τ M Qt E = Qt acc M := pq Iff.rfl
theorem u_js : dJs (te :: ts) acc τ M Qt E = te τ M (fun x M1 => onStr (K := fun y => (acc ++ y).length ≤ 16777216 ∧ dJs ts (acc ++ y) τ M1 Qt E) ⟨⟩ x) E := pq Iff.rfl
theorem u_em : dEm p te τ M Nx = te τ M (fun y M1 => ∃ acc, M1 p = some (.lst acc) ∧ acc.length < sizeLine ∧ Nx (put M1 p (.lst (acc ++ [y])))) noX := pq Iff.rfl
def onRef {K : Addr → Prop} (_ : Lk K) (d : D) : Prop := match d with
  | .ref a => K a
  | _ => False
theorem onRef_r {K : Addr → Prop} {a : Addr} : onRef (K := K) ⟨⟩ (.ref a) = K a := pq Iff.rfl
theorem u_dict {prs : List (DTE × DTE)} : dDict prs τ M Q E = ∀ p, M p = none → dPairs prs τ (put M p (.dK [])) (fun ps M2 => M2 p = some (.dK []) ∧ ∃ kvs : List (DKey × D), ps = kvs.map (fun q => (kD q.1, q.2)) ∧ kvs.length ≤ 15 ∧ Q (.ref p) (put M2 p (.dK (mergeD [] kvs)))) E := pq Iff.rfl
theorem u_dict0 : dDict0 τ M Q E = ∀ p, M p = none → Q (.ref p) (put M p (.dK [])) := pq Iff.rfl
theorem u_dp0 {Qp : List (D × D) → Mu → Prop} : dPairs [] τ M Qp E = Qp [] M := pq Iff.rfl
theorem u_dp1 {Qp : List (D × D) → Mu → Prop} {prs : List (DTE × DTE)} : dPairs ((ta, tb) :: prs) τ M Qp E = ta τ M (fun x M1 => tb τ M1 (fun y M2 => dPairs prs τ M2 (fun ps M3 => Qp ((x, y) :: ps) M3) E) E) E := pq Iff.rfl
def starK {K : List D → Mu → Prop} (_ : Lk K) (d : D) (M : Mu) : Prop := match d with
  | .lst xs => K xs M
  | .tup xs => K xs M
  | .ref a => (match M a with
    | some (.lst xs) => K xs M
    | _ => False)
  | _ => False
theorem star_l {xs : List D} : starK (K := Ql) ⟨⟩ (.lst xs) M = Ql xs M := pq Iff.rfl
theorem star_t {xs : List D} : starK (K := Ql) ⟨⟩ (.tup xs) M = Ql xs M := pq Iff.rfl
theorem star_r {a : Addr} : starK (K := Ql) ⟨⟩ (.ref a) M = onML (K := fun xs => Ql xs M) ⟨⟩ (M a) := pq Iff.rfl
theorem u_star : dStar te tl τ M Ql E = te τ M (fun d M1 => starK (K := fun xs M2 => tl τ M2 (fun ys M3 => Ql (xs ++ ys) M3) E) ⟨⟩ d M1) E := pq Iff.rfl
theorem u_ref {Qr : Addr × List D → Mu → Prop} : diRef te τ M Qr E = te τ M (fun d M1 => onRef (K := fun p => onML (K := fun ds => Qr (p, ds) M1) ⟨⟩ (M1 p)) ⟨⟩ d) E := by
  unfold diRef
  congr 1
theorem u_forR {tr : DTR} : dForR tr tg a D0 τ M = tr τ M (fun q M1 => wForR q.1 q.2 tg a D0 q.2 τ M1) (D0.ex τ) := pq Iff.rfl
theorem u_forK : dForK te tg a D0 τ M = te τ M (fun d M1 => onRef (K := fun p => onFK (K := fun kvs u => wForK p kvs u tg a D0 (keysOf kvs) τ M1) ⟨⟩ (M1 p)) ⟨⟩ d) (D0.ex τ) := pq Iff.rfl
theorem u_lock : dLock i a D0 τ M = onVar (K := fun d => onRef (K := fun p => onDK (K := fun kvs => ∀ u, a ⟨fun τ' M' => M' p = some (.fK kvs u) ∧ D0.nx τ' (put M' p (.dK kvs)), fun d M' => M' p = some (.fK kvs u) ∧ D0.rt d (put M' p (.dK kvs)), fun τ' M' => M' p = some (.fK kvs u) ∧ D0.bk τ' (put M' p (.dK kvs)),
    fun τ' M' => M' p = some (.fK kvs u) ∧ D0.ct τ' (put M' p (.dK kvs)), fun _ _ _ => False⟩ τ (put M p (.fK kvs u))) ⟨⟩ (M p)) ⟨⟩ d) ⟨⟩ τ[i]? := by
  unfold dLock
  cases τ[i]? with
  | none => rfl
  | some o => cases o with
    | none => rfl
    | some d => cases d with
      | _ => rfl
theorem u_kd {kvs : List (Tx × Tx)} : dKd kvs te τ M Q E = te τ M (fun d M1 => onStr (K := fun z => onSome (K := fun v => Q (.str v) M1) ⟨⟩ (kvs.lookup z)) ⟨⟩ d) E := by
  unfold dKd
  congr 1
  funext d M1
  cases d with
  | str z => show (match kvs.lookup z with | some v => Q (.str v) M1 | none => False) = onSome (K := fun v => Q (.str v) M1) ⟨⟩ (kvs.lookup z); cases kvs.lookup z <;> rfl
  | _ => rfl
theorem u_yes : dYes τ M Qb E = Qb true M := pq Iff.rfl
theorem u_never : dNever D0 τ M = False := pq Iff.rfl
end
end DL
namespace DL
open PySem L2 He
section
variable {X : Cx} {W : WX} {k : Nat} {A : Around} {g : Addr} {sp : Sp} {pins : List (Addr × Obj)} {σ : L2.St} {H : Hp} {s : Shared} {Q : VK} {us : List Value} {vs : List V}
theorem run_S (F : FnR X.prog X.w X.K X.mg X.base (L2N.CX X.prog X.w) k g sp) (tk : L2N.Takes X W) (hr : Room k A) (e0 : Env0 X.prog X.w X.K X.mg X.base A X.stack s H) (I : Inv X pins σ H s) (r : Vals vs us) (h : sp vs H Q (WE W σ)) :
    wpAny (model X.prog X.w) A (call (.ref g) us) (EP X pins σ Q) X.xe s := by
  refine wpAny_call (codeAny_mono (F A X.stack s H us vs Q (WE W σ) hr e0 r h) fun r s' hq => ?_)
  cases r with
  | error e => exact L2N.passAt tk σ pins H s e s' I hq
  | ok fl =>
    cases fl with
    | ret u => exact I.after hq
    | next => exact False.elim hq
    | brk => exact False.elim hq
    | cont => exact False.elim hq
end
structure FnC (P : Program) (w : World) (K : PySem.W.Frag) (mg : Str → Option Value) (base : Heap) (k : Nat) (C m : Str) (sp : DSp) : Prop where
  at_ : PySem.W.findIn K (.ref (ga K C)) m = some (some (.ref (ma K (ga K C) m)))
  fn : PySem.W.isFn K (.ref (ma K (ga K C) m)) = true
  kp : PySem.W.keepIn K (.ref (ma K (ga K C) m)) = true
  run : FnR P w K mg base (L2N.CX P w) k (ma K (ga K C) m) (lsp K sp)
theorem FnC.mono {P : Program} {w : World} {K : PySem.W.Frag} {mg : Str → Option Value} {base : Heap} {j k : Nat} {C m : Str} {sp : DSp} (F : FnC P w K mg base j C m sp) (h : j ≤ k) : FnC P w K mg base k C m sp := ⟨F.at_, F.fn, F.kp, F.run.mono h⟩
theorem _root_.L2.FnOk.fnR {P : Program} {w : World} {K : PySem.W.Frag} {mg : Str → Option Value} {base : Heap} {CX : CXT} {k : Nat} {f : Addr} {fd : FuncData} {ps : List Str} {sp : Sp} (F : FnOk P w K mg base CX k f fd ps sp) (hb : Binds K fd ps []) : FnR P w K mg base CX k f sp := by
  have q := F.raw hb .nil
  simpa using q
theorem FnC.of {P : Program} {w : World} {K : PySem.W.Frag} {mg : Str → Option Value} {base : Heap} {k : Nat} {C m : Str} {fd : FuncData} {ps : List Str} {sp : DSp} (F : FnOk P w K mg base (L2N.CX P w) k (ma K (ga K C) m) fd ps (lsp K sp))
    (M : Meth K (ga K C) m (ma K (ga K C) m)) (hb : Binds K fd ps []) : FnC P w K mg base k C m sp := ⟨M.at_, M.fn, M.kp, F.fnR hb⟩
theorem FnC.meth {P : Program} {w : World} {K : PySem.W.Frag} {mg : Str → Option Value} {base : Heap} {k : Nat} {C m : Str} {sp : DSp} (F : FnC P w K mg base k C m sp) : Meth K (ga K C) m (ma K (ga K C) m) := ⟨F.at_, F.fn, F.kp⟩
section
variable {K : PySem.W.Frag} {W : WX} {τ : DSt} {M : Mu} {σ : L2.St} {H : Hp} {E0 : DX} {sp : DSp} {ds : List D} {vs : List V} {G : DK} {Q1 : VK}
theorem Sit.call {α β : Type} {R : Mu → Hp → α → β → Prop} {Q0 : α → Mu → Prop} {Q : β → Hp → Prop} (S : Sit K W R τ M σ H Q0 E0 Q) (r : Reps K M H ds vs) (h : sp ds M G E0)
    (k : ∀ d M1 v H1, G d M1 → Rep K M1 H1 d v → Sit K W R τ M1 σ H1 Q0 E0 Q → Stp M H M1 H1 → Q1 v H1) : lsp K sp vs H Q1 (WE W σ) :=
  ⟨ds, M, G, E0, r, S.co, h, fun d M' v H' g r c s => k d M' v H' g r (S.go c s) s, S.e⟩
theorem SitS.call {D0 : DEnds} {D1 : Ends} (S : SitS K W τ M σ H D0 D1) (r : Reps K M H ds vs) (h : sp ds M G (D0.ex τ))
    (k : ∀ d M1 v H1, G d M1 → Rep K M1 H1 d v → SitS K W τ M1 σ H1 D0 D1 → Stp M H M1 H1 → Q1 v H1) : lsp K sp vs H Q1 (WE W σ) :=
  ⟨ds, M, G, D0.ex τ, r, S.co, h, fun d M' v H' g r c s => k d M' v H' g r (S.go (S.rs.stp s) c s) s, fun x M' c d H' h r c' s => S.xc x τ M' c d σ H' h r (S.rs.stp s) c' s⟩
theorem SitG.call {Q0 : DSt → Mu → Prop} {Q : L2.St → Hp → Prop} (S : SitG K W τ M σ H Q0 E0 Q) (r : Reps K M H ds vs) (h : sp ds M G E0)
    (k : ∀ d M1 v H1, G d M1 → Rep K M1 H1 d v → SitG K W τ M1 σ H1 Q0 E0 Q → Stp M H M1 H1 → Q1 v H1) : lsp K sp vs H Q1 (WE W σ) :=
  ⟨ds, M, G, E0, r, S.co, h, fun d M' v H' g r c s => k d M' v H' g r ⟨S.rs.stp s, c, fun a b c d h r' c' s' => S.q a b c d h r' c' (s.trans s'), fun x M' c d H' h r c' s' => S.e x M' c d H' h r c' (s.trans s')⟩ s, S.e⟩
theorem mu_ins {a : Addr} {C : Str} {fs : List (Str × D)} (c : Cor K M H) (e : M a = some (.ins C fs)) : ∃ dx gs, H a = some (.ins (ga K C) dx gs) ∧ gs.map (·.1) = fs.map (·.1) ∧ Reps K M H (fs.map (·.2)) (gs.map (·.2)) := by
  obtain ⟨o, h1, dx, gs, rfl, h2, h3⟩ := c a _ e
  exact ⟨dx, gs, h1, h2, h3⟩
end
def putG {α : Type} (f : Str) (x : α) : List (Str × α) → List (Str × α)
  | [] => [(f, x)]
  | (g, y) :: r => if g = f then (g, x) :: r else (g, y) :: putG f x r
section
variable {K : PySem.W.Frag} {M : Mu} {H : Hp}
theorem fld_get {f : Str} : ∀ {fs : List (Str × D)} {gs : List (Str × V)} {d : D}, gs.map (·.1) = fs.map (·.1) → Reps K M H (fs.map (·.2)) (gs.map (·.2)) → fs.lookup f = some d → ∃ v, gs.lookup f = some v ∧ Rep K M H d v
  | [], _, _, _, _, e => by cases e
  | (g, x) :: r, [], _, h, _, _ => by cases h
  | (g, x) :: r, (g', y) :: r', d, h, hr, e => by
    obtain ⟨h1, h2⟩ := List.cons.inj h
    have h1 : g' = g := h1
    subst h1
    obtain ⟨v, u, e1, r1, r2⟩ := hr.uncons
    obtain ⟨e2, e3⟩ := List.cons.inj e1
    subst e2 e3
    rw [List.lookup_cons] at e ⊢
    cases q : (f == g') with
    | true =>
      rw [q] at e
      cases e
      exact ⟨_, rfl, r1⟩
    | false =>
      rw [q] at e
      exact fld_get h2 r2 e
theorem fld_put {f : Str} {d : D} {v : V} (rd : Rep K M H d v) : ∀ {fs : List (Str × D)} {gs : List (Str × V)}, gs.map (·.1) = fs.map (·.1) → Reps K M H (fs.map (·.2)) (gs.map (·.2)) →
    (putF f v gs).map (·.1) = (putG f d fs).map (·.1) ∧ Reps K M H ((putG f d fs).map (·.2)) ((putF f v gs).map (·.2))
  | [], [], _, _ => ⟨rfl, .cons rd .nil⟩
  | [], _ :: _, h, _ => by cases h
  | _ :: _, [], h, _ => by cases h
  | (g, x) :: r, (g', y) :: r', h, hr => by
    obtain ⟨h1, h2⟩ := List.cons.inj h
    have h1 : g' = g := h1
    subst h1
    obtain ⟨w, u, e1, r1, r2⟩ := hr.uncons
    obtain ⟨e2, e3⟩ := List.cons.inj e1
    subst e2 e3
    unfold putF putG
    by_cases q : g' = f
    · rw [if_pos q, if_pos q]
      exact ⟨congrArg (g' :: ·) h2, .cons rd r2⟩
    · rw [if_neg q, if_neg q]
      obtain ⟨i1, i2⟩ := fld_put rd h2 r2
      exact ⟨congrArg (g' :: ·) i1, .cons r1 i2⟩
end
def dFld (C f : Str) (te : DTE) : DTE := fun τ M Q E => te τ M (fun d M1 => match d with
  | .ref a => (match M1 a with
    | some (.ins c fs) => c = C ∧ (match fs.lookup f with
      | some x => Q x M1
      | none => False)
    | _ => False)
  | _ => False) E
def dSetF (C f : Str) (to tv : DTE) : DTS := fun D0 τ M => tv τ M (fun y M1 => to τ M1 (fun d M2 => match d with
  | .ref a => (match M2 a with
    | some (.ins c fs) => c = C ∧ fs.length < 1000 ∧ D0.nx τ (put M2 a (.ins C (putG f y fs)))
    | _ => False)
  | _ => False) (D0.ex τ)) (D0.ex τ)
def dMake (C : Str) (sp : DSp) (ta : DTA) : DTE := fun τ M Q E => ta τ M (fun ds M1 => ∀ p, M1 p = none → sp (.ref p :: ds) (put M1 p (.ins C [])) (fun d M2 => d = .non ∧ Q (.ref p) M2) E) E
def isIns (C : Str) (M : Mu) (d : D) : Prop := match d with
  | .ref a => (match M a with
    | some (.ins c _) => c = C
    | _ => False)
  | _ => False
def dBinL (C : Str) (sp : DSp) (ta tb : DTE) : DTE := fun τ M Q E => ta τ M (fun x M1 => tb τ M1 (fun y M2 => isIns C M2 x ∧ ((∃ z, y = .str z) ∨ isIns C M2 y) ∧ sp [x, y] M2 Q E) E) E
def dBinR (C : Str) (sp : DSp) (ta tb : DTE) : DTE := fun τ M Q E => ta τ M (fun x M1 => tb τ M1 (fun y M2 => (∃ z, x = .str z) ∧ isIns C M2 y ∧ sp [y, x] M2 Q E) E) E
def dInO (C : Str) (sp : DSp) (ta tb : DTE) : DTE := fun τ M Q E => ta τ M (fun y M1 => tb τ M1 (fun x M2 => isIns C M2 x ∧ sp [x, y] M2 (fun r M3 => match r with
  | .bl b => Q (.bl b) M3
  | _ => False) E) E) E
def dGetO (C : Str) (sp : DSp) (ta tb : DTE) : DTE := fun τ M Q E => ta τ M (fun x M1 => tb τ M1 (fun y M2 => isIns C M2 x ∧ sp [x, y] M2 Q E) E) E
def dgSetO (C : Str) (sp : DSp) (to ti : DTE) : DTG := fun d τ M Q E => to τ M (fun x M1 => ti τ M1 (fun y M2 => isIns C M2 x ∧ sp [x, y, d] M2 (fun _ M3 => Q τ M3) E) E) E
def dAugO (C : Str) (sp : DSp) (i : Nat) (te : DTE) : DTS := fun D0 τ M => match τ[i]? with
  | some (some x) => te τ M (fun y M1 => isIns C M1 x ∧ sp [x, y] M1 (fun r M2 => D0.nx (τ.set i (some r)) M2) (D0.ex τ)) (D0.ex τ)
  | _ => False
def onRows (C f : Str) (M : Mu) (d : D) (K : List D → Prop) : Prop := match d with
  | .ref a => (match M a with
    | some (.ins c fs) => c = C ∧ (match fs.lookup f with
      | some (.lst ds) => K ds
      | _ => False)
    | _ => False)
  | _ => False
def gLenO (C f : Str) : DCb := fun xs M Q => match xs with
  | [d] => onRows C f M d fun ds => Q (.int ds.length) M
  | _ => False
def gListO (C f : Str) : DCb := fun xs M Q => match xs with
  | [d] => onRows C f M d fun ds => Q (.lst ds) M
  | _ => False
def gListOM (C f : Str) : DCb := fun xs M Q => match xs with
  | [d] => onRows C f M d fun ds => ∀ p, M p = none → Q (.ref p) (put M p (.lst ds))
  | _ => False
theorem isIns_at {C : Str} {K : PySem.W.Frag} {M : Mu} {H : Hp} {x : D} {v : V} (h : isIns C M x) (r : Rep K M H x v) (c : Cor K M H) : ∃ a fs dx gs, x = .ref a ∧ v = .ref a ∧ M a = some (.ins C fs) ∧ H a = some (.ins (ga K C) dx gs) ∧ gs.map (·.1) = fs.map (·.1) := by
  cases x with
  | ref a =>
    cases r
    have h2 : (match M a with
      | some (.ins c _) => c = C
      | _ => False) := h
    cases e : M a with
    | none => rw [e] at h2; exact h2.elim
    | some mo =>
      rw [e] at h2
      cases mo with
      | ins c' fs =>
        cases h2
        obtain ⟨dx, gs, h1, h3, _⟩ := mu_ins c e
        exact ⟨a, fs, dx, gs, rfl, rfl, e, h1, h3⟩
      | _ => exact h2.elim
  | _ => exact h.elim
end DL
namespace DL
open PySem L2 He
abbrev FC (X : Cx) (k : Nat) (C m : Str) (sp : DSp) : Prop := FnC X.prog X.w X.K X.mg X.base k C m sp
section
variable {X : Cx} {W : WX} {a b e o i : Expr} {es : List Expr} {ta tb te to tv ti : DTE} {tl : DTA} {C f m x : Str} {sp : DSp} {k : Nat} {pos pos' apos p p2 : Pos}
theorem de_cls (hm : X.mg C = some (.ref (ga X.K C))) (hg : Gl X C := by rfl) (hd : (C == ("__debug__" : Str)) = false := by decide) : DE X W (.Name C pos) (dC (.cl C)) :=
  de_glob (v := .ref (ga X.K C)) hg hm rfl (fun M H => rfl) hd
theorem de_fld (c : Cls X.K (ga X.K C)) (n : NoAttr X.K (ga X.K C) f) (he : DE X W e te) (hb : attributeBase e f X.env (eval e X.env) = eval e X.env := by rfl) : DE X W (.Attribute e f pos) (dFld C f te) :=
  PE.of (pe_fld he hb) fun σ H Q ⟨τ, M, Q0, E0, S, h⟩ => S.sub h fun d M1 v H1 h1 r1 S1 s1 => by
    cases d with
    | ref a =>
      cases r1
      have h2 : (match M1 a with
        | some (.ins c fs) => c = C ∧ (match fs.lookup f with
          | some x => Q0 x M1
          | none => False)
        | _ => False) := h1
      cases q : M1 a with
      | none => rw [q] at h2; exact h2.elim
      | some mo =>
        rw [q] at h2
        cases mo with
        | ins c' fs =>
          obtain ⟨h3, h4⟩ := h2
          subst h3
          obtain ⟨dx, gs, g1, g2, g3⟩ := mu_ins S1.co q
          cases e1 : fs.lookup f with
          | none => rw [e1] at h4; exact h4.elim
          | some y =>
            rw [e1] at h4
            obtain ⟨v, g4, g5⟩ := fld_get g2 g3 e1
            exact ⟨a, _, dx, gs, v, rfl, g1, c, n, g4, S1.end_ h4 g5⟩
        | _ => exact h2.elim
    | _ => exact h1.elim
theorem ds_setF (c : Cls X.K (ga X.K C)) (n : NoAttr X.K (ga X.K C) f) (ho : DE X W o to) (hv : DE X W e tv) (hs : swapsWith e (some (.Attribute o f pos')) pos.line X.env = pure false := by rfl) : DS X W (.Assign [.Attribute o f pos'] e pos) (dSetF C f to tv) :=
  PS.of (ps_fld ho hv hs) fun D1 σ H ⟨τ, M, D0, S, h⟩ => S.sub h fun y M1 v1 H1 h1 r1 S1 s1 => S1.sub h1 fun d M2 v2 H2 h2 r2 S2 s2 => by
    cases d with
    | ref a =>
      cases r2
      have h3 : (match M2 a with
        | some (.ins c fs) => c = C ∧ fs.length < 1000 ∧ D0.nx τ (put M2 a (.ins C (putG f y fs)))
        | _ => False) := h2
      cases q : M2 a with
      | none => rw [q] at h3; exact h3.elim
      | some mo =>
        rw [q] at h3
        cases mo with
        | ins c' fs =>
          obtain ⟨h4, h5, h6⟩ := h3
          subst h4
          obtain ⟨dx, gs, g1, g2, g3⟩ := mu_ins S2.co q
          obtain ⟨p1, p3⟩ := fld_put (f := f) (r1.stp s2) g2 g3
          have hl := congrArg List.length g2
          rw [List.length_map, List.length_map] at hl
          have st : Stp M2 H2 (put M2 a (.ins c' (putG f y fs))) (upd H2 a (.ins (ga X.K c') dx (putF f v1 gs))) := Stp.write q
          exact ⟨a, _, dx, gs, rfl, g1, c, n, by rw [hl]; exact h5, S2.nx τ _ σ _ h6 (S2.rs.stp st) (S2.co.write q ⟨dx, _, rfl, p1, p3⟩) st⟩
        | _ => exact h3.elim
    | _ => exact h2.elim
theorem run_makeS {pins : List (Addr × Obj)} {σ : L2.St} {H : Hp} {s : Shared} {Q : VK} {us : List Value} {vs : List V} {Ca fa : Addr} {spv : Sp} (M : Mk X.K Ca fa) (F : FnR X.prog X.w X.K X.mg X.base (L2N.CX X.prog X.w) k fa spv) (tk : L2N.Takes X W) (hr : Room (k + 1) X.A) (I : Inv X pins σ H s) (r : Vals vs us)
    (h : ∀ x dx, H x = Option.none → H dx = Option.none → dx ≠ x → spv (V.ref x :: vs) (upd (upd H dx (.own x)) x (.ins Ca dx [])) (fun v H2 => v = .non ∧ Q (.ref x) H2) (WE W σ)) :
    wpAny (model X.prog X.w) X.A (call (.ref Ca) us) (EP X pins σ Q) X.xe s := by
  have hq := h (s.heap.objs.size + 1) s.heap.objs.size (I.hok.fresh (Nat.le_succ _)) (I.hok.fresh (Nat.le_refl _)) (Nat.ne_of_lt (Nat.lt_succ_self _))
  have I2 := Inv.made (C := Ca) I
  have r2 : Vals (V.ref (s.heap.objs.size + 1) :: vs) (Value.ref (s.heap.objs.size + 1) :: us) := .cons rfl r
  refine wpAny_call (make_map (f := fa) I.kIn M.makes M.init (beq_iff_eq.mp M.fn) (codeAny_mono (F _ X.stack _ _ (Value.ref (s.heap.objs.size + 1) :: us) _ _ (WE W σ) (hr.make Ca us []) (I2.env0.make Ca us []) r2 hq) fun r s' hq' => ?_))
  cases r with
  | error e => exact L2N.passAt tk σ pins _ _ e s' I2 hq'
  | ok fl =>
    cases fl with
    | ret u =>
      obtain ⟨v, H', I3, rv, ev, q3⟩ := I2.after hq'
      subst ev
      exact ⟨rv, ⟨V.ref (s.heap.objs.size + 1), H', I3, rfl, q3⟩⟩
    | next => exact False.elim hq'
    | brk => exact False.elim hq'
    | cont => exact False.elim hq'
theorem make_of {τ : DSt} {M : Mu} {σ : L2.St} {H : Hp} {Q0 : DK} {E0 : DX} {Q : VK} {ds : List D} {vs : List V} (S : Sit X.K W (RD X.K) τ M σ H Q0 E0 Q) (r : Reps X.K M H ds vs)
    (h : ∀ p, M p = none → sp (.ref p :: ds) (put M p (.ins C [])) (fun d M2 => d = .non ∧ Q0 (.ref p) M2) E0) (x dx : Addr) (hx : H x = none) (hd : H dx = none) (hn : dx ≠ x) :
    lsp X.K sp (V.ref x :: vs) (upd (upd H dx (.own x)) x (.ins (ga X.K C) dx [])) (fun v H2 => v = .non ∧ Q (.ref x) H2) (WE W σ) := by
  have s1 : Stp M H M (upd H dx (.own x)) := Stp.new hd
  have hx' : upd H dx (.own x) x = none := by rw [upd_ne (Ne.symm hn)]; exact hx
  have s2 : Stp M (upd H dx (.own x)) (put M x (.ins C [])) (upd (upd H dx (.own x)) x (.ins (ga X.K C) dx [])) := Stp.newM hx'
  have st := s1.trans s2
  exact ⟨.ref x :: ds, _, _, E0, .cons rfl (r.stp st), (S.co.new hd).newM hx' ⟨dx, [], rfl, rfl, .nil⟩, h x (S.co.free hx),
    fun d M' v H' q r c s' => by obtain ⟨rfl, q⟩ := q; exact ⟨r, S.q _ M' _ H' q rfl c (st.trans s')⟩, fun y M' c d H' q r c' s' => S.e y M' c d H' q r c' (st.trans s')⟩
theorem de_make (F : FC X k C "__init__" sp) (M : Mk X.K (ga X.K C) (ma X.K (ga X.K C) "__init__")) (G : Gd X W) (hm : X.mg C = some (.ref (ga X.K C))) (hr : Room (k + 1) X.A) (ha : DA X W (e :: es) tl) (hg : Gl X C := by rfl) (hdb : (C == ("__debug__" : Str)) = false := by decide)
    (he : starEach (e :: es) X.env = (false, eval e X.env) :: starEach es X.env := by rfl) (hpl : (backTo pos (starEach es X.env)).any (·.1) = false := by rfl) : DE X W (.Call (.Name C p) (e :: es) [] pos) (dMake C sp tl) := by
  refine ⟨fun pins s σ H Q I h => ?_⟩
  refine wpAny_Call_Name_kw (ld_glob I hg hm ?_ hdb)
  obtain ⟨τ, M0, Q0, E0, S, h⟩ := h
  refine PySem.W.callWith_K (h₀ := X.base) I.ok.mod.kin M.kp (thn (ha.run pos pins s σ H _ I (S.sub (Q1 := fun vs H1 => ∀ x dx, H1 x = none → H1 dx = none → dx ≠ x → lsp X.K sp (V.ref x :: vs) (upd (upd H1 dx (.own x)) x (.ins (ga X.K C) dx [])) (fun v H2 => v = .non ∧ Q (.ref x) H2) (WE W σ)) h
    fun ds M1 vs H1 h1 r1 S1 s1 => make_of S1 r1 h1)) fun us s1 ⟨vs, H1, I1, r, q⟩ => ⟨I1.kIn, ?_⟩) he hpl
  exact run_makeS M F.run G.tk hr I1 r q
end
end DL
namespace DL
open PySem L2 He
section
variable {X : Cx} {W : WX} {a b e o i : Expr} {es : List Expr} {ta tb te to tv ti : DTE} {tl : DTA} {C f m x : Str} {sp : DSp} {k : Nat} {pos pos' apos p p2 : Pos}
theorem run_C {pins : List (Addr × Obj)} {σ : L2.St} {H : Hp} {s : Shared} {Q : VK} {us : List Value} {vs : List V} {A : Around} (F : FC X k C m sp) (G : Gd X W) (hr : Room k A) (e0 : Env0 X.prog X.w X.K X.mg X.base A X.stack s H) (I : Inv X pins σ H s) (r : Vals vs us)
    (h : lsp X.K sp vs H Q (WE W σ)) : wpAny (model X.prog X.w) A (call (.ref (ma X.K (ga X.K C) m)) us) (EP X pins σ Q) X.xe s := run_S F.run G.tk hr e0 I r h
end
end DL
namespace DL
open PySem L2 He
section
variable {X : Cx} {W : WX} {a b e o i : Expr} {es : List Expr} {ta tb te to tv ti : DTE} {tl : DTA} {C f m x : Str} {sp : DSp} {k : Nat} {pos pos' apos p p2 : Pos}
end
end DL
namespace DL
open PySem L2 He
section
open PySem.W PySem.Calls PyProof.Rows
variable {prog : Program} {w : World} {A : Around} {E : Value → Shared → Prop} {s : Shared} {K : Frag} {x C L f f1 : Addr} {h₀ : Heap} {m : Str → Option Value} {ox : Obj} {od : Option Obj}
end
section
variable {X : Cx} {W : WX} {a b e o i : Expr} {es : List Expr} {ta tb te to tv ti : DTE} {tl : DTA} {C f m x : Str} {sp : DSp} {k : Nat} {pos pos' apos p p2 : Pos}
def dInv (C : Str) (sp : DSp) (te : DTE) : DTE := fun τ M Q E => te τ M (fun d M1 => isIns C M1 d ∧ sp [d] M1 Q E) E
theorem lookup_none {f : Str} : ∀ {fs : List (Str × D)} {gs : List (Str × V)}, gs.map (·.1) = fs.map (·.1) → (¬ f ∈ fs.map (·.1)) → gs.lookup f = none
  | [], [], _, _ => rfl
  | [], _ :: _, h, _ => by cases h
  | _ :: _, [], h, _ => by cases h
  | (g, x) :: r, (g', y) :: r', h, n => by
    obtain ⟨h1, h2⟩ := List.cons.inj h
    have h1 : g' = g := h1
    subst h1
    rw [List.lookup_cons]
    have q : (f == g') = false := Bool.eq_false_iff.mpr fun z => n (by rw [beq_iff_eq.mp z]; exact List.mem_cons_self ..)
    rw [q]
    exact lookup_none h2 fun z => n (List.mem_cons_of_mem _ z)
def noF (M : Mu) (m : Str) (d : D) : Prop := match d with
  | .ref a => (match M a with
    | some (.ins _ fs) => ¬ m ∈ fs.map (·.1)
    | _ => False)
  | _ => False
theorem noF_at {m : Str} {M : Mu} {a : Addr} {c : Str} {fs : List (Str × D)} (h : noF M m (.ref a)) (e : M a = some (.ins c fs)) : ¬ m ∈ fs.map (·.1) := by
  have h2 : (match M a with
    | some (.ins _ fs) => ¬ m ∈ fs.map (·.1)
    | _ => False) := h
  rw [e] at h2
  exact h2
def dMeth (C m : Str) (sp : DSp) (to : DTE) (ta : DTA) : DTE := fun τ M Q E => to τ M (fun x M1 => isIns C M1 x ∧ noF M1 m x ∧ ta τ M1 (fun ds M2 => sp (x :: ds) M2 Q E) E) E
theorem de_meth {pl : Sem Bool} (F : FC X k C m sp) (c : Cls X.K (ga X.K C)) (G : Gd X W) (hr : Room k X.A) (ho : DE X W o to) (ha : DA X W (e :: es) tl)
    (hst : starEach (e :: es) X.env = (false, eval e X.env) :: starEach es X.env := by rfl) (hpl : (backTo pos (starEach es X.env)).any (·.1) = false := by rfl)
    (ht : eval (.Call (.Attribute o m apos) (e :: es) [] pos) X.env = (do
      let ov ← eval o X.env
      standAt apos.atName
      let (f, first) ← holding [ov] (getMethod ov m pl)
      callWith pos f first (backTo pos (starEach (e :: es) X.env)) (backToKw pos (keywordEach [] X.env))) := by rfl) : DE X W (.Call (.Attribute o m apos) (e :: es) [] pos) (dMeth C m sp to tl) := by
  refine ⟨fun pins s σ H Q I h => ?_⟩
  obtain ⟨τ, M, Q0, E0, S, h⟩ := h
  refine PySem.W.methodCall_KW (pl := pl) (thn (ho.run pins s σ H _ I (S.sub (Q1 := fun u H1 => ∃ y M1, Rep X.K M1 H1 y u ∧ Sit X.K W (RD X.K) τ M1 σ H1 Q0 E0 Q ∧ isIns C M1 y ∧ noF M1 m y ∧ tl τ M1 (fun ds M2 => sp (y :: ds) M2 Q0 E0) E0) h fun d M1 v H1 h1 r1 S1 s1 => ⟨d, M1, r1, S1, h1⟩)) fun u s1 ⟨uv, H1, I1, ru, y, M1, ry, S1, h1, h2, h3⟩ => ?_) ht
  obtain ⟨a, fs, dx, gs, rfl, rfl, hM, hH, hk⟩ := isIns_at h1 ry S1.co
  cases ru
  refine getmeth_ok I1 hH c F.meth (lookup_none hk (noF_at h2 hM)) ?_
  refine PySem.W.callWith_K (first := [.ref a]) (h₀ := X.base) I1.ok.mod.kin F.kp (thn (ha.run pos pins s1 σ H1 _ I1 (S1.sub (Q1 := fun vs H2 => lsp X.K sp (V.ref a :: vs) H2 Q (WE W σ)) h3 fun ds M2 vs H2 h4 r4 S4 s4 => S4.call (.cons (ry.stp s4) r4) h4 fun d M5 z H5 h5 r5 S5 s5 => S5.end_ h5 r5)) fun us s2 ⟨vs, H2, I2, r, q2⟩ => ⟨I2.kIn, ?_⟩) hst hpl
  exact run_C (us := .ref a :: us) (vs := .ref a :: vs) F G hr I2.env0 I2 (.cons rfl r) q2
theorem de_meth0 {pl : Sem Bool} (F : FC X k C m sp) (c : Cls X.K (ga X.K C)) (G : Gd X W) (hr : Room k X.A) (ho : DE X W o to)
    (ht : eval (.Call (.Attribute o m apos) [] [] pos) X.env = (do
      let ov ← eval o X.env
      standAt apos.atName
      let (f, first) ← holding [ov] (getMethod ov m pl)
      callWith pos f first (backTo pos (starEach [] X.env)) (backToKw pos (keywordEach [] X.env))) := by rfl) : DE X W (.Call (.Attribute o m apos) [] [] pos) (dMeth C m sp to daNil) := by
  refine ⟨fun pins s σ H Q I h => ?_⟩
  obtain ⟨τ, M, Q0, E0, S, h⟩ := h
  refine PySem.W.methodCall_KW (pl := pl) (thn (ho.run pins s σ H _ I (S.sub (Q1 := fun u H1 => ∃ y M1, Rep X.K M1 H1 y u ∧ Sit X.K W (RD X.K) τ M1 σ H1 Q0 E0 Q ∧ isIns C M1 y ∧ noF M1 m y ∧ daNil τ M1 (fun ds M2 => sp (y :: ds) M2 Q0 E0) E0) h fun d M1 v H1 h1 r1 S1 s1 => ⟨d, M1, r1, S1, h1⟩)) fun u s1 ⟨uv, H1, I1, ru, y, M1, ry, S1, h1, h2, h3⟩ => ?_) ht
  obtain ⟨a, fs, dx, gs, rfl, rfl, hM, hH, hk⟩ := isIns_at h1 ry S1.co
  cases ru
  refine getmeth_ok I1 hH c F.meth (lookup_none hk (noF_at h2 hM)) ?_
  exact PySem.W.callWith_K0 (first := [.ref a]) I1.kIn F.kp (run_C (us := [.ref a]) (vs := [.ref a]) F G hr I1.env0 I1 (.cons rfl .nil) (S1.call (.cons ry .nil) h3 fun d M5 z H5 h5 r5 S5 s5 => S5.end_ h5 r5))
end
end DL
namespace DL
open PySem L2 He
section
variable {X : Cx} {W : WX} {a b e o i : Expr} {es : List Expr} {ta tb te to tv ti : DTE} {tl : DTA} {C f m x : Str} {sp : DSp} {k : Nat} {pos pos' apos p p2 : Pos}
def dPrp (C : Str) (sp : DSp) (te : DTE) : DTE := fun τ M Q E => te τ M (fun d M1 => isIns C M1 d ∧ sp [d] M1 Q noX) E
def gIsC (C : Str) : DCb := fun xs M Q => match xs with
  | [d, .cl c] => c = C ∧ ((isIns C M d ∧ Q (.bl true) M) ∨ ((∃ n, tyD M d = some n) ∧ Q (.bl false) M))
  | _ => False
end
end DL
namespace DL
open PySem L2 He
section
variable {X : Cx} {W : WX} {C f : Str} {pins : List (Addr × Obj)} {σ : L2.St} {H : Hp} {s : Shared}
end
end DL
namespace DL
open PySem L2 He
section
variable {X : Cx} {W : WX} {C f : Str} {pins : List (Addr × Obj)} {σ : L2.St} {H : Hp} {s : Shared}
end
section
variable {K : PySem.W.Frag} {C f : Str}
end
end DL
namespace DL
open PySem L2 He
def onIns {K : List (Str × D) → Prop} (C : Str) (_ : Lk K) (o : Option MO) : Prop := match o with
  | some (.ins c fs) => c = C ∧ K fs
  | _ => False
theorem onIns_i {K : List (Str × D) → Prop} {C : Str} {fs : List (Str × D)} : onIns (K := K) C ⟨⟩ (some (.ins C fs)) = K fs := by show (C = C ∧ K fs) = K fs; simp
def onLst {K : List D → Prop} (_ : Lk K) (d : D) : Prop := match d with
  | .lst ds => K ds
  | _ => False
theorem onLst_l {K : List D → Prop} {ds : List D} : onLst (K := K) ⟨⟩ (.lst ds) = K ds := pq Iff.rfl
def isInsM (C : Str) (o : Option MO) : Prop := match o with
  | some (.ins c _) => c = C
  | _ => False
theorem isIns_r {C : Str} {M : Mu} {a : Addr} : isIns C M (.ref a) = isInsM C (M a) := pq Iff.rfl
theorem isInsM_i {C : Str} {fs : List (Str × D)} : isInsM C (some (.ins C fs)) = True := by show (C = C) = True; simp
def noFM (m : Str) (o : Option MO) : Prop := match o with
  | some (.ins _ fs) => ¬ m ∈ fs.map (·.1)
  | _ => False
theorem noF_r {m : Str} {M : Mu} {a : Addr} : noF M m (.ref a) = noFM m (M a) := pq Iff.rfl
theorem noFM_i {m C : Str} {fs : List (Str × D)} : noFM m (some (.ins C fs)) = ¬ m ∈ fs.map (·.1) := pq Iff.rfl
section
variable {C f m : Str} {sp : DSp} {ta tb te to tv ti : DTE} {tl : DTA} {τ : DSt} {M : Mu} {Q : DK} {E : DX} {D0 : DEnds} {i : Nat} {Qs : DSt → Mu → Prop} {d : D}
theorem u_fld : dFld C f te τ M Q E = te τ M (fun d M1 => onRef (K := fun a => onIns (K := fun fs => onSome (K := fun x => Q x M1) ⟨⟩ (fs.lookup f)) C ⟨⟩ (M1 a)) ⟨⟩ d) E := by
  unfold dFld
  congr 1
  funext d M1
  cases d with
  | ref a =>
    show (match M1 a with
      | some (.ins c fs) => c = C ∧ (match fs.lookup f with
        | some x => Q x M1
        | none => False)
      | _ => False) = onIns (K := fun fs => onSome (K := fun x => Q x M1) ⟨⟩ (fs.lookup f)) C ⟨⟩ (M1 a)
    cases M1 a with
    | none => rfl
    | some mo => cases mo with
      | ins c fs => show (c = C ∧ (match fs.lookup f with
        | some x => Q x M1
        | none => False)) = (c = C ∧ onSome (K := fun x => Q x M1) ⟨⟩ (fs.lookup f)); cases fs.lookup f <;> rfl
      | _ => rfl
  | _ => rfl
theorem u_setF : dSetF C f to tv D0 τ M = tv τ M (fun y M1 => to τ M1 (fun d M2 => onRef (K := fun a => onIns (K := fun fs => fs.length < 1000 ∧ D0.nx τ (put M2 a (.ins C (putG f y fs)))) C ⟨⟩ (M2 a)) ⟨⟩ d) (D0.ex τ)) (D0.ex τ) := pq Iff.rfl
theorem u_make : dMake C sp tl τ M Q E = tl τ M (fun ds M1 => ∀ p, M1 p = none → callK (K := fun d M2 => d = .non ∧ Q (.ref p) M2) (L := E) ⟨⟩ ⟨⟩ sp (.ref p :: ds) (put M1 p (.ins C []))) E := pq Iff.rfl
theorem u_binL : dBinL C sp ta tb τ M Q E = ta τ M (fun x M1 => tb τ M1 (fun y M2 => isIns C M2 x ∧ ((∃ z, y = .str z) ∨ isIns C M2 y) ∧ callK (K := Q) (L := E) ⟨⟩ ⟨⟩ sp [x, y] M2) E) E := pq Iff.rfl
theorem u_binR : dBinR C sp ta tb τ M Q E = ta τ M (fun x M1 => tb τ M1 (fun y M2 => (∃ z, x = .str z) ∧ isIns C M2 y ∧ callK (K := Q) (L := E) ⟨⟩ ⟨⟩ sp [y, x] M2) E) E := pq Iff.rfl
theorem u_inO : dInO C sp ta tb τ M Q E = ta τ M (fun y M1 => tb τ M1 (fun x M2 => isIns C M2 x ∧ callK (K := fun r M3 => onBl (K := fun b => Q (.bl b) M3) ⟨⟩ r) (L := E) ⟨⟩ ⟨⟩ sp [x, y] M2) E) E := pq Iff.rfl
theorem u_getO : dGetO C sp ta tb τ M Q E = ta τ M (fun x M1 => tb τ M1 (fun y M2 => isIns C M2 x ∧ callK (K := Q) (L := E) ⟨⟩ ⟨⟩ sp [x, y] M2) E) E := pq Iff.rfl
theorem u_setO : dgSetO C sp to ti d τ M Qs E = to τ M (fun x M1 => ti τ M1 (fun y M2 => isIns C M2 x ∧ callK (K := fun _ M3 => Qs τ M3) (L := E) ⟨⟩ ⟨⟩ sp [x, y, d] M2) E) E := pq Iff.rfl
theorem u_augO : dAugO C sp i te D0 τ M = onVar (K := fun x => te τ M (fun y M1 => isIns C M1 x ∧ callK (K := fun r M2 => D0.nx (τ.set i (some r)) M2) (L := D0.ex τ) ⟨⟩ ⟨⟩ sp [x, y] M1) (D0.ex τ)) ⟨⟩ τ[i]? := pq Iff.rfl
theorem u_prp : dPrp C sp te τ M Q E = te τ M (fun d M1 => isIns C M1 d ∧ callK (K := Q) (L := noX) ⟨⟩ ⟨⟩ sp [d] M1) E := pq Iff.rfl
theorem u_inv : dInv C sp te τ M Q E = te τ M (fun d M1 => isIns C M1 d ∧ callK (K := Q) (L := E) ⟨⟩ ⟨⟩ sp [d] M1) E := pq Iff.rfl
theorem u_meth : dMeth C m sp to tl τ M Q E = to τ M (fun x M1 => isIns C M1 x ∧ noF M1 m x ∧ tl τ M1 (fun ds M2 => callK (K := Q) (L := E) ⟨⟩ ⟨⟩ sp (x :: ds) M2) E) E := pq Iff.rfl
theorem rows_r {a : Addr} {K : List D → Prop} : onRows C f M (.ref a) K = onIns (K := fun fs => onSome (K := fun d => onLst (K := K) ⟨⟩ d) ⟨⟩ (fs.lookup f)) C ⟨⟩ (M a) := by
  show (match M a with
    | some (.ins c fs) => c = C ∧ (match fs.lookup f with
      | some (.lst ds) => K ds
      | _ => False)
    | _ => False) = onIns (K := fun fs => onSome (K := fun d => onLst (K := K) ⟨⟩ d) ⟨⟩ (fs.lookup f)) C ⟨⟩ (M a)
  cases M a with
  | none => rfl
  | some mo => cases mo with
    | ins c fs =>
      show (c = C ∧ (match fs.lookup f with
        | some (.lst ds) => K ds
        | _ => False)) = (c = C ∧ onSome (K := fun d => onLst (K := K) ⟨⟩ d) ⟨⟩ (fs.lookup f))
      cases fs.lookup f with
      | none => rfl
      | some d => cases d <;> rfl
    | _ => rfl
theorem lenO_r {d : D} : cbK (K := Q) ⟨⟩ (gLenO C f) [d] M = onRows C f M d (fun ds => Q (.int ds.length) M) := pq Iff.rfl
theorem listO_r {d : D} : cbK (K := Q) ⟨⟩ (gListO C f) [d] M = onRows C f M d (fun ds => Q (.lst ds) M) := pq Iff.rfl
theorem listOM_r {d : D} : cbK (K := Q) ⟨⟩ (gListOM C f) [d] M = onRows C f M d (fun ds => ∀ p, M p = none → Q (.ref p) (put M p (.lst ds))) := pq Iff.rfl
def isCK {K : Bool → Prop} (_ : Lk K) (C : Str) (o : Option MO) : Prop := match o with
  | some (.ins c _) => c = C ∧ K true
  | some (.lst _) => K false
  | some (.dK _) => K false
  | _ => False
theorem isCK_i {K : Bool → Prop} {fs : List (Str × D)} : isCK (K := K) ⟨⟩ C (some (.ins C fs)) = K true := by show (C = C ∧ K true) = K true; simp
theorem isCK_l {K : Bool → Prop} {ds : List D} : isCK (K := K) ⟨⟩ C (some (.lst ds)) = K false := pq Iff.rfl
theorem isC_r {a : Addr} : cbK (K := Q) ⟨⟩ (gIsC C) [.ref a, .cl C] M = isCK (K := fun b => Q (.bl b) M) ⟨⟩ C (M a) := by
  show (C = C ∧ ((isInsM C (M a) ∧ Q (.bl true) M) ∨ ((∃ n, tyD M (.ref a) = some n) ∧ Q (.bl false) M))) = isCK (K := fun b => Q (.bl b) M) ⟨⟩ C (M a)
  have e : tyD M (.ref a) = (match M a with
    | some (.lst _) => some "list"
    | some (.dK _) => some "dict"
    | _ => none) := rfl
  rw [e]
  cases M a with
  | none => simp [isInsM, isCK]
  | some mo => cases mo <;> simp [isInsM, isCK]
theorem isC_s {x : Tx} : cbK (K := Q) ⟨⟩ (gIsC C) [.str x, .cl C] M = Q (.bl false) M := by
  show (C = C ∧ ((False ∧ Q (.bl true) M) ∨ ((∃ n, (some "str" : Option String) = some n) ∧ Q (.bl false) M))) = _
  simp
theorem isC_i {x : Int} : cbK (K := Q) ⟨⟩ (gIsC C) [.int x, .cl C] M = Q (.bl false) M := by
  show (C = C ∧ ((False ∧ Q (.bl true) M) ∨ ((∃ n, (some "int" : Option String) = some n) ∧ Q (.bl false) M))) = _
  simp
theorem isC_b {x : Bool} : cbK (K := Q) ⟨⟩ (gIsC C) [.bl x, .cl C] M = Q (.bl false) M := by
  show (C = C ∧ ((False ∧ Q (.bl true) M) ∨ ((∃ n, (some "bool" : Option String) = some n) ∧ Q (.bl false) M))) = _
  simp
theorem isC_n : cbK (K := Q) ⟨⟩ (gIsC C) [.non, .cl C] M = Q (.bl false) M := by
  show (C = C ∧ ((False ∧ Q (.bl true) M) ∨ ((∃ n, (some "NoneType" : Option String) = some n) ∧ Q (.bl false) M))) = _
  simp
theorem isC_l {x : List D} : cbK (K := Q) ⟨⟩ (gIsC C) [.lst x, .cl C] M = Q (.bl false) M := by
  show (C = C ∧ ((False ∧ Q (.bl true) M) ∨ ((∃ n, (some "list" : Option String) = some n) ∧ Q (.bl false) M))) = _
  simp
theorem isC_t {x : List D} : cbK (K := Q) ⟨⟩ (gIsC C) [.tup x, .cl C] M = Q (.bl false) M := by
  show (C = C ∧ ((False ∧ Q (.bl true) M) ∨ ((∃ n, (some "tuple" : Option String) = some n) ∧ Q (.bl false) M))) = _
  simp
theorem putG_0 {α : Type} {x : α} : putG f x [] = [(f, x)] := rfl
theorem putG_1 {α : Type} {x y : α} {r : List (Str × α)} : putG f x ((f, y) :: r) = (f, x) :: r := by unfold putG; rw [if_pos rfl]
theorem lk_1 {α : Type} {x : α} {r : List (Str × α)} : List.lookup f ((f, x) :: r) = some x := by rw [List.lookup_cons, beq_self_eq_true]
end
abbrev AlZ : Type := AlY × (Bool × List He5.FnW)
def obsZ (fa : List Fa) (fn : List DefD) (gb : List (PySem.W.Frag → Bool)) (ts : List Tab) (fx : List He5.DefA) (K : PySem.W.Frag) : AlZ := (obsY fa fn gb ts K, fx.all fun d => d.ok K, fx.map fun d => He5.fnA K (d.at_ K))
def valZ (fn : List DefD) (ts : List Tab) (fx : List He5.DefA) (w : World) : AlZ := (valY fn ts w, true, fx.map He5.DefA.val)
def SaysZ (fa : List Fa) (fn : List DefD) (gb : List (PySem.W.Frag → Bool)) (ts : List Tab) (fx : List He5.DefA) (w : World) (K : PySem.W.Frag) : Prop := obsZ fa fn gb ts fx K = valZ fn ts fx w
section
variable {fa : List Fa} {fn : List DefD} {gb : List (PySem.W.Frag → Bool)} {ts : List Tab} {fx : List He5.DefA} {w : World} {K : PySem.W.Frag}
theorem SaysZ.y (c : SaysZ fa fn gb ts fx w K) : SaysY fa fn gb ts w K := congrArg (fun z : AlZ => z.1) c
theorem SaysZ.def_ (c : SaysZ fa fn gb ts fx w K) (i : Nat) {d : He5.DefA} (h : fx[i]? = some d := by rfl) : ∃ fd, FunD K d.name d.qual d.params d.body d.scope (d.dvs K) (d.kws K) (d.at_ K) fd := by
  have c2 : (fx.all fun d => d.ok K) = true := congrArg (fun z : AlZ => z.2.1) c
  have e : fx.map (fun d => He5.fnA K (d.at_ K)) = fx.map He5.DefA.val := congrArg (fun z : AlZ => z.2.2) c
  have e2 : (fx.map fun d => He5.fnA K (d.at_ K))[i]? = (fx.map He5.DefA.val)[i]? := by rw [e]
  rw [List.getElem?_map, List.getElem?_map, h] at e2
  exact He5.DefA.funD (Option.some.inj e2) (List.all_eq_true.mp c2 d (List.mem_of_getElem? h))
end
end DL
namespace DL
open PySem L2 He
section
variable {X : Cx} {W : WX} {kx vx tg iter : Expr} {ifs : List Expr} {scope : Scope} {pos : Pos} {ti : DTI} {g : DTG} {tt : DTT} {tk tv : DTE}
end
abbrev DTP := DR ((Mu → Prop) × List D)
def ItP (K : PySem.W.Frag) (M : Mu) (H : Hp) (q : (Mu → Prop) × List D) (J : It) : Prop := ∀ M' H', Cor K M' H' → Stp M H M' H' → q.1 M' →
  (∀ i, q.2.length ≤ i → J.stop i H') ∧ (∀ i, i < q.2.length → J.go i H') ∧ ∀ i d v H2, q.2[i]? = some d → J.yld i H' v H2 → Rep K M' H2 d v ∧ Cor K M' H2 ∧ Stp M' H' M' H2
abbrev DIP (X : Cx) (W : WX) (tg iter : Expr) (tr : DTP) : Prop := PI X tg iter (lif X.K W (ItP X.K) tr)
def diKeys (te : DTE) : DTP := fun τ M Q E => te τ M (fun d M1 => match d with
  | .ref a => (match M1 a with
    | some (.fK kvs u) => Q ((fun M => M a = some (.fK kvs u)), keysOf kvs) M1
    | _ => False)
  | _ => False) E
section
variable {X : Cx} {W : WX} {elt tg iter e : Expr} {ifs : List Expr} {scope : Scope} {pos p : Pos} {tr : DTP} {g : DTG} {tt : DTT} {te : DTE} {own : List (Str × Nat)} {vs : List Nat} {x : Str}
theorem di_keys (he : DE X W e te) : DIP X W tg e (diKeys te) := PI.of (pi_keys he) fun σ H R ⟨τ, M, Q0, E0, S, h⟩ => S.sub h fun d M1 v H1 h1 r1 S1 s1 => by
  cases d with
  | ref a =>
    cases r1
    have h2 : (match M1 a with
      | some (.fK kvs u) => Q0 ((fun M => M a = some (.fK kvs u)), keysOf kvs) M1
      | _ => False) := h1
    cases em : M1 a with
    | none => rw [em] at h2; exact h2.elim
    | some mo =>
      rw [em] at h2
      cases mo with
      | fK kvs u =>
        obtain ⟨od, ks, hf, eu, ek, rk⟩ := mu_fK S1.co em
        subst eu
        have hlen : ks.length = (keysOf kvs).length := by
          have := congrArg List.length ek
          rw [List.length_map, List.length_map] at this
          rw [this, keysOf, List.length_map]
        refine ⟨a, od, rfl, .inl ⟨ks, hf, S1.end_ (d := ((fun M => M a = some (.fK kvs (.frz od (.dK ks)))), keysOf kvs)) h2 ?_⟩⟩
        intro M' H' c' s' hp
        have hp : M' a = some (.fK kvs (.frz od (.dK ks))) := hp
        have at_ : H' a = some (.frz od (.dK ks)) := by
          obtain ⟨od', ks', q1, q2, _⟩ := mu_fK c' hp
          rw [q1, q2]
        refine ⟨fun i h => ⟨at_, by show ks.length ≤ i; rw [hlen]; exact h⟩, fun i h => ⟨at_, by rw [hlen]; exact h⟩, fun i d v H2 h y => ?_⟩
        obtain ⟨rfl, key, val, ykv, rfl⟩ := y
        have h : (keysOf kvs)[i]? = some d := h
        have hlt : i < (keysOf kvs).length := by
          rcases Nat.lt_or_ge i (keysOf kvs).length with z | z
          · exact z
          · rw [List.getElem?_eq_none z] at h; cases h
        have hk2 : i < kvs.length := by rw [keysOf, List.length_map] at hlt; exact hlt
        have q : (ks.map (·.1))[i]? = (kvs.map fun q => kO q.1)[i]? := by rw [ek]
        rw [List.getElem?_map, List.getElem?_map, ykv, List.getElem?_eq_getElem hk2] at q
        have q2 : key = kO kvs[i].1 := by simpa using q
        have q3 : d = kD kvs[i].1 := by
          rw [List.getElem?_eq_getElem hlt] at h
          have := Option.some.inj h
          rw [← this]
          simp [keysOf]
        rw [q2, q3]
        exact ⟨kD_rep _, c', Stp.refl M' _⟩
      | _ => exact h2.elim
  | _ => exact h1.elim
def wTsP (P : Mu → Prop) (g : DTG) (tt : DTT) (vs : List Nat) (τ : DSt) (inn : DSt → Mu → (Mu → Prop) → Prop) (Nx : Mu → Prop) : List D → Mu → Prop
  | [], M => P M ∧ Nx M
  | d :: ds, M => P M ∧ g d (wipeD τ vs) M (fun τ2 M2 => tt τ2 M2 (fun b M3 => if b = true then inn τ2 M3 (wTsP P g tt vs τ inn Nx ds) else wTsP P g tt vs τ inn Nx ds M3) noX) noX
def dLcP (tr : DTP) (g : DTG) (tt : DTT) (vs : List Nat) (te : DTE) : DTE := fun τ M Q E => tr τ M (fun q M1 => ∀ p, M1 p = none → wTsP q.1 g tt vs τ (dEm p te) (fun M2 => Q (.ref p) M2) q.2 (put M1 p (.lst []))) E
theorem turnsP_ok {K : PySem.W.Frag} {inn : DSt → Mu → (Mu → Prop) → Prop} {innL : L2.St → Hp → (Hp → Prop) → Prop} (hin : Inn K inn innL) {τ : DSt} {σ : L2.St} {M M1 : Mu} {H H1 : Hp} {P : Mu → Prop} {ds : List D} {J : It} {Nx0 : Mu → Prop} {Nx : Hp → Prop}
    (hJ : ItP K M H (P, ds) J) (rs : RepS K M H τ σ) (hN : ∀ M' H', Nx0 M' → Cor K M' H' → Stp M H M' H' → Nx H') (s1 : Stp M H M1 H1) (c1 : Cor K M1 H1) (h : wTsP P g tt vs τ inn Nx0 ds M1) :
    wTurns (lifGw K W0 g vs) (lif K W0 RB tt) vs σ innL Nx J H1 := by
  refine ⟨fun i m H2 => m = ds.length - i ∧ i ≤ ds.length ∧ ∃ M2, Stp M H M2 H2 ∧ Cor K M2 H2 ∧ wTsP P g tt vs τ inn Nx0 (ds.drop i) M2, ⟨ds.length, rfl, Nat.zero_le _, M1, s1, c1, h⟩, ?_⟩
  rintro i m H2 ⟨rfl, hi, M2, s2, c2, h2⟩
  by_cases hlt : i < ds.length
  · have e : ds.drop i = ds[i] :: ds.drop (i + 1) := List.drop_eq_getElem_cons hlt
    rw [e] at h2
    obtain ⟨k1, k2, k3⟩ := hJ M2 H2 c2 s2 h2.1
    refine .inr ⟨k2 i hlt, fun H3 => ∃ M3, Stp M H M3 H3 ∧ Cor K M3 H3 ∧ wTsP P g tt vs τ inn Nx0 (ds.drop (i + 1)) M3, fun H3 q => ⟨ds.length - (i + 1), by omega, rfl, hlt, q⟩, fun x H3 y => ?_⟩
    obtain ⟨y1, y2, y3⟩ := k3 i ds[i] x H3 (List.getElem?_eq_getElem hlt) y
    have s3 := s2.trans y3
    refine ⟨ds[i], wipeD τ vs, M2, _, noX, y1, ⟨(rs.stp s3).wipe vs, y2, fun τ4 M4 σ4 H4 h4 r4 c4 s4 hw => ⟨hw.trans (wipe_wipe σ vs), ?_⟩, fun _ _ _ _ _ z => z.elim⟩, h2.2⟩
    refine ⟨τ4, M4, _, noX, ⟨r4, c4, fun b M5 b' H5 h5 r5 c5 s5 => ?_, fun _ _ _ _ _ z => z.elim⟩, h4⟩
    cases r5
    cases b with
    | false => exact ⟨M5, s3.trans (s4.trans s5), c5, h5⟩
    | true =>
      simp only [if_true] at h5 ⊢
      exact hin τ4 σ4 M5 H5 _ _ (r4.stp s5) c5 (fun M' H' n c' s' => ⟨M', s3.trans (s4.trans (s5.trans s')), c', n⟩) h5
  · have e : i = ds.length := by omega
    rw [e, List.drop_length] at h2
    obtain ⟨k1, k2, k3⟩ := hJ M2 H2 c2 s2 h2.1
    exact .inl ⟨k1 i (show ds.length ≤ i by omega), hN M2 H2 h2.2 c2 s2⟩
def fClP (X : Cx) (W : WX) (tg iter : Expr) (ifs : List Expr) (tr : DTP) (g : DTG) (tt : DTT) (vs : List Nat) : Cl := ⟨tg, iter, ifs, lif X.K W (ItP X.K) tr, lifGw X.K W0 g vs, lif X.K W0 RB tt, vs⟩
theorem lif_lcP {σ : L2.St} {H : Hp} {Q : VK} (h : lif X.K W (RD X.K) (dLcP tr g tt vs te) σ H Q) : tLcN (fClP X W tg iter ifs tr g tt vs) [] (lif X.K W0 (RD X.K) te) σ H Q := by
  obtain ⟨τ, M, Q0, E0, S, h⟩ := h
  refine S.sub h fun q M1 J H1 h1 r1 S1 s1 => ?_
  obtain ⟨P, ds⟩ := q
  intro D hD
  exact turnsP_ok (em_ok D) r1 S1.rs (fun M' H' n c' s' => S1.q (.ref D) M' (.ref D) H' n rfl c' s') (Stp.newM hD) (S1.co.newM hD (mo := .lst []) ⟨[], rfl, .nil⟩) (h1 D (S1.co.free hD))
theorem blkP_ok {B : Cx} (hK : B.K = X.K) (h : BlkR B tg g ifs tt vs elt te) : ClOk B (fClP X W tg iter ifs tr g tt vs) ∧ (∀ x ∈ ([] : List Cl), ClIn B x) ∧ PE B elt (lif X.K W0 (RD X.K) te) := by
  rw [← hK]
  refine ⟨⟨by rw [fClP, ← hK]; exact h.g, by rw [fClP, ← hK]; exact h.t⟩, fun x hx => ?_, h.e⟩
  cases hx
theorem de_lcP (own : List (Str × Nat)) (G : Gd X W) (hi : DIP X W tg iter tr) (hb : ∀ (s : Shared) (H : Hp) (C : Addr) (cl : List (Str × Addr)) (fp : List Addr), Gd (X.blk s H scope (compEnvC scope cl C X.env) fp) W0 → BlkR (X.blk s H scope (compEnvC scope cl C X.env) fp) tg g ifs tt (own.map (·.2)) elt te)
    (ok : blkC X.N X.env.scope scope own = true := by first | kernel_rfl | decide +kernel) (hs : ∀ x, foldedSetIterable iter X.env x = pure x := by intro _; rfl) : DE X W (.ListComp elt [⟨tg, iter, ifs, 0⟩] scope pos) (dLcP tr g tt (own.map (·.2)) te) :=
  PE.of (pe_lcN (c := fClP X W tg iter ifs tr g tt (@List.map (Str × Nat) Nat (fun p => p.2) own)) (cs := []) G.calm G.nd hi (blkOk_by ok) rfl (show Dec (own.map (·.2)) [] from trivial) (fun B ⟨s, H, C, cl, fp, e⟩ => by subst e; exact blkP_ok rfl (hb s H C cl fp (G.blk ..))) hs) fun σ H Q h => lif_lcP h
theorem u_keys {te : DTE} {τ : DSt} {M : Mu} {Qr : (Mu → Prop) × List D → Mu → Prop} {E : DX} : diKeys te τ M Qr E = te τ M (fun d M1 => onRef (K := fun a => onFK (K := fun kvs u => Qr ((fun M => M a = some (.fK kvs u)), keysOf kvs) M1) ⟨⟩ (M1 a)) ⟨⟩ d) E := by
  unfold diKeys
  congr 1
end
def gAddM : DOp := fun x y M Q => match x, y with
  | .lst a, .lst b => a.length + b.length ≤ 16777216 ∧ ∀ p, M p = none → Q (.ref p) (put M p (.lst (a ++ b)))
  | .ref p, .lst b => (match M p with
    | some (.lst a) => a.length + b.length ≤ 16777216 ∧ ∀ p, M p = none → Q (.ref p) (put M p (.lst (a ++ b)))
    | _ => False)
  | _, _ => False
theorem addM_l {M : Mu} {Q : DK} {a b : List D} : opK (K := Q) ⟨⟩ gAddM (.lst a) (.lst b) M = (a.length + b.length ≤ 16777216 ∧ ∀ p, M p = none → Q (.ref p) (put M p (.lst (a ++ b)))) := pq Iff.rfl
theorem addM_rl {M : Mu} {Q : DK} {p : Addr} {b : List D} : opK (K := Q) ⟨⟩ gAddM (.ref p) (.lst b) M = onML (K := fun a => a.length + b.length ≤ 16777216 ∧ ∀ p, M p = none → Q (.ref p) (put M p (.lst (a ++ b)))) ⟨⟩ (M p) := pq Iff.rfl
end DL
namespace DL
open PySem L2 He
def dTry (t : DTS) : DTS := fun D τ M => t { D with xc := fun _ _ _ => False } τ M
section
variable {X : Cx} {W : WX} {a b e o i : Expr} {es : List Expr} {ta tb te to tv ti : DTE} {tl : DTA} {C f m x : Str} {sp : DSp} {k : Nat} {pos pos' apos p p2 tpos : Pos} {t : DTS}
def dCM (C : Str) (sp : DSp) (ta : DTA) : DTE := fun τ M Q E => ta τ M (fun ds M1 => sp (.cl C :: ds) M1 Q E) E
def dMakeV (i : Nat) (C : Str) (sp : DSp) (ta : DTA) : DTE := fun τ M Q E => dVar i τ M (fun d M1 => match d with
  | .cl x => x = C ∧ dMake C sp ta τ M1 Q E
  | _ => False) E
def enumF : Nat → List D → List D
  | _, [] => []
  | i, d :: r => .tup [.int (i : Nat), d] :: enumF (i + 1) r
def diEnum (ta : DTA) : DTI := fun τ M Q E => ta τ M (fun ds M1 => match ds with
  | [.lst xs] => Q (enumF 0 xs) M1
  | _ => False) E
end
def idxD (y : D) : List D → Option Nat
  | [] => none
  | z :: r => if eqF z y = true then some 0 else (idxD y r).map (· + 1)
def gIndex : DMt := fun x xs M Q => match x, xs with
  | .lst ds, [y] => flatD y = true ∧ ds.all flatD = true ∧ ∃ j, idxD y ds = some j ∧ Q (.int (j : Nat)) M
  | _, _ => False
def onCl {K : Prop} (C : Str) (_ : Lk K) (d : D) : Prop := match d with
  | .cl x => x = C ∧ K
  | _ => False
theorem onCl_c {K : Prop} {C : Str} : onCl (K := K) C ⟨⟩ (.cl C) = K := by show (C = C ∧ K) = K; simp
def onEnum {K : List D → Prop} (_ : Lk K) (ds : List D) : Prop := match ds with
  | [.lst xs] => K (enumF 0 xs)
  | _ => False
theorem onEnum_l {K : List D → Prop} {xs : List D} : onEnum (K := K) ⟨⟩ [.lst xs] = K (enumF 0 xs) := pq Iff.rfl
section
variable {C : Str} {sp : DSp} {tl : DTA} {τ : DSt} {M : Mu} {Q : DK} {E : DX} {D0 : DEnds} {i : Nat} {t : DTS} {Ql : List D → Mu → Prop}
theorem u_try : dTry t D0 τ M = t { D0 with xc := fun _ _ _ => False } τ M := pq Iff.rfl
theorem u_cm : dCM C sp tl τ M Q E = tl τ M (fun ds M1 => callK (K := Q) (L := E) ⟨⟩ ⟨⟩ sp (.cl C :: ds) M1) E := pq Iff.rfl
theorem u_makeV : dMakeV i C sp tl τ M Q E = dVar i τ M (fun d M1 => onCl (K := dMake C sp tl τ M1 Q E) C ⟨⟩ d) E := pq Iff.rfl
theorem index_l {ds : List D} {y : D} : mtK (K := Q) ⟨⟩ gIndex (.lst ds) [y] M = (flatD y = true ∧ ds.all flatD = true ∧ ∃ j, idxD y ds = some j ∧ Q (.int (j : Nat)) M) := pq Iff.rfl
theorem r_enum : diEnum tl τ M Ql E = tl τ M (fun ds M1 => onEnum (K := fun xs => Ql xs M1) ⟨⟩ ds) E := pq Iff.rfl
end
end DL
namespace DL
open PySem L2 He
def gStrO (C : Str) (sp : DSp) : DCb := fun xs M Q => match xs with
  | [d] => isIns C M d ∧ sp [d] M (fun x M2 => (∃ t, x = .str t) ∧ Q x M2) noX
  | _ => False
theorem strO_r {C : Str} {sp : DSp} {M : Mu} {Q : DK} {d : D} : cbK (K := Q) ⟨⟩ (gStrO C sp) [d] M = (isIns C M d ∧ sp [d] M (fun x M2 => (∃ t, x = .str t) ∧ Q x M2) noX) := pq Iff.rfl
end DL
namespace DL
open PySem L2 He
def gCmpO (C : Str) (sp : DSp) : DOp := fun x y M Q => isIns C M x ∧ (isIns C M y ∨ ∃ n, tyD M y = some n) ∧ sp [x, y] M Q noX
theorem cmpO_r {C : Str} {sp : DSp} {M : Mu} {Q : DK} {x y : D} : opK (K := Q) ⟨⟩ (gCmpO C sp) x y M = (isIns C M x ∧ (isIns C M y ∨ ∃ n, tyD M y = some n) ∧ sp [x, y] M Q noX) := pq Iff.rfl
def gPop1 : DMt := fun x xs M Q => match x, xs with
  | .ref a, [.int i] => (match M a with
    | some (.lst ds) => 0 ≤ i ∧ i < 1073741824 ∧ (match ds[i.toNat]? with
      | some d => Q d (put M a (.lst (ds.eraseIdx i.toNat)))
      | none => False)
    | _ => False)
  | _, _ => False
theorem pop1_r {a : Addr} {i : Int} {M : Mu} {Q : DK} : mtK (K := Q) ⟨⟩ gPop1 (.ref a) [.int i] M = onML (K := fun ds => 0 ≤ i ∧ i < 1073741824 ∧ onSome (K := fun d => Q d (put M a (.lst (ds.eraseIdx i.toNat)))) ⟨⟩ ds[i.toNat]?) ⟨⟩ (M a) := by
  show (match M a with
    | some (.lst ds) => 0 ≤ i ∧ i < 1073741824 ∧ (match ds[i.toNat]? with
      | some d => Q d (put M a (.lst (ds.eraseIdx i.toNat)))
      | none => False)
    | _ => False) = _
  cases M a with
  | none => rfl
  | some mo =>
    cases mo with
    | lst ds =>
      show (0 ≤ i ∧ i < 1073741824 ∧ (match ds[i.toNat]? with
        | some d => Q d (put M a (.lst (ds.eraseIdx i.toNat)))
        | none => False)) = (0 ≤ i ∧ i < 1073741824 ∧ onSome (K := fun d => Q d (put M a (.lst (ds.eraseIdx i.toNat)))) ⟨⟩ ds[i.toNat]?)
      cases ds[i.toNat]? <;> rfl
    | _ => rfl
end DL
namespace DL
open PySem L2 He NdefX
structure ErrD (K : PySem.W.Frag) (x qual : Str) (params : Arguments) (body : List Stmt) (scope : Scope) (C f cc cda : Addr) (file : Str) (fd : FuncData) : Prop where
  ex : ∃ (oc : Value) (od : Option Addr) (kV doc pm : Value) (an : Option Addr) (ct : Value) (osl : Array (Option Value)),
    fd = PySem.W.fnX x qual params body scope [("__class__", cc)] .none kV doc pm an (.ref cda) ct ∧ K.lookup f = some ⟨oc, od, .func fd, osl⟩
  crec : PySem.W.codeIn K (.ref cda) qual = true
  cell : ∃ (cl : Value) (cld : Option Addr) (csl : Array (Option Value)), K.lookup cc = some ⟨cl, cld, .cell (some (.ref C)), csl⟩
  code : ∃ (ccl : Value) (cdd : Option Addr) (vs : Array Value) (ccs : Array (Option Value)) (tf : Tok), K.lookup cda = some ⟨ccl, cdd, .fields vs, ccs⟩ ∧ vs[2]? = some (.str file tf)
structure ErrC (K : PySem.W.Frag) (C : Addr) : Prop where
  T : OexC K C
  sup : PySem.W.ks_superIn K C C "__init__" = some (some (.builtin "ValueError.__init__"))
  sub : PySem.W.subIn K (.ref C) (.type "ValueError") = some true
  self : PySem.W.mroIn K C (.ref C) = some true
  any : PySem.W.nsIn K cStatics "thirdparty.any" = some none
section
open PySem.W PySem.Calls PyProof.Rows
variable {prog : Program} {w : World} {M : Model} {A : Around} {E : Value → Shared → Prop} {h : Heap} {g : Array GenState} {d : Drawn} {t : Nat} {os : OsState}
variable {nm q : Str} {C N : Addr} {bs bm : List Value} {hdct : Bool} {sn : List Str} {sub : List Value} {ab : Bool} {col : Option Bool} {dd : Option Addr} {k0 k1 k2 k3 k5 : Option Value}
theorem err_bound {B newId initId : String} {bmB : List Value} (F : ExcBaseFacts B newId initId bmB) {e : Addr} {oe : Obj} {rest : List Value} {Q : Unit → Shared → Prop}
    (hC : h.get? C = some (excClassObj nm q C N bs bm hdct sn sub ab col dd k0 k1 k2 k3 k5 newId)) (he : h.get? e = some oe) (hcls : oe.cls = .ref C) (hq : Q () ⟨h, g, d, t, os⟩) :
    wpAny M A (checkBoundCall initId ⟨.ref e :: rest, []⟩) Q E ⟨h, g, d, t, os⟩ := by
  have hshort := F.noStar
  simp only [checkBoundCall, F.initKind, F.initRow]
  repeat (first | (with_reducible refine wpAny_loadPart_at he ?_; rw [hcls]) | with_reducible refine wpAny_loadPart_at hC ?_ | wp_step)
  refine wpAny_onRaise ?_
  rw [show ∀ (a b : String) (n : Nat), Bind.check ⟨.positional, "*", B, .self, [⟨"args", .varPos, false⟩]⟩ a b n (List.map (fun x => x.fst) ({ pos := Value.ref e :: rest } : Args).kw) = pure () from
    fun a b n => check_star_args _ _ _ _ _ _]
  exact wpAny_pure hq
theorem err_call {u e t0 : Addr} {rest : List Value} {Q : Value → Shared → Prop}
    (hC : h.get? C = some (excClassObj nm q C N bs bm hdct sn sub ab col dd k0 k1 k2 k3 k5 "ValueError.__new__")) (he : h.get? e = some (HandSPX.excO C t0)) (hu : h.get? u = some (kxs_mw "ValueError.__init__" e)) (hrest : rest.length ≤ sizeLine)
    (hq : ∀ h' t1, (∀ b o, b ≠ e → h.get? b = some o → h'.get? b = some o) → h'.get? e = some (HandSPX.excO C t1) → Q .none ⟨h', g, d, t, os⟩) :
    wpAny (model prog w) A (call (.ref u) rest) Q E ⟨h, g, d, t, os⟩ := by
  refine wpAny_call (codeAny_of_tree ?_)
  show wpAny _ A.in1 (callAny (.ref u) ⟨rest, []⟩) _ _ _
  simp only [callAny]
  refine wpAny_bind (wpAny_load hu ?_)
  simp only [kxs_mw, show (Value.type "method-wrapper" == Value.type "method" || Value.type "method-wrapper" == Value.type "builtin_function_or_method" || Value.type "method-wrapper" == Value.type "method-wrapper") = true by decide, if_true]
  refine W.KFB.if_so (by decide) ?_
  refine wpAny_bind (err_bound F.excBase_ValueError hC he rfl ?_)
  refine wpAny_bind (wpAny_pure (wpAny_pure ?_))
  refine ⟨Code.quiet_builtin _ (by decide +kernel), codeAny_builtin F.excBase_ValueError.initEntry ?_⟩
  rw [Around.under_plainId F.excBase_ValueError.init.plain _]
  wp_walk
  refine hq _ h.objs.size (fun b o hb ho => ?_) ?_
  · rw [Heap.get?_update_other _ _ (Ne.symm hb)]
    exact Heap.get?_push_of_some _ ho
  · rw [Heap.get?_update_self _ (Heap.get?_push_of_some _ he) rfl]
    rfl
end
theorem err_super {X : Cx} {F : NF} {f L a C cc cda : Addr} {file x qual m : Str} {params : Arguments} {body : List Stmt} {scope : Scope} {fd : FuncData} {pins : List (Addr × Obj)} {σ : L2.St} {H : Hp} {s : Shared} {ar : Arg} {p0 p1 p2 p3 p4 p5 : Pos} {j : Nat} {cbody : List Stmt}
    (D : ErrD X.K x qual params body scope C f cc cda file fd) (T : ErrC X.K C) (henv : X.env = PySem.W.envX qual scope L f (.ref cda) [("__class__", cc)]) (I : Inv X pins σ H s) (ea : H a = some (exo a C none))
    (hp : (params.posonlyargs ++ params.args).head? = some ar) (h0 : X.N[0]? = some ar.arg) (hs0 : σ[0]? = some (some (.ref a)))
    (hfile : ((X.prog.main.file : Str) == file) = true) (hm : X.mg "super" = none) (htop : (X.prog.main.scope.names.lookup ("super" : Str)).isSome = false)
    (hks : scope.names.lookup ("super" : Str) = some .globalImplicit) (hkc : scope.names.lookup ("__class__" : Str) = some .free) (hka : scope.names.lookup ar.arg = some .local)
    {Q : Flow → Shared → Prop} {E : Value → Shared → Prop} {pl : Sem Bool} (hq : ∀ s', Inv X pins σ H s' → Q .next s')
    (hi : interactive X.env = false := by rfl) (hsw : swapsWith (.Call (.Attribute (.Call (.Name "super" p0) [] [] p1) "__init__" p2) [.Constant (.str m) j p3] [] p4) none p5.line X.env = pure false := by rfl)
    (he : eval (.Call (.Attribute (.Call (.Name "super" p0) [] [] p1) "__init__" p2) [.Constant (.str m) j p3] [] p4) X.env = (do
      let ov ← attributeBase (.Call (.Name "super" p0) [] [] p1) "__init__" X.env (eval (.Call (.Name "super" p0) [] [] p1) X.env)
      standAt p2.atName
      let (f, first) ← holding [ov] (getMethod ov "__init__" pl)
      callWith p4 f first (backTo p4 (starEach [.Constant (.str m) j p3] X.env)) []) := by rfl) :
    _root_.PySem.wpAt (model X.prog X.w) X.A (.func cbody X.env) (exec (.Expr (.Call (.Attribute (.Call (.Name "super" p0) [] [] p1) "__init__" p2) [.Constant (.str m) j p3] [] p4) p5) X.env) Q E s := by
  obtain ⟨oc, od, kV, doc, pm, an, ct, osl, rfl, hf⟩ := D.ex
  obtain ⟨cl, cld, csl, hcell⟩ := D.cell
  obtain ⟨ccl, cdd, vs, ccs, tf, hcode, hvs⟩ := D.code
  have KX := I.kIn
  refine ks_wpAt_Expr_any (ks_wpAt_MethodCall (pl := pl) ?_ he) hi hsw
  obtain ⟨nm, q, N, bs, bm, sn, sub, ab, col, dd, k0, k1, k2, k3, k5, hC, hbm⟩ := T.T.cls
  obtain ⟨mb, hb1, hb2⟩ := I.mod.blt
  obtain ⟨mL, hns, hloc⟩ := I.loc
  obtain ⟨u0, hu0, hl0⟩ := hloc 0 ar.arg (.ref a) h0 hs0 (.inl (by rw [henv]; exact hka))
  obtain rfl : u0 = Value.ref a := hu0
  have hself : mL ar.arg = some (.ref a) := by
    rcases hl0 with ⟨_, e⟩ | ⟨e, _⟩
    · exact e
    · have e1 : scope.names.lookup ar.arg = some .cell ∨ scope.names.lookup ar.arg = some .free := by rw [henv] at e; exact e
      rw [hka] at e1
      rcases e1 with e1 | e1 <;> cases e1
  obtain ⟨t1, ho⟩ := exo_at I.hok ea
  have hkS : X.env.kindOf "super" = some .globalImplicit := by rw [henv]; exact hks
  have hkC : X.env.kindOf "__class__" = some .free := by rw [henv]; exact hkc
  refine PySem.ks_wpAt_super_base (f := f) (cc := cda) hkS hkC (by decide) (by rw [henv]) (KX _ _ hf) rfl hp (by rw [henv]) (KX _ _ hcode) rfl hvs hfile htop ?_
  refine PySem.W.ks_loadName_global I.ok.kind hkS (Calls.loadGlobal_builtin (by rw [I.ok.glob]; exact I.mod.glob.keeps I.bk) hm (by rw [I.ok.blt]; exact hb1.keeps I.bk) ((hb2 "super" (by decide)).trans (by decide +kernel)) ⟨rfl, ?_⟩)
  refine wpAny_loadName_free I.ok.kind hkC (c := cc) (by rw [henv]; rfl) ⟨_, KX _ _ hcell, rfl⟩ ?_
  refine wpAny_loadName_local I.ok.kind (by rw [henv]; exact hka) hns hself ?_
  refine PySem.ks_wpAny_isType_cls (KX _ _ hC) rfl ⟨rfl, ?_⟩
  obtain ⟨hh, g, d, t, os⟩ := s
  have hno : ∀ c, ({ cls := .ref C, dict := none, data := .fields #[.ref t1, .none, .none, .none, .bool false, .none] } : Obj).data ≠ .cls c := fun c e => by cases e
  refine PySem.ks_wpAny_call_super (KX _ _ hC) rfl ho rfl hno (PySem.W.looks_mroIn KX T.self) fun h' e k => ?_
  have I1 : Inv X pins σ H ⟨h', g, d, t, os⟩ := I.kept (t' := t) k
  have K1 := I1.kIn
  obtain ⟨t2, ho1⟩ := exo_at I1.hok ea
  have hcl : PySem.W.clsIn X.K C = some { name := nm, bases := bs, mro := .ref C :: bm, ns := N, qualname := q, hasDict := true, slotNames := sn, subclasses := sub, abstract := ab, collection := col, hasDel := false } := by unfold PySem.W.clsIn; rw [hC] <;> rfl
  have hsup := T.sup
  unfold PySem.W.ks_superIn at hsup
  rw [hcl] at hsup
  have J : PySem.W.InstAt h' a { cls := .ref C, dict := none, data := .fields #[.ref t2, .none, .none, .none, .bool false, .none] } C none := ⟨ho1, rfl, rfl, trivial⟩
  refine PySem.W.kxs_getMethod PySem.W.kxs_ValueError (D := C) (x := a) (C := C) e (PySem.W.looks_opaque K1 T.any) (l₀ := .ref C :: bm) ?_ rfl K1 hsup (J.type.andThen (PySem.W.looks_subIn K1 T.sub)) (PySem.W.ks_ne K1 J hcl) (by decide) ?_
  · exact fun A Q E s k q => wpAny_bind ((PySem.W.looks_clsIn K1 hcl) A _ E s k (wpAny_pure q))
  have I2 := ClX.pin_new (t' := t + 1) (a := h'.objs.size) (o := PySem.W.kxs_mw "ValueError.__init__" a) (h' := h'.push (PySem.W.kxs_mw "ValueError.__init__" a)) I1 (fun b o e => Heap.get?_push_of_some _ e) (Nat.le_refl _) (Heap.get?_push_at rfl rfl) (fun v e => by cases e)
  refine PySem.W.kxs_callWith (i := "ValueError.__init__") (x := a) rfl ?_
  refine Calls.evalArgs_plain (thn ((pa_cons (pe_str (x := m) (j := j) (pos := p3)) pa_nil).run p4 _ _ σ H (fun ws H2 => ws = [.str m] ∧ H2 = H) I2 ⟨rfl, rfl⟩) fun us s3 ⟨ws, H3, I3, r3, e1, e2⟩ => ?_)
  subst e1 e2
  refine ⟨ClX.pin_at I3, ?_⟩
  obtain ⟨t3, ho3⟩ := exo_at I3.hok ea
  have l3 : us.length ≤ sizeLine := by rw [← Paired.length r3, sizeLine_eq]; show (1 : Nat) ≤ 16777216; decide
  obtain ⟨hp3, g3, d3, tk3, os3⟩ := s3
  refine err_call (I3.kIn _ _ hC) ho3 (ClX.pin_at I3) l3 fun h4 t4 k4 e4 => ?_
  have I4 := ClX.unpin I3
  have J4 := I4.write (t' := tk3) (x := a) (e := a) (o := exo a C none) (by rw [ea]; exact True.intro) (.inl rfl) k4 ⟨_, e4⟩ (exo_ok e4)
  have eu : upd H3 a (exo a C none) = H3 := by
    funext b
    by_cases hb : b = a
    · rw [hb, upd_same, ea]
    · rw [upd_ne hb]
  rw [eu] at J4
  exact hq _ J4
def spErr (C : Addr) (fld : Str) : Sp := fun vs H Q _ => ∃ (a : Addr) (u : V), vs = [.ref a, u] ∧ H a = some (exo a C none) ∧ ∀ dx, H dx = none → dx ≠ a → Q .non (upd (upd H dx (exd dx [(fld, u)])) a (exo a C (some dx)))
theorem err_ok {P : Program} {w : World} {K : PySem.W.Frag} {mg : Str → Option Value} {base : Heap} {CX : CXT} {N : List Str} {x qual self par fld m : Str} {params : Arguments} {body : List Stmt} {scope : Scope} {C f cc cda : Addr} {file : Str} {fd : FuncData} {ar : Arg} {j k : Nat} {p0 p1 p2 p3 p4 p5 p6 p7 p8 p9 : Pos}
    (D : ErrD K x qual params body scope C f cc cda file fd) (T : ErrC K C) (hfld : PySem.W.findIn K (.ref C) fld = some none) (S : NScope N [self, par] ["__class__"] scope)
    (hbody : body = [.Expr (.Call (.Attribute (.Call (.Name "super" p0) [] [] p1) "__init__" p2) [.Constant (.str m) j p3] [] p4) p5, .Assign [.Attribute (.Name self p6) fld p7] (.Name par p8) p9])
    (hp : (params.posonlyargs ++ params.args).head? = some ar) (har : ar.arg = self) (hN0 : N[0]? = some self) (hN1 : N[1]? = some par)
    (hfile : ((P.main.file : Str) == file) = true) (hm : mg "super" = none) (htop : (P.main.scope.names.lookup ("super" : Str)).isSome = false) (hks : scope.names.lookup ("super" : Str) = some .globalImplicit)
    (hi : ∀ L, interactive (PySem.W.envX qual scope L f (.ref cda) [(("__class__" : Str), cc)]) = false)
    (hsw : ∀ L, swapsWith (.Call (.Attribute (.Call (.Name "super" p0) [] [] p1) "__init__" p2) [.Constant (.str m) j p3] [] p4) none p5.line (PySem.W.envX qual scope L f (.ref cda) [(("__class__" : Str), cc)]) = pure false)
    (hsw2 : ∀ L, swapsWith (.Name par p8) (some (.Attribute (.Name self p6) fld p7)) p9.line (PySem.W.envX qual scope L f (.ref cda) [(("__class__" : Str), cc)]) = pure false)
    (he : ∀ L, ∃ pl, eval (.Call (.Attribute (.Call (.Name "super" p0) [] [] p1) "__init__" p2) [.Constant (.str m) j p3] [] p4) (PySem.W.envX qual scope L f (.ref cda) [(("__class__" : Str), cc)]) = (do
      let ov ← attributeBase (.Call (.Name "super" p0) [] [] p1) "__init__" (PySem.W.envX qual scope L f (.ref cda) [(("__class__" : Str), cc)]) (eval (.Call (.Name "super" p0) [] [] p1) (PySem.W.envX qual scope L f (.ref cda) [(("__class__" : Str), cc)]))
      standAt p2.atName
      let (f2, first) ← holding [ov] (getMethod ov "__init__" pl)
      callWith p4 f2 first (backTo p4 (starEach [.Constant (.str m) j p3] (PySem.W.envX qual scope L f (.ref cda) [(("__class__" : Str), cc)]))) []))
    (d1 : (self == ("__debug__" : Str)) = false) (d2 : (self == ("__classdict__" : Str)) = false) (d3 : (par == ("__debug__" : Str)) = false) (d4 : (par == ("__classdict__" : Str)) = false) :
    FnOk P w K mg base CX (k + 1) f fd [self, par] (spErr C fld) := by
  have hself : scope.names.lookup self = some .local := S.par self (by simp)
  have hpar : scope.names.lookup par = some .local := S.par par (by simp)
  have hfr : scope.names.lookup ("__class__" : Str) = some .free := S.frk _ (by simp)
  refine ⟨fun vs H Q E ⟨a, u, e, _⟩ => by rw [e]; rfl, fun A outer s H args us vs Q E hr e0 hb r hsp => ?_⟩
  obtain ⟨a, u, rfl, ea, hq⟩ := hsp
  obtain ⟨oc, od, kV, doc, pm, an, ct, osl, rfl, lk⟩ := D.ex
  obtain ⟨cl, cld, csl, hcell⟩ := D.cell
  have KX : K.In s.heap := e0.mod.kin.keeps fun b o e => (e0.bs b o e).1
  have lim : s.heap.NoLimit := e0.mod.nolimit.keeps fun b o e => (e0.bs b o e).1
  refine codeAny_call_function hr.depth (KX _ _ lk) rfl S.co S.gen rfl (PySem.W.codeRec_of KX D.crec) (hb _ _ _ _ ?_)
  refine wpAny_newFunctionEnv S.nocell (fun ⟨n, _⟩ hy => S.par n (List.of_mem_zip hy).1) (fun h₁ hns hsb => ⟨lim.fresh _ hsb, ?_⟩) S.kind
  have kp : ∀ b o, s.heap.get? b = some o → h₁.get? b = some o := fun b o e => hsb.extBut b o (Nat.ne_of_lt (Heap.lt_size e)) (Heap.get?_push_of_some _ e)
  have CA : CellsAt [(("__class__" : Str), cc)] ["__class__"] [none] s.heap H := by
    have key : ∀ {y : Str} {c : Addr}, List.lookup y [(("__class__" : Str), cc)] = some c → y = "__class__" ∧ c = cc := fun {y c} e => by
      rw [List.lookup_cons] at e
      cases q : (y == ("__class__" : Str)) with
      | true => rw [q] at e; cases e; exact ⟨beq_iff_eq.mp q, rfl⟩
      | false => rw [q] at e; cases e
    refine ⟨rfl, fun y c e => ?_, fun y z c e1 e2 => by rw [(key e1).1, (key e2).1], fun i y e => ?_⟩
    · obtain ⟨rfl, rfl⟩ := key e
      exact ⟨(e0.bs _ _ (e0.mod.kin _ _ hcell)).2, _, _, KX _ _ hcell, rfl⟩
    · cases i with
      | zero =>
        cases e
        exact ⟨cc, rfl, fun v e => by cases e⟩
      | succ i => cases e
  let F : NF := ⟨x, qual, params, body, scope, [("__class__", cc)], cda⟩
  have I : Inv (ncx CX P w K mg base N F f A outer s H E) [] (startF N [.ref a, u] [none]) H { s with heap := h₁, toks := s.toks + ([self, par].zip us).length } := inv_startN (F := F) S hr.hd e0 rfl r CA hns kp
  show codeAny _ _ (.func body (envF F f s.heap.objs.size)) _ _
  refine PySem.ks_codeAny_funcAt ?_
  subst hbody
  obtain ⟨pl, he⟩ := he s.heap.objs.size
  refine PySem.ks_wpAt_execs_cons (err_super (X := ncx CX P w K mg base N F f A outer s H E) (F := F) D T rfl I ea hp (by rw [har]; exact hN0) rfl hfile hm htop hks hfr (by rw [har]; exact hself) (pl := pl) (fun s1 I1 => ?_) (hi _) (hsw _) he)
  refine wpAt_of_wpAny ?_
  have P1 : PSs (ncx CX P w K mg base N F f A outer s H E) [.Assign [.Attribute (.Name self p6) fld p7] (.Name par p8) p9] (tOst K fld (tVar 0) (tVar 1)) :=
    pss_one (ps_ost (pe_var hN0 (.inl hself) d1 d2) (pe_var hN1 (.inl hpar) d3 d4) (hsw2 _))
  have fin : ∀ {σ' : L2.St} {H' : Hp} {v : V} {u : Value} {s' : Shared}, Inv (ncx CX P w K mg base N F f A outer s H E) [] σ' H' s' → L2.RelV v u → Q v H' → CE outer P w H s Q u s' :=
    fun {σ' H' v u s'} J rv q => ⟨v, H', J.os, J.bare, J.base, J.hok, rv, q⟩
  refine wpAny_mono (P1.run [] s1 _ H { nx := fun _ H' => Q .non H', rt := Q } I1 ?_) (fun fl s' hs => ?_) fun e s' hs => hs
  · refine ⟨u, rfl, .ref a, rfl, a, C, rfl, T.T, hfld, .inl ⟨ea, fun dx h1 h2 => hq dx h1 h2⟩⟩
  · cases fl with
    | ret u =>
      obtain ⟨v, σ', H', J, rv, q⟩ := hs
      exact fin J rv q
    | next =>
      obtain ⟨σ', H', J, q⟩ := hs
      exact fin (v := V.non) (u := Value.none) J rfl q
    | brk =>
      obtain ⟨_, _, _, q⟩ := hs
      exact False.elim q
    | cont =>
      obtain ⟨_, _, _, q⟩ := hs
      exact False.elim q
end DL
namespace DL
open PySem L2 He
structure FnE (P : Program) (w : World) (K : PySem.W.Frag) (mg : Str → Option Value) (base : Heap) (k : Nat) (C fld : Str) : Prop where
  ex : ∃ f fd ps, FnOk P w K mg base (L2N.CX P w) k f fd ps (spErr (ga K C) fld) ∧ PySem.W.findIn K (.ref (ga K C)) "__init__" = some (some (.ref f)) ∧ PySem.W.typeIn K (.ref f) = some (.type "function") ∧ Binds K fd ps []
  T : OexC K (ga K C)
  g : mg C = some (.ref (ga K C))
def dRaise (C fld : Str) (te : DTE) : DTS := fun D0 τ M => te τ M (fun d M1 => D0.xc ⟨C, [(fld, d)]⟩ τ M1) (D0.ex τ)
section
variable {X : Cx} {W : WX} {e : Expr} {te : DTE} {pos pos' p : Pos} {C fld : Str} {k : Nat}
theorem ds_raise (F : FnE X.prog X.w X.K X.mg X.base k C fld) (G : Gd X W) (hr : Room (k + 1) X.A) (he : DE X W e te) (hg : Gl X C := by rfl) (hdb : (C == ("__debug__" : Str)) = false := by decide)
    (hst : starEach [e] X.env = (false, eval e X.env) :: starEach [] X.env := by rfl) (hpl : (backTo pos (starEach [] X.env)).any (·.1) = false := by rfl) : DS X W (.Raise (some (.Call (.Name C p) [e] [] pos)) none pos') (dRaise C fld te) := by
  obtain ⟨f, fd, ps, Fk, hi, ht, hb⟩ := F.ex
  refine PS.of (L2N.ps_raise G.calm G.tk (pmk_oexN (dvs := []) (ds := []) F.T hi ht Fk hr hb .nil (fun pins σ H s e s' I h => L2N.passAt takes_none5N σ pins H s e s' I h) hg F.g (da_cons he da_nil (hs := hst)) hdb hst hpl)) fun D1 σ H ⟨τ, M, D0, S, h⟩ => ?_
  refine S.sub (R1 := RA X.K) (t := daCons te daNil) (G := fun ds M1 => match ds with
    | [d] => D0.xc ⟨C, [(fld, d)]⟩ τ M1
    | _ => False) h fun ds M1 vs H1 h1 r1 S1 s1 => ?_
  match ds, h1 with
  | [d], h1 =>
    obtain ⟨v, us, rfl, rv, rn⟩ := r1.uncons
    cases rn.unnil
    refine ⟨(by show (1 : Nat) ≤ 1000; decide), fun a ha => ⟨a, v, rfl, upd_same, fun dx hdx hne => ⟨rfl, dx, [(fld, v)], upd_same, by rw [upd_ne hne, upd_same], by rw [upd_ne hne] at hdx; exact hdx, ?_⟩⟩⟩
    have hdx1 : H1 dx = none := by rw [upd_ne hne] at hdx; exact hdx
    have e1 : upd (L2.del (upd (upd (upd H1 a (exo a (ga X.K C) none)) dx (exd dx [(fld, v)])) a (exo a (ga X.K C) (some dx))) a) dx (.xd [(fld, v)]) = upd H1 dx (.xd [(fld, v)]) := by
      funext b
      by_cases hb : b = dx
      · rw [hb, upd_same, upd_same]
      · rw [upd_ne hb, upd_ne hb]
        by_cases hba : b = a
        · rw [hba, L2.del_same, ha]
        · rw [L2.del_ne hba, upd_ne hba, upd_ne hb, upd_ne hba]
    rw [e1]
    have st : Stp M1 H1 M1 (upd H1 dx (.xd [(fld, v)])) := Stp.new hdx1
    exact S1.xc ⟨C, [(fld, d)]⟩ τ M1 _ _ σ _ h1 ⟨rfl, _, upd_same, S1.co.free hdx1, rfl, .cons (rv.stp st) .nil⟩ (S1.rs.stp st) (S1.co.new hdx1) st
def isE (C T : Str) : Bool := decide (T = C) || decide (T = "LentError")
structure ErrT (K : PySem.W.Frag) (Es Ts : List Str) : Prop where
  exm : ∀ C ∈ Es, PySem.W.exmOne K (.ref (ga K C)) (.ref (ga K "LentError")) = some true
  kit : ∀ C ∈ Es, ∀ T ∈ Ts, PySem.W.kitOne K (.ref (ga K C)) (.ref (ga K T)) = some (isE C T)
  kitV : ∀ C ∈ Es, PySem.W.kitOne K (.ref (ga K C)) (.type "ValueError") = some true
  cls : ∀ C ∈ Es, (PySem.W.clsIn K (ga K C)).isSome = true
  xf : ∀ C ∈ Es, XfC K (ga K C)
  cl : ∀ C ∈ Es, PySem.W.findIn K (.ref (ga K C)) "__class__" = some (some (.builtin "object.__class__"))
  top : ∀ C ∈ Es, PySem.W.mroIn K (ga K C) (.type "object") = some true
  sp : PySem.W.specialIn K (.builtin "object.__class__") "__get__" = some (some (.builtin "getset_descriptor.__get__"))
  tk : PySem.W.takesIn K (.builtin "object.__class__") = some true
def errTB (Es Ts : List Str) (K : PySem.W.Frag) : Bool :=
  Es.all (fun C => decide (PySem.W.exmOne K (.ref (ga K C)) (.ref (ga K "LentError")) = some true) && (Ts.all (fun T => decide (PySem.W.kitOne K (.ref (ga K C)) (.ref (ga K T)) = some (isE C T))) &&
    (decide (PySem.W.kitOne K (.ref (ga K C)) (.type "ValueError") = some true) && ((PySem.W.clsIn K (ga K C)).isSome && (xfB K (ga K C) && (He.eqO (PySem.W.findIn K (.ref (ga K C)) "__class__") (some (some (.builtin "object.__class__"))) &&
    decide (PySem.W.mroIn K (ga K C) (.type "object") = some true))))))) &&
  (decide (PySem.W.specialIn K (.builtin "object.__class__") "__get__" = some (some (.builtin "getset_descriptor.__get__"))) && decide (PySem.W.takesIn K (.builtin "object.__class__") = some true))
theorem errTB_ok {Es Ts : List Str} {K : PySem.W.Frag} (h : errTB Es Ts K = true) : ErrT K Es Ts := by
  obtain ⟨h1, h2⟩ := ba h
  obtain ⟨h3, h4⟩ := ba h2
  have hC := List.all_eq_true.mp h1
  refine ⟨fun C m => ?_, fun C m => ?_, fun C m => ?_, fun C m => ?_, fun C m => ?_, fun C m => ?_, fun C m => ?_, of_decide_eq_true h3, of_decide_eq_true h4⟩
  all_goals
    obtain ⟨a1, b1⟩ := ba (hC C m)
    obtain ⟨a2, b2⟩ := ba b1
    obtain ⟨a3, b3⟩ := ba b2
    obtain ⟨a4, b4⟩ := ba b3
    obtain ⟨a5, b5⟩ := ba b4
    obtain ⟨a6, a7⟩ := ba b5
  · exact of_decide_eq_true a1
  · exact fun T mT => of_decide_eq_true (List.all_eq_true.mp a2 T mT)
  · exact of_decide_eq_true a3
  · exact a4
  · exact xfB_ok a5
  · exact He.eqO_ok a6
  · exact of_decide_eq_true a7
def isED (C : Str) : D → Bool
  | .cl T => isE C T
  | .ty _ => true
  | _ => false
def okED (Ts : List Str) : D → Bool
  | .cl T => decide (T ∈ Ts)
  | .ty n => decide (n = "ValueError")
  | _ => false
def gIsE (a dd : Addr) (C : Str) (Ts : List Str) : DCb := fun xs M Q => match xs with
  | [.exc a' dd' C' _ _, z] => a' = a ∧ dd' = dd ∧ C' = C ∧ (match z with
    | .tup cs => cs.all (okED Ts) = true ∧ Q (.bl (cs.any (isED C))) M
    | z => okED Ts z = true ∧ Q (.bl (isED C z)) M)
  | _ => False
def rIsEx (K : PySem.W.Frag) (a dd D : Addr) : List V → Hp → VK → Prop := fun xs H Q => ∃ gs, H dd = some (.xd gs) ∧
  ((∃ (tp : Addr) (cs : List V) (us : List Value) (b : Bool), xs = [.ref a, .ref tp] ∧ (H tp = some (.tup cs) ∨ WrT K tp cs) ∧ Paired ClsV cs us ∧ PySem.W.kitAny K (.ref D) us = some b ∧ Q (.bl b) H) ∨
   ∃ (c : V) (u : Value) (b : Bool), xs = [.ref a, c] ∧ ClsV c u ∧ PySem.W.kitOne K (.ref D) u = some b ∧ Q (.bl b) H)
theorem call_isEx {X : Cx} {a dd : Addr} {C : Str} {oe : Obj} {pn : List (Addr × Obj)} {Es Ts : List Str} (T : ErrT X.K Es Ts) (hC : C ∈ Es) (hz : L2N.Zn (.ref (ga X.K C)) (some dd) oe) (hf : ∃ vs, oe.data = .fields vs) :
    CallR (X.suite a ((a, oe) :: pn)) (.builtin "isinstance") (rIsEx X.K a dd (ga X.K C)) := by
  intro pins s σ H xs us Q I r h
  obtain ⟨gs, hdd, h⟩ := h
  obtain ⟨hget, _⟩ := I.pin (a, oe) (List.mem_append.mpr (.inl List.mem_cons_self))
  obtain ⟨vs, hv⟩ := hf
  have hx : ObjOk X.prog X.w H s.heap dd (.xd gs) := I.hok dd _ hdd
  obtain ⟨mA, hns, _⟩ := hx
  obtain ⟨od, ho, _⟩ := lookIn_ns hns
  have J : PySem.W.InstAt s.heap a oe (ga X.K C) (some od) := ⟨hget, hz.1, by unfold PySem.W.notCls; rw [hv] <;> rfl, by rw [hz.zc.2]; exact ho⟩
  have Z := PySem.W.kitx_exc (K := X.K) (x := a) (C := ga X.K C) (ox := oe) (od := some od) (T.cls C hC) (T.xf C hC).ga (T.xf C hC).gg (T.xf C hC).exC (T.cl C hC) T.sp T.tk (T.top C hC)
  rcases h with ⟨tp, cs, ws, b, rfl, ht, hp, hk, q⟩ | ⟨c, u, b, rfl, hp, hk, q⟩
  · obtain ⟨u1, u2, rfl, r1, r2⟩ := vals2 r
    cases (show u1 = Value.ref a from r1)
    cases (show u2 = Value.ref tp from r2)
    rcases ht with ht | ⟨o, its, n, lk, h2, h3, _, rv⟩
    rotate_left
    · have e3 := ClsV.all hp rv
      subst e3
      obtain ⟨oc, odd, dt, sl⟩ := o
      simp only at h2 h3
      subst h2 h3
      exact PySem.W.kia_tup Z I.kIn J (by simpa using I.kIn _ _ lk) hk (fun z => nomatch z) fun tk => ⟨.bl b, H, I.kept (t' := tk) fun _ _ z => z, rfl, q⟩
    obtain ⟨_, its, rv, o, h1, h2, n, h3⟩ := (show ObjOk X.prog X.w H s.heap tp (.tup cs) from I.hok tp _ ht)
    have e3 := ClsV.all hp rv
    subst e3
    obtain ⟨oc, odd, dt, sl⟩ := o
    simp only at h2 h3
    subst h2 h3
    exact PySem.W.kia_tup Z I.kIn J h1 hk (fun z => nomatch z) fun tk => ⟨.bl b, H, I.kept (t' := tk) fun _ _ z => z, rfl, q⟩
  · obtain ⟨u1, u2, rfl, r1, r2⟩ := vals2 r
    cases (show u1 = Value.ref a from r1)
    have e2 := hp.eq r2
    subst e2
    exact PySem.W.kia_one Z I.kIn J hk (fun z => nomatch z) fun tk => ⟨.bl b, H, I.kept (t' := tk) fun _ _ z => z, rfl, q⟩
theorem rep_tupW {K : PySem.W.Frag} {M : Mu} {H : Hp} {ds : List D} {v : V} (r : Rep K M H (.tup ds) v) : ∃ a vs, v = .ref a ∧ ((H a = some (.tup vs) ∧ M a = none) ∨ WrN K a vs) ∧ Reps K M H ds vs := r
theorem cls_reps {K : PySem.W.Frag} {M : Mu} {H : Hp} {Ts : List Str} {C : Str} {Es : List Str} (T : ErrT K Es Ts) (hC : C ∈ Es) : ∀ {cs : List D} {vs : List V}, cs.all (okED Ts) = true → Reps K M H cs vs →
    ∃ us, Paired ClsV vs us ∧ PySem.W.kitAny K (.ref (ga K C)) us = some (cs.any (isED C))
  | [], _, _, r => by cases r.unnil; exact ⟨[], .nil, rfl⟩
  | c :: cs, _, h, r => by
    obtain ⟨v, vs, rfl, r1, r2⟩ := r.uncons
    obtain ⟨h1, h2⟩ := ba (show (okED Ts c && cs.all (okED Ts)) = true from h)
    obtain ⟨us, p, k⟩ := cls_reps T hC h2 r2
    cases c with
    | cl T' =>
      cases r1
      refine ⟨.ref (ga K T') :: us, .cons (.own _) p, ?_⟩
      unfold PySem.W.kitAny
      rw [T.kit C hC T' (of_decide_eq_true h1)]
      show _ = some (isE C T' || cs.any (isED C))
      cases isE C T' with
      | true => rfl
      | false => exact k
    | ty n =>
      cases r1
      have e : n = "ValueError" := of_decide_eq_true h1
      subst e
      refine ⟨.type "ValueError" :: us, .cons (.ty _) p, ?_⟩
      unfold PySem.W.kitAny
      rw [T.kitV C hC]
      rfl
    | _ => cases h1
theorem cb_isE {K : PySem.W.Frag} {a dd : Addr} {C : Str} {Es Ts : List Str} (T : ErrT K Es Ts) (hC : C ∈ Es) : CbD K (gIsE a dd C Ts) (rIsEx K a dd (ga K C)) := fun M H xs vs Q0 Q c r h q => by
  match xs, h with
  | [.exc a' dd' C' ns es, z], h =>
    obtain ⟨e1, e2, e3, h⟩ := h
    subst e1 e2 e3
    obtain ⟨v, us, rfl, r1, r2⟩ := r.uncons
    obtain ⟨u, us, rfl, r3, r4⟩ := r2.uncons
    cases r4.unnil
    obtain ⟨rfl, gs, g1, g2, g3, g4⟩ := (show v = .ref a' ∧ _ from r1)
    refine ⟨gs, g1, ?_⟩
    cases z with
    | tup cs =>
      obtain ⟨tp, ws, rfl, ht, rw⟩ := rep_tupW r3
      obtain ⟨us, p, k⟩ := cls_reps T hC h.1 rw
      exact .inl ⟨tp, ws, us, _, rfl, ht.elim (fun z => .inl z.1) (fun z => .inr z.1), p, k, q _ M _ H h.2 rfl c (Stp.refl M H)⟩
    | cl T' =>
      cases r3
      exact .inr ⟨_, _, _, rfl, .own _, T.kit C' hC T' (of_decide_eq_true h.1), q _ M _ H h.2 rfl c (Stp.refl M H)⟩
    | ty n =>
      cases r3
      have e : n = "ValueError" := of_decide_eq_true h.1
      subst e
      exact .inr ⟨_, _, _, rfl, .ty _, T.kitV C' hC, q _ M _ H h.2 rfl c (Stp.refl M H)⟩
    | _ => exact absurd h.1 Bool.false_ne_true
def dXF (a dd : Addr) (C f : Str) (te : DTE) : DTE := fun τ M Q E => te τ M (fun z M1 => match z with
  | .exc a' dd' C' ns ds => a' = a ∧ dd' = dd ∧ C' = C ∧ (match (ns.zip ds).lookup f with
    | some y => Q y M1
    | none => False)
  | _ => False) E
theorem zip_fld {K : PySem.W.Frag} {M : Mu} {H : Hp} {f : Str} {y : D} : ∀ {ns : List Str} {ds : List D} {gs : List (Str × V)}, gs.map (·.1) = ns → Reps K M H ds (gs.map (·.2)) → (ns.zip ds).lookup f = some y → ∃ v, gs.lookup f = some v ∧ Rep K M H y v
  | [], ds, gs, _, _, e => by cases e
  | n :: ns, [], gs, _, _, e => by cases e
  | n :: ns, d :: ds, [], h, _, _ => by cases h
  | n :: ns, d :: ds, (g, v) :: gs, h, r, e => by
    obtain ⟨h1, h2⟩ := List.cons.inj h
    have h1 : g = n := h1
    subst h1
    obtain ⟨v', us, e1, r1, r2⟩ := r.uncons
    obtain ⟨e2, e3⟩ := List.cons.inj e1
    subst e2 e3
    rw [List.zip_cons_cons, List.lookup_cons] at e
    rw [List.lookup_cons]
    cases q : (f == g) with
    | true =>
      rw [q] at e
      cases e
      exact ⟨_, rfl, r1⟩
    | false =>
      rw [q] at e
      exact zip_fld h2 r2 e
theorem de_xf {X : Cx} {W : WX} {a dd : Addr} {C f : Str} {oe : Obj} {pn : List (Addr × Obj)} {Es Ts : List Str} {e : Expr} {te : DTE} {pos : Pos} (T : ErrT X.K Es Ts) (hC : C ∈ Es) (hno : PySem.W.findIn X.K (.ref (ga X.K C)) f = some none)
    (hz : L2N.Zn (.ref (ga X.K C)) (some dd) oe) (hf : ∃ vs, oe.data = .fields vs) (he : DE (X.suite a ((a, oe) :: pn)) W e te) (hb : attributeBase e f X.env (eval e X.env) = eval e X.env := by rfl) :
    DE (X.suite a ((a, oe) :: pn)) W (.Attribute e f pos) (dXF a dd C f te) :=
  PE.of (pe_xf (T.xf C hC) hno hz.zc hf he hb) fun σ H Q ⟨τ, M, Q0, E0, S, h⟩ => S.sub h fun z M1 v H1 h1 r1 S1 s1 => by
    cases z with
    | exc a' dd' C' ns ds =>
      obtain ⟨e1, e2, e3, hh⟩ := h1
      subst e1 e2 e3
      obtain ⟨rfl, gs, g1, g2, g3, g4⟩ := (show v = .ref a' ∧ _ from r1)
      cases q : (ns.zip ds).lookup f with
      | none => rw [q] at hh; exact hh.elim
      | some y =>
        rw [q] at hh
        obtain ⟨u, h1, h2⟩ := zip_fld g3 g4 q
        exact ⟨rfl, rfl, dd', gs, u, rfl, g1, h1, S1.end_ hh h2⟩
    | _ => exact h1.elim
def suE (D0 : DEnds) (i : Nat) : DEnds := ⟨fun τ2 M2 => D0.nx (τ2.set i none) M2, D0.rt, fun τ2 M2 => D0.bk (τ2.set i none) M2, fun τ2 M2 => D0.ct (τ2.set i none) M2, fun _ _ _ => False⟩
def caE (Es : List Str) (i : Nat) (ts : Addr → Addr → Str → DTS) (D0 : DEnds) (x : XD) (τ : DSt) (M : Mu) : Prop :=
  x.cls ∈ Es ∧ x.fs ≠ [] ∧ ∀ a dd, M a = none → ts a dd x.cls (suE D0 i) (τ.set i (some (.exc a dd x.cls (x.fs.map (·.1)) (x.fs.map (·.2))))) M
def dTryAs (Es : List Str) (i : Nat) (tb : DTS) (ts : Addr → Addr → Str → DTS) : DTS := fun D0 τ M => tb ⟨D0.nx, D0.rt, D0.bk, D0.ct, caE Es i ts D0⟩ τ M
theorem ds_tryas {X : Cx} {W : WX} {n : Str} {body suite : List Stmt} {b₀ : Stmt} {np pos pos' : Pos} {tb : DTS} {ts : Addr → Addr → Str → DTS} {Es Ts : List Str} (i : Nat) (T : ErrT X.K Es Ts) (G : Gd X W) (hm : X.mg "LentError" = some (.ref (ga X.K "LentError")))
    (hb : ∀ (W1 : WX) (pn : List (Addr × Obj)) (xe : Value → Shared → Prop), Gd (X.tr pn xe) W1 → DSs (X.tr pn xe) W1 body tb)
    (hsu : ∀ (a dd : Addr) (C : Str) (oe : Obj) (pn : List (Addr × Obj)), C ∈ Es → L2N.Zn (.ref (ga X.K C)) (some dd) oe → (∃ vs, oe.data = .fields vs) → DSs (X.suite a ((a, oe) :: pn)) (fun _ _ _ _ => False) (b₀ :: suite) (ts a dd C))
    (hs : X.stack = X.env :: X.outer := by rfl) (hf : X.env.frame = some X.env.locals := by rfl) (hi : X.N[i]? = some n := by rfl) (hln : X.env.kindOf n = some .local := by rfl) (hg : Gl X "LentError" := by rfl) :
    DS X W (.Try body [.ExceptHandler (some (.Name "LentError" np)) (some n) (b₀ :: suite) pos'] [] [] pos) (dTryAs Es i tb ts) := by
  refine PS.of (L2N.ps_try_as (Wout := fun _ _ _ _ => False) (c := .ref (ga X.K "LentError")) (tb := fun W1 => lifS X.K W1 tb)
    (ts := fun a cls d D σ H => ∃ C dd, C ∈ Es ∧ cls = .ref (ga X.K C) ∧ d = some dd ∧ lifS X.K (fun _ _ _ _ => False) (ts a dd C) D σ H) hs hf G.nd hi hln ⟨hg, by decide, .inl hm⟩ takes_none5N
    (fun W1 pn xe tk hp => hb W1 pn xe ⟨G.calm, tk, G.hu, hp, G.nd⟩) (fun a oe cls d pn hz hf => ⟨fun pins s σ H D I h => ?_⟩)) fun D1 σ H ⟨τ, M, D0, S, h⟩ => ?_
  · obtain ⟨C, dd, hC, rfl, rfl, h⟩ := h
    exact (hsu a dd C oe pn hC hz hf).run pins s σ H D I h
  · refine ⟨τ, M, ⟨D0.nx, D0.rt, D0.bk, D0.ct, caE Es i ts D0⟩, ⟨S.rs, S.co, S.nx, S.rt, S.bk, S.ct, fun x τ' M' c d σ' H' h rx rs co st => ?_⟩, h⟩
    obtain ⟨hC, hne, h⟩ := (show caE Es i ts D0 x τ' M' from h)
    obtain ⟨rfl, rx⟩ := rx
    cases d with
    | none => exact absurd rx hne
    | some dd =>
      obtain ⟨gs, g1, g2, g3, g4⟩ := rx
      refine ⟨true, T.exm _ hC, fun _ a ha => ⟨x.cls, dd, hC, rfl, rfl, ?_⟩, fun z => by cases z⟩
      refine ⟨τ'.set i (some (.exc a dd x.cls (x.fs.map (·.1)) (x.fs.map (·.2)))), M', suE D0 i, ⟨rs.set (show Rep X.K M' H' (.exc a dd x.cls (x.fs.map (·.1)) (x.fs.map (·.2))) (.ref a) from ⟨rfl, gs, g1, g2, g3, g4⟩) i, co, ?_, ?_, ?_, ?_, fun _ _ _ _ _ _ _ z => z.elim⟩, h a dd (co.free ha)⟩
      · exact fun τ2 M2 σ2 H2 h2 r2 c2 s2 => S.nx _ M2 _ H2 h2 (r2.none i none) c2 (st.trans s2)
      · exact fun d2 M2 v2 H2 h2 r2 c2 s2 => S.rt d2 M2 v2 H2 h2 r2 c2 (st.trans s2)
      · exact fun τ2 M2 σ2 H2 h2 r2 c2 s2 => S.bk _ M2 _ H2 h2 (r2.none i none) c2 (st.trans s2)
      · exact fun τ2 M2 σ2 H2 h2 r2 c2 s2 => S.ct _ M2 _ H2 h2 (r2.none i none) c2 (st.trans s2)
end
end DL
namespace DL
open PySem L2 He
def onExc {K : List Str → List D → Prop} (a dd : Addr) (C : Str) (_ : Lk K) (z : D) : Prop := match z with
  | .exc a' dd' C' ns ds => a' = a ∧ dd' = dd ∧ C' = C ∧ K ns ds
  | _ => False
theorem onExc_e {K : List Str → List D → Prop} {a dd : Addr} {C : Str} {ns : List Str} {ds : List D} : onExc (K := K) a dd C ⟨⟩ (.exc a dd C ns ds) = K ns ds := by show (a = a ∧ dd = dd ∧ C = C ∧ K ns ds) = K ns ds; simp
section
variable {C f fld : Str} {te : DTE} {tb : DTS} {ts : Addr → Addr → Str → DTS} {τ : DSt} {M : Mu} {Q : DK} {E : DX} {D0 : DEnds} {i : Nat} {a dd : Addr} {Es Ts : List Str} {ns : List Str} {ds cs : List D} {d y : D}
theorem u_raise : dRaise C fld te D0 τ M = te τ M (fun d M1 => D0.xc ⟨C, [(fld, d)]⟩ τ M1) (D0.ex τ) := pq Iff.rfl
theorem u_tryas : dTryAs Es i tb ts D0 τ M = tb ⟨D0.nx, D0.rt, D0.bk, D0.ct, caE Es i ts D0⟩ τ M := pq Iff.rfl
theorem u_ca : caE Es i ts D0 ⟨C, [(fld, d)]⟩ τ M = (C ∈ Es ∧ ∀ a dd, M a = none → ts a dd C (suE D0 i) (τ.set i (some (.exc a dd C [fld] [d]))) M) := by
  show (C ∈ Es ∧ [(fld, d)] ≠ [] ∧ _) = _
  simp only [ne_eq, reduceCtorEq, not_false_eq_true, true_and]
  rfl
theorem su_mk {nx : DSt → Mu → Prop} {rt : DK} {bk ct : DSt → Mu → Prop} {xc : XD → DSt → Mu → Prop} : suE ⟨nx, rt, bk, ct, xc⟩ i = ⟨fun τ2 M2 => nx (τ2.set i none) M2, rt, fun τ2 M2 => bk (τ2.set i none) M2, fun τ2 M2 => ct (τ2.set i none) M2, fun _ _ _ => False⟩ := rfl
theorem isE_t : cbK (K := Q) ⟨⟩ (gIsE a dd C Ts) [.exc a dd C ns ds, .tup cs] M = (cs.all (okED Ts) = true ∧ Q (.bl (cs.any (isED C))) M) := by
  show (a = a ∧ dd = dd ∧ C = C ∧ _) = _
  simp
theorem isE_c {T' : Str} : cbK (K := Q) ⟨⟩ (gIsE a dd C Ts) [.exc a dd C ns ds, .cl T'] M = (T' ∈ Ts ∧ Q (.bl (isE C T')) M) := by
  show (a = a ∧ dd = dd ∧ C = C ∧ okED Ts (.cl T') = true ∧ Q (.bl (isED C (.cl T'))) M) = _
  show (a = a ∧ dd = dd ∧ C = C ∧ decide (T' ∈ Ts) = true ∧ Q (.bl (isE C T')) M) = _
  simp
theorem isE_v : cbK (K := Q) ⟨⟩ (gIsE a dd C Ts) [.exc a dd C ns ds, .ty "ValueError"] M = Q (.bl true) M := by
  show (a = a ∧ dd = dd ∧ C = C ∧ okED Ts (.ty "ValueError") = true ∧ Q (.bl true) M) = _
  have e : okED Ts (.ty "ValueError") = true := rfl
  simp [e]
theorem u_xf : dXF a dd C f te τ M Q E = te τ M (fun z M1 => onExc (K := fun ns ds => onSome (K := fun y => Q y M1) ⟨⟩ ((ns.zip ds).lookup f)) a dd C ⟨⟩ z) E := by
  unfold dXF
  congr 1
  funext z M1
  cases z with
  | exc a' dd' C' ns ds =>
    show (a' = a ∧ dd' = dd ∧ C' = C ∧ (match (ns.zip ds).lookup f with
      | some y => Q y M1
      | none => False)) = (a' = a ∧ dd' = dd ∧ C' = C ∧ onSome (K := fun y => Q y M1) ⟨⟩ ((ns.zip ds).lookup f))
    cases (ns.zip ds).lookup f <;> rfl
  | _ => rfl
theorem zip_1 : (([f] : List Str).zip [y]).lookup f = some y := by rw [List.zip_cons_cons, List.lookup_cons, beq_self_eq_true]
end
def exCB (C : Str) (K : PySem.W.Frag) : Bool := match K.lookup (ga K C) with
  | some ⟨.type "type", _, .cls cd, sl⟩ => (match cd.mro, sl.toList with
    | .ref C' :: bm, [_, _, _, _, some (.builtin n), _] => decide (C' = ga K C) && (decide (n = "ValueError.__new__") && (!cd.hasDel && (cd.hasDict && PySem.HandSPX.refsVE bm)))
    | _, _ => false)
  | _ => false
theorem exCB_ok {C : Str} {K : PySem.W.Frag} (h : exCB C K = true) : ∃ nm q N bs bm sn sub ab col dd k0 k1 k2 k3 k5, K.lookup (ga K C) = some (excClassObj nm q (ga K C) N bs bm true sn sub ab col dd k0 k1 k2 k3 k5 "ValueError.__new__") ∧ PySem.HandSPX.refsVE bm = true := by
  unfold exCB at h
  split at h
  · rename_i dd cd sl ho
    split at h
    · rename_i C' bm k0 k1 k2 k3 n k5 hm hs
      obtain ⟨e1, h⟩ := ba h
      obtain ⟨e2, h⟩ := ba h
      obtain ⟨e3, h⟩ := ba h
      obtain ⟨e4, e5⟩ := ba h
      have e1 := of_decide_eq_true e1
      have e2 := of_decide_eq_true e2
      obtain ⟨nm, bs, mro, ns, qn, hd, sn, sub, ab, col, del⟩ := cd
      dsimp only at hm e3 e4
      have e3 : del = false := by simpa using e3
      subst hm e1 e2 e3 e4
      have hsl : sl = #[k0, k1, k2, k3, some (.builtin "ValueError.__new__"), k5] := by
        obtain ⟨l⟩ := sl
        simp only at hs
        rw [hs]
      subst hsl
      exact ⟨nm, qn, ns, bs, bm, sn, sub, ab, col, dd, k0, k1, k2, k3, k5, ho, e5⟩
    · cases h
  · cases h
def errCB (C fld : Str) (K : PySem.W.Frag) : Bool :=
  exCB C K && (eqO (PySem.W.findIn K (.ref (ga K C)) "__setattr__") (some (some (.builtin "object.__setattr__"))) && (decide (PySem.W.subIn K (.ref (ga K C)) (.type "BaseException") = some true) && (decide (PySem.W.typeIn K (.ref (ga K C)) = some (.type "type")) &&
  (PySem.W.keepIn K (.ref (ga K C)) && (eqO (PySem.W.ks_superIn K (ga K C) (ga K C) "__init__") (some (some (.builtin "ValueError.__init__"))) && (decide (PySem.W.subIn K (.ref (ga K C)) (.type "ValueError") = some true) &&
  (decide (PySem.W.mroIn K (ga K C) (.ref (ga K C)) = some true) && (eqO (PySem.W.nsIn K cStatics "thirdparty.any") (some none) && (eqO (PySem.W.findIn K (.ref (ga K C)) fld) (some none) &&
  (eqO (PySem.W.findIn K (.ref (ga K C)) "__init__") (some (some (.ref (ma K (ga K C) "__init__")))) && decide (PySem.W.typeIn K (.ref (ma K (ga K C) "__init__")) = some (.type "function"))))))))))))
theorem errCB_ok {C fld : Str} {K : PySem.W.Frag} (h : errCB C fld K = true) : ErrC K (ga K C) ∧ PySem.W.findIn K (.ref (ga K C)) fld = some none ∧ PySem.W.findIn K (.ref (ga K C)) "__init__" = some (some (.ref (ma K (ga K C) "__init__"))) ∧ PySem.W.typeIn K (.ref (ma K (ga K C) "__init__")) = some (.type "function") := by
  obtain ⟨h1, h⟩ := ba h
  obtain ⟨h2, h⟩ := ba h
  obtain ⟨h3, h⟩ := ba h
  obtain ⟨h4, h⟩ := ba h
  obtain ⟨h5, h⟩ := ba h
  obtain ⟨h6, h⟩ := ba h
  obtain ⟨h7, h⟩ := ba h
  obtain ⟨h8, h⟩ := ba h
  obtain ⟨h9, h⟩ := ba h
  obtain ⟨h10, h⟩ := ba h
  obtain ⟨h11, h12⟩ := ba h
  exact ⟨⟨⟨exCB_ok h1, eqO_ok h2, of_decide_eq_true h3, of_decide_eq_true h4, h5⟩, eqO_ok h6, of_decide_eq_true h7, of_decide_eq_true h8, eqO_ok h9⟩, eqO_ok h10, eqO_ok h11, of_decide_eq_true h12⟩
structure DefE where
  C : Str
  qual : Str
  params : Arguments
  body : List Stmt
  scope : Scope
  file : Str
def fnE (K : PySem.W.Frag) (a : Addr) : He5.FnW := match K.lookup a with
  | some ⟨_, _, .func fd, _⟩ => some (fd.name, fd.qualname, fd.params, fd.body, fd.scope, fd.globals, fd.closure.map fun q => (q.1, 0), fd.builtins)
  | _ => none
def DefE.val (d : DefE) : He5.FnW := some ("__init__", d.qual, d.params, .stmts d.body, d.scope, mainGlobals, [("__class__", 0)], builtinsNs)
def DefE.ok (K : PySem.W.Frag) (d : DefE) : Bool := match K.lookup (ma K (ga K d.C) "__init__") with
  | some ⟨_, _, .func fd, _⟩ => (match fd.closure, fd.code, fd.defaults with
    | [(_, cc)], .ref cda, .none => PySem.W.codeIn K (.ref cda) d.qual && ((match K.lookup cc with
      | some ⟨_, _, .cell (some (.ref D)), _⟩ => decide (D = ga K d.C)
      | _ => false) && (match K.lookup cda with
      | some ⟨_, _, .fields vs, _⟩ => (match (vs[2]? : Option Value) with
        | some (.str f _) => decide (f = d.file)
        | _ => false)
      | _ => false))
    | _, _, _ => false)
  | _ => false
theorem DefE.errD {K : PySem.W.Frag} {d : DefE} (e : fnE K (ma K (ga K d.C) "__init__") = d.val) (c : d.ok K = true) : ∃ cc cda fd, ErrD K "__init__" d.qual d.params d.body d.scope (ga K d.C) (ma K (ga K d.C) "__init__") cc cda d.file fd := by
  unfold fnE at e
  unfold DefE.ok at c
  cases q : K.lookup (ma K (ga K d.C) "__init__") with
  | none =>
    rw [q] at c
    cases c
  | some o =>
    obtain ⟨oc, od, dt, osl⟩ := o
    rw [q] at c e
    cases dt with
    | func fd =>
      obtain ⟨n1, n2, n3, n4, n5, n6, n7, n8, n9, n10, n11, n12, n13, n14, n15⟩ := fd
      have e2 : (some (n1, n2, n3, n4, n5, n6, n7.map fun q => (q.1, 0), n15) : He5.FnW) = some (("__init__" : Str), d.qual, d.params, FuncBody.stmts d.body, d.scope, mainGlobals, [(("__class__" : Str), 0)], builtinsNs) := e
      simp only [Option.some.injEq, Prod.mk.injEq] at e2
      obtain ⟨h1, h2, h3, h4, h5, h6, h7, h8⟩ := e2
      dsimp only at c
      split at c
      · rename_i nm cc cda
        obtain ⟨c1, c⟩ := ba c
        obtain ⟨c2, c3⟩ := ba c
        subst h1 h2 h3 h4 h5 h6 h8
        have h9 : nm = "__class__" := by
          have := List.cons.inj h7
          exact congrArg Prod.fst this.1
        subst h9
        refine ⟨cc, cda, _, ⟨oc, od, n9, n10, n11, n12, n14, osl, rfl, q⟩, c1, ?_, ?_⟩
        · split at c2
          · rename_i cl cld D csl ho
            have e := of_decide_eq_true c2
            subst e
            exact ⟨cl, cld, csl, ho⟩
          · cases c2
        · split at c3
          · rename_i ccl cdd vs ccs ho
            split at c3
            · rename_i f tf hv
              have e := of_decide_eq_true c3
              subst e
              exact ⟨ccl, cdd, vs, ccs, tf, ho, hv⟩
            · cases c3
          · cases c3
      · cases c
    | _ => cases c
abbrev AlE : Type := AlZ × (Bool × List He5.FnW)
def obsE (fa : List Fa) (fn : List DefD) (gb : List (PySem.W.Frag → Bool)) (ts : List Tab) (fx : List He5.DefA) (fe : List DefE) (K : PySem.W.Frag) : AlE := (obsZ fa fn gb ts fx K, fe.all fun d => d.ok K, fe.map fun d => fnE K (ma K (ga K d.C) "__init__"))
def valE (fn : List DefD) (ts : List Tab) (fx : List He5.DefA) (fe : List DefE) (w : World) : AlE := (valZ fn ts fx w, true, fe.map DefE.val)
def SaysE (fa : List Fa) (fn : List DefD) (gb : List (PySem.W.Frag → Bool)) (ts : List Tab) (fx : List He5.DefA) (fe : List DefE) (w : World) (K : PySem.W.Frag) : Prop := obsE fa fn gb ts fx fe K = valE fn ts fx fe w
section
variable {fa : List Fa} {fn : List DefD} {gb : List (PySem.W.Frag → Bool)} {ts : List Tab} {fx : List He5.DefA} {fe : List DefE} {w : World} {K : PySem.W.Frag}
theorem SaysE.z (c : SaysE fa fn gb ts fx fe w K) : SaysZ fa fn gb ts fx w K := congrArg (fun z : AlE => z.1) c
theorem SaysE.err_ (c : SaysE fa fn gb ts fx fe w K) (i : Nat) {d : DefE} (h : fe[i]? = some d := by rfl) : ∃ cc cda fd, ErrD K "__init__" d.qual d.params d.body d.scope (ga K d.C) (ma K (ga K d.C) "__init__") cc cda d.file fd := by
  have c2 : (fe.all fun d => d.ok K) = true := congrArg (fun z : AlE => z.2.1) c
  have e : fe.map (fun d => fnE K (ma K (ga K d.C) "__init__")) = fe.map DefE.val := congrArg (fun z : AlE => z.2.2) c
  have e2 : (fe.map fun d => fnE K (ma K (ga K d.C) "__init__"))[i]? = (fe.map DefE.val)[i]? := by rw [e]
  rw [List.getElem?_map, List.getElem?_map, h] at e2
  exact DefE.errD (Option.some.inj e2) (List.all_eq_true.mp c2 d (List.mem_of_getElem? h))
end
theorem fnE_of {P : Program} {w : World} {K : PySem.W.Frag} {mg : Str → Option Value} {base : Heap} {k : Nat} {x qual : Str} {params : Arguments} {body : List Stmt} {scope : Scope} {C fld : Str} {cc cda : Addr} {file : Str} {fd : FuncData} {ps : List Str}
    (D : ErrD K x qual params body scope (ga K C) (ma K (ga K C) "__init__") cc cda file fd) (F : FnOk P w K mg base (L2N.CX P w) k (ma K (ga K C) "__init__") fd ps (spErr (ga K C) fld)) (c : errCB C fld K = true) (g : mg C = some (.ref (ga K C)))
    (hb : ∀ (kV doc pm : Value) (an : Option Addr) (ct : Value) (us : List Value), us.length = ps.length → bindArgs (PySem.W.fnX x qual params body scope [("__class__", cc)] .none kV doc pm an (.ref cda) ct) ⟨us, []⟩ = pure (ps.zip us)) : FnE P w K mg base k C fld := by
  obtain ⟨c1, c2, c3, c4⟩ := errCB_ok c
  obtain ⟨oc, od, kV, doc, pm, an, ct, osl, rfl, lk⟩ := D.ex
  exact ⟨⟨_, _, ps, F, c3, c4, Binds.all (hb kV doc pm an ct)⟩, c1.T, g⟩
end DL
namespace DL
open PySem L2 He
def gTuple : DCb := fun xs M Q => match xs with
  | [.lst ds] => Q (.tup ds) M
  | [.tup ds] => Q (.tup ds) M
  | [.ref a] => (match M a with
    | some (.lst ds) => Q (.tup ds) M
    | _ => False)
  | _ => False
def gDivmod : DCb := fun xs M Q => match xs with
  | [.int i, .int j] => CDiv i j ∧ Q (.tup [.int (i / j), .int (i % j)]) M
  | _ => False
def gUpper : DMt := fun x xs M Q => match x, xs with
  | .str t, [] => t.length ≤ 5592405 ∧ Q (.str (T (PySem.Txt.upper (sx t)))) M
  | _, _ => False
def gIndexT : DMt := fun x xs M Q => match x, xs with
  | .tup ds, [.str y] => ∃ (ts : List Tx) (j : Nat), ds = ts.map D.str ∧ ts[j]? = some y ∧ (∀ m, m < j → ts[m]? ≠ some y) ∧ Q (.int (j : Nat)) M
  | _, _ => False
section
variable {K : PySem.W.Frag}
end
def dIdxC (ts : List Tx) (te : DTE) : DTE := fun τ M Q E => te τ M (fun y M1 => match y with
  | .str x => ∃ j : Nat, ts[j]? = some x ∧ (∀ m, m < j → ts[m]? ≠ some x) ∧ Q (.int (j : Nat)) M1
  | _ => False) E
section
variable {M : Mu} {Q : DK} {ds : List D}
theorem u_idxC {ts : List Tx} {te : DTE} {τ : DSt} {E : DX} : dIdxC ts te τ M Q E = te τ M (fun y M1 => onStr (K := fun x => ∃ j : Nat, ts[j]? = some x ∧ (∀ m, m < j → ts[m]? ≠ some x) ∧ Q (.int (j : Nat)) M1) ⟨⟩ y) E := by
  unfold dIdxC
  congr 1
theorem tuple_l : cbK (K := Q) ⟨⟩ gTuple [.lst ds] M = Q (.tup ds) M := pq Iff.rfl
theorem tuple_t : cbK (K := Q) ⟨⟩ gTuple [.tup ds] M = Q (.tup ds) M := pq Iff.rfl
theorem divmod_i {i j : Int} : cbK (K := Q) ⟨⟩ gDivmod [.int i, .int j] M = (CDiv i j ∧ Q (.tup [.int (i / j), .int (i % j)]) M) := pq Iff.rfl
theorem indexT_t {y : Tx} : mtK (K := Q) ⟨⟩ gIndexT (.tup ds) [.str y] M = (∃ (ts : List Tx) (j : Nat), ds = ts.map D.str ∧ ts[j]? = some y ∧ (∀ m, m < j → ts[m]? ≠ some y) ∧ Q (.int (j : Nat)) M) := pq Iff.rfl
theorem upper_s {t : Tx} : mtK (K := Q) ⟨⟩ gUpper (.str t) [] M = (t.length ≤ 5592405 ∧ Q (.str (T (PySem.Txt.upper (sx t)))) M) := pq Iff.rfl
end
end DL
namespace DL
open PySem L2
def gIsB (nb : Bool → Bool) : DOp := fun x y M Q => match x, y with
  | .bl a, .bl b => Q (.bl (nb (a == b))) M
  | _, _ => False
theorem isB_t {nb : Bool → Bool} {a : Bool} {M : Mu} {Q : DK} : opK (K := Q) ⟨⟩ (gIsB nb) (.bl a) (.bl true) M = Q (.bl (nb a)) M := pq (by show Q (.bl (nb (a == true))) M ↔ _; rw [show (a == true) = a by cases a <;> rfl])
theorem isB_f {nb : Bool → Bool} {a : Bool} {M : Mu} {Q : DK} : opK (K := Q) ⟨⟩ (gIsB nb) (.bl a) (.bl false) M = Q (.bl (nb !a)) M := pq (by show Q (.bl (nb (a == false))) M ↔ _; rw [show (a == false) = !a by cases a <;> rfl])
end DL
namespace DL
open PySem PySem.W L2 He
theorem run_of {r : PySem.W.OpenRow} {q : Program} {H : PySem.W.Hook} {ob : PySem.W.SharedT → H.α} {M : Nat} {loose : List PySem.Str} {w : World}
    (h1 : ∀ os : OsState, (HandSHeadRun.endF (HandSHeadRun.stepQ (HandSHeadRun.denQ HandSHeadRun.tabQ) r.prog w) M r.prog w os).map (fun s => HandSHeadRun.looksF r.prog (PySem.W.boot_heap w.params) s.abs) = some true)
    (h2 : ∀ os : OsState, (HandSHeadRun.endF (HandSHeadRun.stepQ (HandSHeadRun.denQ HandSHeadRun.tabQ) r.prog w) M r.prog w os).map (fun s => HandSHeadRun.seenQ q loose (importedModules r.prog.main.body) (fun s => PySem.W.xlAt q [] s && PySem.W.recOk r.records s) s.abs) = some (PySem.W.openGood q loose))
    (h3 : ∀ os : OsState, (HandSHeadRun.endF (HandSHeadRun.stepQ (HandSHeadRun.denQ HandSHeadRun.tabQ) r.prog w) M r.prog w os).map ob = some (H.val w)) : HandSHeadRun.RunEq r q H ob M loose w := by
  intro os
  have h1 := h1 os
  have h2 := h2 os
  have h3 := h3 os
  generalize HandSHeadRun.endF (HandSHeadRun.stepQ (HandSHeadRun.denQ HandSHeadRun.tabQ) r.prog w) M r.prog w os = e at h1 h2 h3 ⊢
  cases e with
  | none => cases h1
  | some s =>
    simp only [Option.map_some, Option.some.injEq] at h1 h2 h3 ⊢
    rw [h1, h2, h3]
def addNew : List Addr → Nat → List Addr → Nat × List Addr
  | [], m, nw => (m, nw)
  | a :: r, m, nw => match Nat.beq (Nat.land (Nat.shiftRight m a) 1) 1 with
    | true => addNew r m nw
    | false => addNew r (Nat.lor m (Nat.shiftLeft 1 a)) (a :: nw)
def refsG (g : Addr → Option Obj) : List Addr → List Addr
  | [] => []
  | a :: r => match g a with
    | some o => He.refsD o ++ refsG g r
    | none => refsG g r
def asF (g : Addr → Option Obj) : Nat → Nat → List Addr → List Addr
  | 0, _, fr => fr
  | n + 1, m, fr => fr ++ (match addNew (refsG g fr) m [] with
    | (m, nw) => asF g n m nw)
def asQ (g : Addr → Option Obj) (n : Nat) : List Addr := cStatics :: asF g n (Nat.shiftLeft 1 mainGlobals) [mainGlobals]
def obsEQ (n : Nat) (fa : List He.Fa) (fn : List He.DefD) (gb : List (PySem.W.Frag → Bool)) (ts : List He.Tab) (fx : List He5.DefA) (fe : List DefE) (g : Addr → Option Obj) : AlE := obsE fa fn gb ts fx fe (He.frG g (asQ g n))
def hookQ (n : Nat) (fa : List He.Fa) (fn : List He.DefD) (gb : List (PySem.W.Frag → Bool)) (ts : List He.Tab) (fx : List He5.DefA) (fe : List DefE) : PySem.W.Hook where
  α := AlE
  obs := fun s => obsEQ n fa fn gb ts fx fe s.heap.get?
  val := fun w => valE fn ts fx fe w
  says := fun w h => ∃ K : PySem.W.Frag, K.In h ∧ SaysE fa fn gb ts fx fe w K
  of := fun _ _ e => ⟨_, He.frG_in, e⟩
  keeps := fun _ _ _ ⟨K, hK, c⟩ k => ⟨K, hK.keeps k, c⟩
theorem obsEQ_eq {n : Nat} {fa : List He.Fa} {fn : List He.DefD} {gb : List (PySem.W.Frag → Bool)} {ts : List He.Tab} {fx : List He5.DefA} {fe : List DefE} {g : Addr → Option Obj} {s : Shared} (h : ∀ a, g a = s.heap.get? a) : obsEQ n fa fn gb ts fx fe g = (hookQ n fa fn gb ts fx fe).obs s := by
  rw [funext h] <;> rfl
end DL
namespace DL
open PySem L2
def ltT (a b : Tx) : Bool := decide (a < b)
def gLtS : DOp := fun x y M Q => match x, y with
  | .str a, .str b => Q (.bl (ltT a b)) M
  | _, _ => False
def gGtS : DOp := fun x y M Q => match x, y with
  | .str a, .str b => Q (.bl (ltT b a)) M
  | _, _ => False
theorem ltS_s {a b : Tx} {M : Mu} {Q : DK} : opK (K := Q) ⟨⟩ gLtS (.str a) (.str b) M = Q (.bl (ltT a b)) M := pq Iff.rfl
theorem gtS_s {a b : Tx} {M : Mu} {Q : DK} : opK (K := Q) ⟨⟩ gGtS (.str a) (.str b) M = Q (.bl (ltT b a)) M := pq Iff.rfl
def rSortedSA (K : PySem.W.Frag) : List V → Hp → VK → Prop := fun vs H Q => ∃ (a : Addr) (xs : List Str), vs = [V.ref a] ∧ SqL K H a (xs.map V.str) ∧
  ∀ (ys : List Str) (p : Addr), ys.Perm xs → PyProof.Rows.sortedS ys = true → H p = none → Q (.ref p) (upd H p (.lst (ys.map V.str)))
theorem cr_sortedSA {X : Cx} : CallR X (.builtin "sorted") (rSortedSA X.K) := by
  intro pins s σ H vs us Q I r h
  obtain ⟨a, xs, rfl, hs, q⟩ := h
  obtain ⟨its, rv, hl, hz⟩ := I.list hs
  rw [Vals.ref1 r]
  refine PyProof.Rows.sortedKAny PyProof.Rows.strKind_oneLt hl.isList (PyProof.Rows.StrsAre.keysOf rv.strs) (fun v₁ v₂ rest e => PyProof.Rows.keyKind_strs (by rw [← e]; exact rv.strs)) (by rw [← rv.length]; exact hz) fun st' hp hs => ?_
  obtain ⟨ys, h1, h2, h3⟩ := PyProof.Rows.sorted_out_str rv.strs hp hs
  obtain ⟨ep, he'⟩ := PyProof.Rows.sortedAll_at s.heap its ((PyProof.Rows.arrOf st').map (·.2))
  have hlen : (ys.map V.str).length ≤ sizeLine := by rw [List.length_map, h2.length_eq]; rw [List.length_map] at hz; exact hz
  exact ⟨.ref _, upd H (s.heap.objs.size + 1) (.lst (ys.map V.str)), I.laid (t' := s.toks) (fun _ _ => PyProof.Rows.sortedAll_old) (Nat.le_succ _) ⟨hlen, _, ep, vals_of_strs h1, he'⟩, rfl, q ys _ h2 h3 (I.hok.fresh (Nat.le_succ _))⟩
def gSorted : DCb := fun xs M Q => match xs with
  | [.lst ds] => ∃ ts : List Tx, ds = ts.map D.str ∧ ∀ us : List Tx, us.Perm ts → PyProof.Rows.sortedS (us.map sx) = true → Q (.lst (us.map D.str)) M
  | _ => False
theorem cb_sorted {K : PySem.W.Frag} : CbD K gSorted (rSortedSA K) := fun M H xs vs Q0 Q c r h q => by
  match xs, h with
  | [.lst ds], h =>
    obtain ⟨v, u, rfl, r1, r2⟩ := r.uncons
    cases r2.unnil
    obtain ⟨a, vs, rfl, ha, ma, ra⟩ := rep_of_lst r1
    obtain ⟨ts, rfl, k⟩ := (show ∃ ts : List Tx, ds = ts.map D.str ∧ ∀ us : List Tx, us.Perm ts → PyProof.Rows.sortedS (us.map sx) = true → Q0 (.lst (us.map D.str)) M from h)
    obtain rfl := ra.strs
    refine ⟨a, ts.map sx, rfl, .inl (.inl ha), fun ys p hp hs hn => ?_⟩
    have ey : ys = (ys.map T).map sx := by
      rw [List.map_map]
      conv => lhs; rw [← List.map_id ys]
      exact List.map_congr_left fun y _ => (sx_T y).symm
    have hp2 : (ys.map T).Perm ts := by
      have := hp.map T
      rw [List.map_map, show (T ∘ sx) = id from funext T_sx, List.map_id] at this
      exact this
    have k2 := k (ys.map T) hp2 (by rw [← ey]; exact hs)
    have rz : Reps K M H ((ys.map T).map D.str) (ys.map V.str) := by
      have := Reps.of_strs (K := K) (M := M) (H := H) (ys.map T)
      rw [← ey] at this
      exact this
    exact new_lst c rz k2 q p hn
theorem sorted_l {ds : List D} {M : Mu} {Q : DK} : cbK (K := Q) ⟨⟩ gSorted [.lst ds] M = (∃ ts : List Tx, ds = ts.map D.str ∧ ∀ us : List Tx, us.Perm ts → PyProof.Rows.sortedS (us.map sx) = true → Q (.lst (us.map D.str)) M) := pq Iff.rfl
def keyK {K : DKey → Prop} (_ : Lk K) (d : D) : Prop := match d with
  | .str x => K (.inr x)
  | .int i => K (.inl i)
  | _ => False
theorem keyK_s {K : DKey → Prop} {x : Tx} : keyK (K := K) ⟨⟩ (.str x) = K (.inr x) := pq Iff.rfl
theorem keyK_i {K : DKey → Prop} {x : Int} : keyK (K := K) ⟨⟩ (.int x) = K (.inl x) := pq Iff.rfl
def dDGet (td ty tx : DTE) : DTE := fun τ M Q E => td τ M (fun d M1 => onRef (K := fun a => onDR (K := fun _ => ty τ M1 (fun y M2 => tx τ M2 (fun z M3 => keyK (K := fun k => onDR (K := fun kvs => Q ((lookK kvs k).getD z) M3) ⟨⟩ (M3 a)) ⟨⟩ y) E) E) ⟨⟩ (M1 a)) ⟨⟩ d) E
theorem u_dget {td ty tx : DTE} {τ : DSt} {M : Mu} {Q : DK} {E : DX} : dDGet td ty tx τ M Q E = td τ M (fun d M1 => onRef (K := fun a => onDR (K := fun _ => ty τ M1 (fun y M2 => tx τ M2 (fun z M3 => keyK (K := fun k => onDR (K := fun kvs => Q ((lookK kvs k).getD z) M3) ⟨⟩ (M3 a)) ⟨⟩ y) E) E) ⟨⟩ (M1 a)) ⟨⟩ d) E := pq Iff.rfl
theorem onDR_dOf {K : List (DKey × D) → Prop} {o : Option MO} (h : onDR (K := K) ⟨⟩ o) : ∃ mo kvs, o = some mo ∧ dOf mo = some kvs ∧ K kvs := by
  cases o with
  | none => exact h.elim
  | some mo => cases mo with
    | dK kvs => exact ⟨_, kvs, rfl, rfl, h⟩
    | fK kvs u => exact ⟨_, kvs, rfl, rfl, h⟩
    | _ => exact h.elim
section
variable {X : Cx} {W : WX} {o e f : Expr} {td ty tx : DTE} {apos cpos : Pos}
theorem de_dget (G : Gd X W) (ho : DE X W o td) (he : DE X W e ty) (hf : DE X W f tx) (m : M2 X o "get" apos e f cpos) : DE X W (.Call (.Attribute o "get" apos) [e, f] [] cpos) (dDGet td ty tx) :=
  PE.of (pe_dget2 G.hu1 ho he hf m) fun σ H Q ⟨τ, M, Q0, E0, S, h⟩ => S.sub h fun d M1 v H1 h1 r1 S1 s1 => by
    cases d with
    | ref a =>
      cases r1
      have h1 : onDR (K := fun _ => ty τ M1 (fun y M2 => tx τ M2 (fun z M3 => keyK (K := fun k => onDR (K := fun kvs => Q0 ((lookK kvs k).getD z) M3) ⟨⟩ (M3 a)) ⟨⟩ y) E0) E0) ⟨⟩ (M1 a) := h1
      obtain ⟨mo, kvs, em, ed, h2⟩ := onDR_dOf h1
      obtain ⟨ks, hr, _, _⟩ := mu_dR S1.co em ed
      refine ⟨a, rfl, .inl ⟨ks, hr⟩, S1.sub h2 fun y M2 w H2 h3 r2 S2 s2 => S2.sub h3 fun z M3 w3 H3 h4 r3 S3 s3 => ?_⟩
      have ry := r2.stp s3
      have go : ∀ k : DKey, w = kV (kO k) → onDR (K := fun kvs => Q0 ((lookK kvs k).getD z) M3) ⟨⟩ (M3 a) → ∃ o, DGet H3 a w o ∧ Q (o.getD w3) H3 := fun k ek h5 => by
        obtain ⟨mo3, kvs3, em3, ed3, h6⟩ := onDR_dOf h5
        obtain ⟨ks3, hr3, ek3, ra3⟩ := mu_dR S3.co em3 ed3
        refine ⟨valV ks3 (kO k), .inl ⟨ks3, kO k, hr3, ek, rfl⟩, ?_⟩
        have lr := look_rep (k := k) ek3 ra3
        cases q : lookK kvs3 k with
        | none =>
          rw [q] at h6 lr
          rw [lr]
          exact S3.end_ h6 r3
        | some d =>
          rw [q] at h6 lr
          obtain ⟨u, e1, e2⟩ := lr
          rw [e1]
          exact S3.end_ h6 e2
      cases y with
      | str x => exact go (.inr x) ry h4
      | int i => exact go (.inl i) ry h4
      | _ => exact h4.elim
    | _ => exact h1.elim
end
def onRowsR (C f : Str) (M : Mu) (d : D) (K : List D → Prop) : Prop := ∃ a fs p ds, d = .ref a ∧ M a = some (.ins C fs) ∧ fs.lookup f = some (.ref p) ∧ M p = some (.lst ds) ∧ K ds
def gLenOR (C f : Str) : DCb := fun xs M Q => match xs with
  | [d] => onRowsR C f M d fun ds => Q (.int ds.length) M
  | _ => False
def gListOR (C f : Str) : DCb := fun xs M Q => match xs with
  | [d] => onRowsR C f M d fun ds => Q (.lst ds) M
  | _ => False
section
variable {K : PySem.W.Frag} {C f : Str}
end
theorem lenOR_r {C f : Str} {M : Mu} {Q : DK} {d : D} : cbK (K := Q) ⟨⟩ (gLenOR C f) [d] M = onRowsR C f M d (fun ds => Q (.int ds.length) M) := pq Iff.rfl
theorem listOR_r {C f : Str} {M : Mu} {Q : DK} {d : D} : cbK (K := Q) ⟨⟩ (gListOR C f) [d] M = onRowsR C f M d (fun ds => Q (.lst ds) M) := pq Iff.rfl
end DL
namespace DL
open PySem L2 He
section
variable {X : Cx} {W : WX} {C f : Str} {e tg : Expr}
def diOwn (C f : Str) (te : DTE) : DTI := fun τ M Q E => te τ M (fun d M1 => onRows C f M1 d fun ds => Q ds M1) E
theorem r_own {te : DTE} {τ : DSt} {M : Mu} {Ql : List D → Mu → Prop} {E : DX} : diOwn C f te τ M Ql E = te τ M (fun d M1 => onRows C f M1 d fun ds => Ql ds M1) E := pq Iff.rfl
end
end DL
namespace DL
open PySem L2
theorem atI_nat {α : Type} {xs : List α} {i : Nat} (h : i < xs.length) : atI xs (i : Int) = some xs[i] := by
  unfold atI ixN
  rw [if_pos (by omega), if_pos (by omega)]
  show xs[(i : Int).toNat]? = _
  rw [Int.toNat_natCast, List.getElem?_eq_getElem h]
theorem atI_of {α : Type} {xs : List α} {i : Int} {x : α} (h0 : 0 ≤ i) (h : xs[i.toNat]? = some x) : atI xs i = some x := by
  have hl := (List.getElem?_eq_some_iff.mp h).1
  unfold atI ixN
  rw [if_pos h0, if_pos (by omega)]
  exact h
theorem atI_0 {α : Type} {a : α} {l : List α} : atI (a :: l) 0 = some a := atI_of (by decide) rfl
theorem atI_1 {α : Type} {a b : α} {l : List α} : atI (a :: b :: l) 1 = some b := atI_of (by decide) rfl
theorem atI_2 {α : Type} {a b c : α} {l : List α} : atI (a :: b :: c :: l) 2 = some c := atI_of (by decide) rfl
theorem atI_3 {α : Type} {a b c d : α} {l : List α} : atI (a :: b :: c :: d :: l) 3 = some d := atI_of (by decide) rfl
theorem atI_4 {α : Type} {a b c d e : α} {l : List α} : atI (a :: b :: c :: d :: e :: l) 4 = some e := atI_of (by decide) rfl
theorem ixN_m1 {n : Nat} : ixN (n + 1) (-1) = some n := by
  unfold ixN
  rw [if_neg (by decide), if_pos (by omega)]
  congr 1
  omega
theorem atI_m1 {α : Type} {xs : List α} {x : α} : atI (xs ++ [x]) (-1) = some x := by
  unfold atI
  rw [List.length_append, show ([x] : List α).length = 1 from rfl, ixN_m1]
  show (xs ++ [x])[xs.length]? = _
  simp
theorem ixN_nat {n i : Nat} (h : i < n) : ixN n (i : Int) = some i := by
  unfold ixN
  rw [if_pos (by omega), if_pos (by omega), Int.toNat_natCast]
theorem ixN_of {n : Nat} {i : Int} (h0 : 0 ≤ i) (h : i < n) : ixN n i = some i.toNat := by
  unfold ixN
  rw [if_pos h0, if_pos h]
theorem atI_is {α : Type} {xs : List α} {i : Int} (h0 : 0 ≤ i) (h : i < xs.length) : ∃ x, x ∈ xs ∧ atI xs i = some x ∧ xs[i.toNat]? = some x := by
  have hl : i.toNat < xs.length := by omega
  exact ⟨xs[i.toNat], List.getElem_mem hl, atI_of h0 (List.getElem?_eq_getElem hl), List.getElem?_eq_getElem hl⟩
theorem atI_map {α β : Type} {f : α → β} {xs : List α} {i : Int} : atI (xs.map f) i = (atI xs i).map f := by
  unfold atI
  rw [List.length_map]
  cases ixN xs.length i with
  | none => rfl
  | some j => show (xs.map f)[j]? = (xs[j]?).map f; rw [List.getElem?_map]
theorem ixN_40 : ixN 4 0 = some 0 := rfl
theorem ixN_41 : ixN 4 1 = some 1 := rfl
theorem ixN_42 : ixN 4 2 = some 2 := rfl
theorem ixN_43 : ixN 4 3 = some 3 := rfl
theorem cut_to {α : Type} {xs : List α} {i : Int} (h0 : 0 ≤ i) (h : i ≤ xs.length) : cut xs none (some i) = xs.take i.toNat := by
  unfold cut HT.sIx
  simp only [List.drop_zero, Nat.sub_zero]
  rw [if_neg (by omega)]
  congr 1
  omega
theorem cut_from {α : Type} {xs : List α} {i : Int} (h0 : 0 ≤ i) : cut xs (some i) none = xs.drop i.toNat := by
  unfold cut HT.sIx
  simp only []
  rw [if_neg (by omega)]
  rw [List.take_of_length_le (by rw [List.length_drop]; omega)]
  by_cases h : i.toNat ≤ xs.length
  · congr 1; omega
  · rw [List.drop_eq_nil_of_le (by omega), List.drop_eq_nil_of_le (by omega)]
theorem cut_nat {α : Type} {xs : List α} {n : Nat} : cut xs (some (n : Int)) none = xs.drop n := by rw [cut_from (by omega), Int.toNat_natCast]
theorem cut_init {α : Type} {xs : List α} {x : α} : cut (xs ++ [x]) none (some (-1)) = xs := by
  unfold cut HT.sIx
  simp only [List.drop_zero, Nat.sub_zero]
  rw [if_pos (by decide)]
  rw [List.length_append, show ([x] : List α).length = 1 from rfl]
  rw [show (((-1 : Int) + ((xs.length + 1 : Nat) : Int)).toNat) = xs.length by omega]
  first
    | simp
    | (rw [Nat.min_eq_left (by omega)]; simp)
theorem wFor_by {g : DTG} {tb : DTS} {D0 : DEnds} {ds : List D} {τ : DSt} {M : Mu} (I : Nat → DSt → Mu → Prop) (h0 : I 0 τ M)
    (step : ∀ i d τ M, ds[i]? = some d → I i τ M → ∀ nxt : DSt → Mu → Prop, (∀ τ2 M2, I (i + 1) τ2 M2 → nxt τ2 M2) → g d τ M (fun τ1 M1 => tb { D0 with nx := nxt, ct := nxt, bk := D0.nx } τ1 M1) (D0.ex τ))
    (done : ∀ τ M, I ds.length τ M → D0.nx τ M) : wFor g tb D0 ds τ M := by
  have all : ∀ (rest pre : List D) (τ : DSt) (M : Mu), ds = pre ++ rest → I pre.length τ M → wFor g tb D0 rest τ M := by
    intro rest
    induction rest with
    | nil =>
      intro pre τ M e h
      rw [List.append_nil] at e
      rw [← e] at h
      exact done τ M h
    | cons d rest ih =>
      intro pre τ M e h
      refine step pre.length d τ M (by rw [e]; simp) h _ fun τ2 M2 h2 => ?_
      refine ih (pre ++ [d]) τ2 M2 (by rw [e]; simp) ?_
      rw [List.length_append]
      exact h2
  exact all ds [] τ M rfl h0
theorem wFor_nil {g : DTG} {tb : DTS} {D0 : DEnds} {τ : DSt} {M : Mu} (h : D0.nx τ M) : wFor g tb D0 [] τ M := h
theorem wFor_cons {g : DTG} {tb : DTS} {D0 : DEnds} {τ : DSt} {M : Mu} {d : D} {ds : List D} (h : g d τ M (fun τ1 M1 => tb { D0 with nx := wFor g tb D0 ds, ct := wFor g tb D0 ds, bk := D0.nx } τ1 M1) (D0.ex τ)) : wFor g tb D0 (d :: ds) τ M := h
theorem wForR_by {g : DTG} {tb : DTS} {D0 : DEnds} {all ds : List D} {τ : DSt} {M : Mu} {a : Addr} (I : Nat → DSt → Mu → Prop) (h0 : I 0 τ M) (hk : ∀ i τ M, I i τ M → M a = some (.lst all))
    (step : ∀ i d τ M, ds[i]? = some d → I i τ M → ∀ nxt : DSt → Mu → Prop, (∀ τ2 M2, I (i + 1) τ2 M2 → nxt τ2 M2) → g d τ M (fun τ1 M1 => tb { D0 with nx := nxt, ct := nxt, bk := D0.nx } τ1 M1) (D0.ex τ))
    (done : ∀ τ M, I ds.length τ M → D0.nx τ M) : wForR a all g tb D0 ds τ M := by
  have go : ∀ (rest pre : List D) (τ : DSt) (M : Mu), ds = pre ++ rest → I pre.length τ M → wForR a all g tb D0 rest τ M := by
    intro rest
    induction rest with
    | nil =>
      intro pre τ M e h
      rw [List.append_nil] at e
      rw [← e] at h
      exact ⟨hk _ _ _ h, done τ M h⟩
    | cons d rest ih =>
      intro pre τ M e h
      refine ⟨hk _ _ _ h, step pre.length d τ M (by rw [e]; simp) h _ fun τ2 M2 h2 => ?_⟩
      refine ih (pre ++ [d]) τ2 M2 (by rw [e]; simp) ?_
      rw [List.length_append]
      exact h2
  exact go ds [] τ M rfl h0
theorem upTo_at {lo : Int} {n i : Nat} {d : D} (h : (upTo lo n)[i]? = some d) : d = .int (lo + i) ∧ i < n := ⟨upTo_get h, by have := (List.getElem?_eq_some_iff.mp h).1; rwa [upTo_len] at this⟩
theorem map_at {α : Type} {f : α → D} {l : List α} {i : Nat} {d : D} (h : (l.map f)[i]? = some d) : ∃ a, l[i]? = some a ∧ f a = d := by
  rw [List.getElem?_map] at h
  exact Option.map_eq_some_iff.mp h
end DL
namespace DL
open PySem L2
def Xt (M M' : Mu) : Prop := ∀ b o, M b = some o → M' b = some o
theorem Xt.refl (M : Mu) : Xt M M := fun _ _ h => h
theorem Xt.trans {M M1 M2 : Mu} (a : Xt M M1) (b : Xt M1 M2) : Xt M M2 := fun c o h => b c o (a c o h)
theorem Xt.new {M : Mu} {p : Addr} {o : MO} (h : M p = none) : Xt M (put M p o) := fun b u e => by
  have n : b ≠ p := fun z => by rw [z, h] at e; cases e
  rw [put_ne n]; exact e
theorem Xt.none {M M' : Mu} (x : Xt M M') {p : Addr} (h : M' p = Option.none) : M p = Option.none := by
  cases e : M p with
  | none => rfl
  | some o => rw [x p o e] at h; cases h
theorem Xt.set {M M' : Mu} {p : Addr} {o u : MO} (x : Xt (put M p o) M') (h : M p = Option.none) : Xt M (put M' p u) := fun b v e => by
  have n : b ≠ p := fun z => by rw [z, h] at e; cases e
  rw [put_ne n]
  exact x b v (by rw [put_ne n]; exact e)
end DL
namespace DL
open PySem L2
theorem no_err {P : Program} {w : World} {H : Hp} {s s' : Shared} {e : Value} (h : L2N.CX P w [] H s (fun _ _ _ => False) e s') : False := by
  obtain ⟨_, _, _, _, _, _, _, _, _, _, _, _, z⟩ := h
  exact z
theorem law_start {K : PySem.W.Frag} {H : Hp} {a : Addr} {ns : List Int} {sp : DSp} (hO : Only H) (hS : SqL K H a (ns.map V.int)) (h : sp [.scr ns] (fun _ => none) (fun d _ => d = .bl true) (fun _ _ => False)) : lsp K sp [.ref a] H (fun v _ => v = .bl true) (fun _ _ _ => False) := by
  refine ⟨[.scr ns], fun _ => none, fun d _ => d = .bl true, fun _ _ => False, ?_, fun _ _ e => (nomatch e), h, fun d M' v H' q r _ _ => ?_, fun _ _ _ _ _ q => q.elim⟩
  · refine Reps.cons ?_ Reps.nil
    refine ⟨a, rfl, ?_⟩
    rcases hS with (hS | hS) | hS
    · rcases hO a with z | ⟨o, xs, z⟩
      · rw [hS] at z; cases z
      · rw [hS] at z; cases z
    · exact .inl ⟨hS, rfl⟩
    · exact .inr hS
  · subst q
    exact r
theorem law_walk {l : PySem.W.OpenLaw} {sp : DSp} {k : Nat} {q : Program} {loose : List Str} {XP : (Str → Option Value) → Heap → Prop} {YP : World → Heap → Prop} {d : DefRec} {x : Str} (h63 : l.most = some 63) (hdf : d.params.defaults = []) (hr : Room k callerA)
    (hsp : ∀ ns : List Int, ns.length ≤ 63 → sp [.scr ns] (fun _ => none) (fun d _ => d = .bl true) (fun _ _ => False))
    (F : ∀ (w : World) (mg : Str → Option Value) (fa : Addr) (h : Heap), YP w h → h.Ns mainGlobals mg → mg d.name = some (.ref fa) → ∃ (K : PySem.W.Frag) (fd : FuncData), K.In h ∧ (∀ (s : Shared) (u : Value), BindsTo s fd ⟨[u], []⟩ [(x, u)]) ∧
      ∀ base : Heap, K.In base → base.Ns mainGlobals mg → FnOk l.prog w K mg base (L2N.CX l.prog w) k fa fd [x] (lsp K sp)) : PySem.W.WalkO q loose XP YP l.row.toRowW d [] (fun f vs => PySem.call f vs) :=
  Att.attach_call h63 hdf fun w s0 s1 mg mb fa o pm cd doc a vs ns G Y ho hd hcd hmg hobj his hlen hgen => by
    obtain ⟨K, fd, hK, hb, hF⟩ := F w mg fa _ Y G.T.g hmg
    exact law_call hK G.T.g G.T.b G.T.builtins G.T.nolimit hgen hobj his (Nat.le_trans hlen (by decide)) hr hF hb (fun H hO hS => law_start hO hS (hsp ns hlen)) fun H e s' z => no_err z
theorem FnM.never {P : Program} {w : World} {K : PySem.W.Frag} {mg : Str → Option Value} {base : Heap} {k : Nat} {x : Str} {f : Addr} {fd : FuncData} {ps : List Str} {sp : DSp} (hno : ∀ ds M Q E, ¬ sp ds M Q E) (hm : mg x = some (.ref f)) (hk : PySem.W.keepIn K (.ref f) = true) (hb : Binds K fd ps []) : FnM P w K mg base k x sp :=
  ⟨f, fd, ps, ⟨fun vs H Q E ⟨ds, M, Q0, E0, _, _, h, _⟩ => (hno _ _ _ _ h).elim, fun A outer s H args us vs Q E _ _ _ _ ⟨ds, M, Q0, E0, _, _, h, _⟩ => (hno _ _ _ _ h).elim⟩, hm, hk, hb⟩
end DL
namespace DL
open PySem L2
section
variable {X : Cx} {W : WX} {a b c e o i elt tg iter : Expr} {rest es : List Expr} {ta tb te to : DTE} {tt : DTT} {tl : DTA} {pos p tpos : Pos} {x : Str} {g : DTG} {tr : DTR}
end
section
variable {τ : DSt} {M : Mu} {E : DX} {tl : DTA} {g : DTG} {tb : DTS} {D0 : DEnds}
end
end DL
namespace DL
open PySem L2 He
def rep (n : Int) (s : Tx) : Tx := (List.replicate n.toNat s).flatten
end DL
namespace DL
open PySem PySem.Spec PyProof.Rows L2 L2H HotX He
end DL
namespace DL
open PySem L2 He
section
variable {X : Cx} {W : WX} {C m : Str} {sp : DSp} {k : Nat} {a b : Expr} {ta tb : DTE} {pos : Pos}
end
end DL
namespace DL
open PySem L2 He NdefX
section
open PySem.W PySem.Calls PyProof.Rows
end
section
variable {X : Cx} {W : WX} {e1 e2 : Expr} {tl : DTA} {pos pos' p : Pos} {C f1 f2 : Str} {k : Nat}
end
end DL
namespace DL
open PySem L2 He
structure FnCK (P : Program) (w : World) (K : PySem.W.Frag) (mg : Str → Option Value) (base : Heap) (k : Nat) (C : Str) (n : Nat) (ks : List Str) (sp : DSp) : Prop where
  ex : ∃ fd ps, FnOk P w K mg base (L2N.CX P w) k (ma K (ga K C) "__init__") fd ps (lsp K sp) ∧ KBn K fd ps (n + 1) ks (fun us ws => us ++ ws) fun vs zs => vs ++ zs
theorem FnCK.mono {P : Program} {w : World} {K : PySem.W.Frag} {mg : Str → Option Value} {base : Heap} {j k : Nat} {C : Str} {n : Nat} {ks : List Str} {sp : DSp} (F : FnCK P w K mg base j C n ks sp) (h : j ≤ k) : FnCK P w K mg base k C n ks sp := by
  obtain ⟨fd, ps, h1, h2⟩ := F.ex
  exact ⟨fd, ps, h1.mono h, h2⟩
section
variable {X : Cx} {W : WX} {e : Expr} {es : List Expr} {kws : List Keyword} {te : DTE} {tl tk : DTA} {C : Str} {sp : DSp} {k n : Nat} {ks : List Str} {pos p kpos : Pos} {nm : Option Str}
theorem PK.of {X : Cx} {e : List Keyword} {t t0 : TA} (h : PK X e t0) (k : ∀ σ H Q, t σ H Q → t0 σ H Q) : PK X e t := ⟨fun pos pins s σ H Q I q => h.run pos pins s σ H Q I (k σ H Q q)⟩
end
end DL
namespace DL
open PySem L2
end DL
namespace DL
open PySem L2
theorem FnM.mono {P : Program} {w : World} {K : PySem.W.Frag} {mg : Str → Option Value} {base : Heap} {j k : Nat} {x : Str} {sp : DSp} (F : FnM P w K mg base j x sp) (h : j ≤ k) : FnM P w K mg base k x sp := by
  obtain ⟨f, fd, ps, h1, h2⟩ := F.ex
  exact ⟨f, fd, ps, h1.mono h, h2⟩
section
variable {X : Cx} {W : WX} {e : Expr} {st : Stmt} {te t1 t2 : DTE} {s1 s2 : DTS}
end
section
variable {τ : DSt} {M : Mu} {Q : DK} {E : DX} {te : DTE} {a b c d : D} {p : Addr}
end
end DL
namespace DL
open PySem L2 He
theorem FnC.never {P : Program} {w : World} {K : PySem.W.Frag} {mg : Str → Option Value} {base : Heap} {k : Nat} {C m : Str} {sp : DSp} (hno : ∀ ds M Q E, ¬ sp ds M Q E) (M : Meth K (ga K C) m (ma K (ga K C) m)) : FnC P w K mg base k C m sp :=
  ⟨M.at_, M.fn, M.kp, fun A outer s H us vs Q E _ _ _ ⟨ds, M, Q0, E0, _, _, h, _⟩ => (hno _ _ _ _ h).elim⟩
end DL
namespace DL
open PySem L2 He
section
variable {X : Cx} {W : WX} {C f : Str} {zs : List Str} {p pos : Pos} {e : Expr} {te : DTE}
end
end DL
namespace DL
open PySem PySem.Calls PyProof.Rows Builtin Builtin.ObjectAttr PySem.W
section
variable {prog : Program} {w : World} {A : Around} {s : Shared} {K : Frag} {p x C : Addr} {R : Result → Shared → Prop}
end
open L2 He
section
variable {X : Cx} {W : WX} {C f : Str} {sp : DSp} {k : Nat} {o e : Expr} {to tv : DTE} {pos pos' : Pos}
end
end DL
namespace DL
open PySem L2 He
def gIAdd : DOp := fun x y M Q => match x, y with
  | .int i, .int j => Q (.int (i + j)) M
  | .str a, .str b => a.length + b.length ≤ 16777216 ∧ Q (.str (a ++ b)) M
  | _, _ => False
def rIAdd : V → V → Hp → VK → Prop := fun x y H Q => rAdd x y H Q ∨ rAddS x y H Q
theorem in_iadd {X : Cx} : InOp X .Add rIAdd := fun pins s σ H x y u v Q I rx ry h => h.elim (in_add pins s σ H x y u v Q I rx ry) (in_addS pins s σ H x y u v Q I rx ry)
theorem od_iadd {K : PySem.W.Frag} : OpD K gIAdd rIAdd := fun M H x y v u Q0 Q c rx ry h q => by
  match x, y, h with
  | .int i, .int j, h =>
    cases rx; cases ry
    exact .inl ⟨i, j, rfl, rfl, q _ M _ H h rfl c (Stp.refl M H)⟩
  | .str a, .str b, h =>
    cases rx; cases ry
    refine .inr ⟨sx a, sx b, rfl, rfl, by rw [sx_len, sx_len, line24]; exact h.1, ?_⟩
    rw [sx_add]
    exact q _ M _ H h.2 rfl c (Stp.refl M H)
def dAugN (j : Nat) (g : DOp) (te : DTE) : DTS := fun D0 τ M => match τ[j]? with
  | some (some d) => te τ M (fun y M1 => g d y M1 (fun r M2 => D0.nx (τ.set j (some r)) M2)) (D0.ex τ)
  | _ => False
def dAugF (C f : Str) (g : DOp) (to tv : DTE) : DTS := fun D0 τ M => to τ M (fun d M1 => match d with
  | .ref a => (match M1 a with
    | some (.ins c fs) => c = C ∧ (match fs.lookup f with
      | some v => tv τ M1 (fun y M2 => g v y M2 (fun z M3 => match M3 a with
        | some (.ins c' fs') => c' = C ∧ fs'.length < 1000 ∧ D0.nx τ (put M3 a (.ins C (putG f z fs')))
        | _ => False)) (D0.ex τ)
      | none => False)
    | _ => False)
  | _ => False) (D0.ex τ)
section
variable {X : Cx} {W : WX} {a b e o i : Expr} {ta tb te to tv ti : DTE} {C f m x : Str} {pos pos' tpos : Pos} {op : Operator} {g : DOp} {r : R2}
theorem ds_augN (j : Nat) (G : Gd X W) (hp : InOp X op r) (hg : OpD X.K g r) (he : DE X W e te) (hi : X.N[j]? = some x := by rfl) (hx : Loc X.env.scope x := by first | exact .inl rfl | exact .inr rfl)
    (hf : X.fn x = true ∨ X.env.scope.names.lookup x = some .local := by first | exact .inl rfl | exact .inr rfl) : DS X W (.AugAssign (.Name x pos') op e pos) (dAugN j g te) :=
  PS.of (ps_aug (ti := r) G.nd hi hx he hp hf) fun D1 σ H ⟨τ, M, D0, S, h⟩ => by
    unfold dAugN at h
    split at h
    · rename_i d ed
      obtain ⟨v, e1, rd⟩ := S.rs.get ed
      refine ⟨v, e1, S.sub h fun y M1 z H1 h1 r1 S1 s1 => ?_⟩
      exact hg M1 H1 d y v z _ _ S1.co (rd.stp s1) r1 h1 fun d2 M2 z2 H2 h2 r2 c2 s2 => S1.nx _ M2 _ H2 h2 ((S1.rs.stp s2).set r2 j) c2 s2
    · exact h.elim
theorem ds_augF (c : Cls X.K (ga X.K C)) (n : NoAttr X.K (ga X.K C) f) (hp : InOp X op r) (hg : OpD X.K g r) (ho : DE X W o to) (hv : DE X W e tv) : DS X W (.AugAssign (.Attribute o f tpos) op e pos) (dAugF C f g to tv) :=
  PS.of (ps_fldaug (rd := r) ho hv hp) fun D1 σ H ⟨τ, M, D0, S, h⟩ => S.sub h fun d M1 v H1 h1 r1 S1 s1 => by
    cases d with
    | ref a =>
      cases r1
      have h2 : (match M1 a with
        | some (.ins c fs) => c = C ∧ (match fs.lookup f with
          | some v => tv τ M1 (fun y M2 => g v y M2 (fun z M3 => match M3 a with
            | some (.ins c' fs') => c' = C ∧ fs'.length < 1000 ∧ D0.nx τ (put M3 a (.ins C (putG f z fs')))
            | _ => False)) (D0.ex τ)
          | none => False)
        | _ => False) := h1
      cases q : M1 a with
      | none => rw [q] at h2; exact h2.elim
      | some mo =>
        rw [q] at h2
        cases mo with
        | ins c' fs =>
          obtain ⟨h3, h4⟩ := h2
          subst h3
          obtain ⟨dx, gs, g1, g2, g3⟩ := mu_ins S1.co q
          cases e1 : fs.lookup f with
          | none => rw [e1] at h4; exact h4.elim
          | some y =>
            rw [e1] at h4
            obtain ⟨v, g4, g5⟩ := fld_get g2 g3 e1
            refine ⟨a, _, dx, gs, v, rfl, g1, c, n, g4, S1.sub h4 fun y2 M2 z2 H2 h2 r2 S2 s2 => ?_⟩
            refine hg M2 H2 y y2 v z2 _ _ S2.co (g5.stp s2) r2 h2 fun z3 M3 w3 H3 h3 r3 c3 s3 => ?_
            cases q3 : M3 a with
            | none => rw [q3] at h3; exact h3.elim
            | some mo3 =>
              rw [q3] at h3
              cases mo3 with
              | ins c2 fs2 =>
                obtain ⟨h5, h6, h7⟩ := h3
                subst h5
                obtain ⟨dx2, gs2, k1, k2, k3⟩ := mu_ins c3 q3
                obtain ⟨p1, p3⟩ := fld_put (f := f) r3 k2 k3
                have hl := congrArg List.length k2
                rw [List.length_map, List.length_map] at hl
                have st : Stp M3 H3 (put M3 a (.ins c2 (putG f z3 fs2))) (upd H3 a (.ins (ga X.K c2) dx2 (putF f w3 gs2))) := Stp.write q3
                exact ⟨dx2, gs2, k1, by rw [hl]; exact h6, S2.nx τ _ σ _ h7 ((S2.rs.stp s3).stp st) (c3.write q3 ⟨dx2, _, rfl, p1, p3⟩) (s3.trans st)⟩
              | _ => exact h3.elim
        | _ => exact h2.elim
    | _ => exact h1.elim
end
section
variable {τ : DSt} {M : Mu} {D0 : DEnds} {te to tv : DTE} {g : DOp} {j : Nat} {C f : Str} {Q : DK}
theorem u_augN : dAugN j g te D0 τ M = onVar (K := fun d => te τ M (fun y M1 => opK (K := fun r M2 => D0.nx (τ.set j (some r)) M2) ⟨⟩ g d y M1) (D0.ex τ)) ⟨⟩ τ[j]? := by
  unfold dAugN onVar
  rfl
theorem u_augF : dAugF C f g to tv D0 τ M = to τ M (fun d M1 => onRef (K := fun a => onIns (K := fun fs => onSome (K := fun v => tv τ M1 (fun y M2 => opK (K := fun z M3 => onIns (K := fun fs' => fs'.length < 1000 ∧ D0.nx τ (put M3 a (.ins C (putG f z fs')))) C ⟨⟩ (M3 a)) ⟨⟩ g v y M2) (D0.ex τ)) ⟨⟩ (fs.lookup f)) C ⟨⟩ (M1 a)) ⟨⟩ d) (D0.ex τ) := by
  unfold dAugF
  congr 1
  funext d M1
  cases d <;> try rfl
  rename_i a
  cases e : M1 a with
  | none => simp only [e, onRef, onIns]
  | some mo =>
    cases mo <;> simp only [e, onRef, onIns]
    congr 1
    rename_i fs
    cases fs.lookup f with
    | none => rfl
    | some v =>
      show tv τ M1 _ _ = tv τ M1 _ _
      congr 1
theorem iadd_i {i j : Int} : opK (K := Q) ⟨⟩ gIAdd (.int i) (.int j) M = Q (.int (i + j)) M := propext Iff.rfl
theorem iadd_s {a b : Tx} : opK (K := Q) ⟨⟩ gIAdd (.str a) (.str b) M = (a.length + b.length ≤ 16777216 ∧ Q (.str (a ++ b)) M) := propext Iff.rfl
end
end DL
namespace DL
open PySem L2 He PyProof.Rows
inductive PIt where
  | val (z : Tx)
  | cap (j : Nat)
inductive PItOk (X : Cx) : Pattern → PIt → Prop where
  | val {z : Str} {t : Tx} {k : Nat} {p q : Pos} (h : T z = t) : PItOk X (.MatchValue (.Constant (.str z) k p) q) (.val t)
  | cap {x : Str} {j : Nat} {p : Pos} (hi : X.N[j]? = some x) (hx : Loc X.env.scope x) (hf : X.fn x = true ∨ X.env.scope.names.lookup x = some .local) : PItOk X (.MatchAs none (some x) p) (.cap j)
inductive PItsOk (X : Cx) : List Pattern → List PIt → Prop where
  | nil : PItsOk X [] []
  | cons {p : Pattern} {i : PIt} {ps : List Pattern} {is : List PIt} (h : PItOk X p i) (t : PItsOk X ps is) : PItsOk X (p :: ps) (i :: is)
theorem PItsOk.len {X : Cx} {ps : List Pattern} {is : List PIt} (h : PItsOk X ps is) : ps.length = is.length := by
  induction h with
  | nil => rfl
  | cons _ _ ih => rw [List.length_cons, List.length_cons, ih]
section
variable {X : Cx} {W : WX} {pins : List (Addr × Obj)} {σ : L2.St} {H : Hp} {M : Mu} {s : Shared}
end
section
variable {X : Cx} {W : WX} {cs : List MatchCase} {ts : List (Option (List PIt) × DTS)} {body : List Stmt} {t : DTS} {te : DTE} {e : Expr} {pos : Pos}
end
section
variable {τ : DSt} {M : Mu} {D0 : DEnds} {te : DTE} {cs : List (Option (List PIt) × DTS)} {t : DTS} {ps : List PIt} {ds : List D}
end
end DL
namespace DL
open PySem L2
section
variable {P : Program} {w : World} {K : PySem.W.Frag} {mg : Str → Option Value} {base : Heap} {X : Cx} {W : WX} {te : DTE} {a : Expr} {p pos p2 pos2 : Pos}
end
end DL
namespace DL
open PySem L2
section
variable {K : PySem.W.Frag}
end
section
variable {Q : DK} {M : Mu} {nb : Bool → Bool} {x : D} {ys : List D} {a : Addr}
end
end DL
namespace DL
open PySem L2
def okd : Nat → D → Prop
  | _, .non => True
  | _, .bl _ => True
  | _, .int _ => True
  | _, .str x => okT x
  | n + 1, .lst ds => ∀ d ∈ ds, okd n d
  | n + 1, .tup ds => ∀ d ∈ ds, okd n d
  | _, _ => False
def nobl : Nat → D → Prop
  | _, .non => True
  | _, .int _ => True
  | _, .str _ => True
  | n + 1, .lst ds => ∀ d ∈ ds, nobl n d
  | n + 1, .tup ds => ∀ d ∈ ds, nobl n d
  | _, _ => False
theorem okd_str {n : Nat} {x : Tx} (h : okT x) : okd n (.str x) := by unfold okd; exact h
theorem okd_int {n : Nat} {i : Int} : okd n (.int i) := by unfold okd; trivial
theorem okd_tup {n : Nat} {ds : List D} (h : ∀ d ∈ ds, okd n d) : okd (n + 1) (.tup ds) := by unfold okd; exact h
theorem plains_of : ∀ {ds : List D}, (∀ d ∈ ds, plain d = true) → plains ds = true
  | [], _ => by rw [plains]
  | d :: ds, h => by rw [plains, h d List.mem_cons_self, plains_of fun x hx => h x (List.mem_cons_of_mem _ hx)]; rfl
theorem lays_of : ∀ {ds : List D}, (∀ d ∈ ds, PyData.canLay0 (pd d) = true) → PyData.canLayAll0 (pds ds) = true
  | [], _ => by rw [pds, PyData.canLayAll0]
  | d :: ds, h => by rw [pds, PyData.canLayAll0, h d List.mem_cons_self, lays_of fun x hx => h x (List.mem_cons_of_mem _ hx)]; rfl
theorem deps_of {n : Nat} : ∀ {ds : List D}, (∀ d ∈ ds, PyData.depth (pd d) ≤ n) → PyData.depthAll (pds ds) ≤ n
  | [], _ => by rw [pds, PyData.depthAll]; omega
  | d :: ds, h => by
    have a := h d List.mem_cons_self
    have b := deps_of fun x hx => h x (List.mem_cons_of_mem _ hx)
    rw [pds, PyData.depthAll]; omega
theorem okd_all : ∀ {n : Nat} {d : D}, okd n d → plain d = true ∧ PyData.canLay0 (pd d) = true ∧ PyData.depth (pd d) ≤ n
  | n, .non, _ => by rw [plain, pd, PyData.canLay0, PyData.depth] <;> simp
  | n, .bl _, _ => by rw [plain, pd, PyData.canLay0, PyData.depth] <;> simp
  | n, .int _, _ => by rw [plain, pd, PyData.canLay0, PyData.depth] <;> simp
  | n, .str x, h => by
    have h : okT x := by unfold okd at h; exact h
    have q := eqOk_strs (xs := [x]) fun y hy => by rw [List.mem_singleton.mp hy]; exact h
    have c : PyData.canLay0 (pd (.str x)) = true := by
      have := canLay_strs (xs := [x]) fun y hy => by rw [List.mem_singleton.mp hy]; exact h
      rw [List.map_singleton, pds, PyData.canLayAll0] at this
      exact (Bool.and_eq_true_iff.mp this).1
    refine ⟨by rw [plain] <;> simp, c, ?_⟩
    rw [pd, PyData.depth] <;> simp
  | 0, .lst _, h => by unfold okd at h; exact h.elim
  | 0, .tup _, h => by unfold okd at h; exact h.elim
  | n + 1, .lst ds, h => by
    have h : ∀ d ∈ ds, okd n d := by unfold okd at h; exact h
    refine ⟨?_, ?_, ?_⟩
    · rw [plain]; exact plains_of fun d hd => (okd_all (h d hd)).1
    · rw [pd, PyData.canLay0]; exact lays_of fun d hd => (okd_all (h d hd)).2.1
    · have := deps_of (n := n) fun d hd => (okd_all (h d hd)).2.2
      rw [pd, PyData.depth]; omega
  | n + 1, .tup ds, h => by
    have h : ∀ d ∈ ds, okd n d := by unfold okd at h; exact h
    refine ⟨?_, ?_, ?_⟩
    · rw [plain]; exact plains_of fun d hd => (okd_all (h d hd)).1
    · rw [pd, PyData.canLay0]; exact lays_of fun d hd => (okd_all (h d hd)).2.1
    · have := deps_of (n := n) fun d hd => (okd_all (h d hd)).2.2
      rw [pd, PyData.depth]; omega
  | n, .ref _, h => by cases n <;> (unfold okd at h; exact h.elim)
  | n, .ty _, h => by cases n <;> (unfold okd at h; exact h.elim)
  | n, .scr _, h => by cases n <;> (unfold okd at h; exact h.elim)
  | n, .cl _, h => by cases n <;> (unfold okd at h; exact h.elim)
  | n, .exc _ _ _ _ _, h => by cases n <;> (unfold okd at h; exact h.elim)
theorem okd_eqOk {n : Nat} {d : D} (h : okd n d) (hn : n ≤ 64) : eqOk d = true := by
  obtain ⟨a, b, c⟩ := okd_all h
  unfold eqOk SeqAt.shaped
  rw [a, b, decide_eq_true (by omega)]
  rfl
theorem eqvs_iff {P : D → Prop} (hP : ∀ x y, P x → P y → (PyData.eqv (pd x) (pd y) = true ↔ x = y)) : ∀ {xs ys : List D}, (∀ d ∈ xs, P d) → (∀ d ∈ ys, P d) → (PyData.eqvAll (pds xs) (pds ys) = true ↔ xs = ys)
  | [], [], _, _ => by rw [pds, PyData.eqvAll]; simp
  | [], _ :: _, _, _ => by rw [pds, pds, PyData.eqvAll]; simp
  | _ :: _, [], _, _ => by rw [pds, pds, PyData.eqvAll]; simp
  | x :: xs, y :: ys, h1, h2 => by
    rw [pds, pds, PyData.eqvAll, Bool.and_eq_true, hP x y (h1 x List.mem_cons_self) (h2 y List.mem_cons_self), eqvs_iff hP (fun d hd => h1 d (List.mem_cons_of_mem _ hd)) fun d hd => h2 d (List.mem_cons_of_mem _ hd), List.cons.injEq]
theorem eqv_iff : ∀ {n : Nat} {x y : D}, nobl n x → nobl n y → (PyData.eqv (pd x) (pd y) = true ↔ x = y) := by
  intro n
  induction n with
  | zero =>
    intro x y hx hy
    cases x <;> first
      | (unfold nobl at hx; exact hx.elim)
      | (cases y <;> first
        | (unfold nobl at hy; exact hy.elim)
        | (simp only [pd, PyData.eqv, reduceCtorEq, Bool.false_eq_true]; done)
        | (simp only [pd, PyData.eqv, beq_iff_eq, D.int.injEq]; done)
        | (simp only [pd, PyData.eqv, beq_iff_eq, D.str.injEq]; exact ⟨sx_inj, fun h => by rw [h]⟩))
  | succ n ih =>
    intro x y hx hy
    cases x <;> first
      | (unfold nobl at hx; exact hx.elim)
      | (cases y <;> first
        | (unfold nobl at hy; exact hy.elim)
        | (simp only [pd, PyData.eqv, reduceCtorEq, Bool.false_eq_true]; done)
        | (simp only [pd, PyData.eqv, beq_iff_eq, D.int.injEq]; done)
        | (simp only [pd, PyData.eqv, beq_iff_eq, D.str.injEq]; exact ⟨sx_inj, fun h => by rw [h]⟩)
        | (unfold nobl at hx hy; simp only [pd, PyData.eqv, D.lst.injEq, D.tup.injEq]; exact eqvs_iff (fun a b ha hb => ih ha hb) hx hy))
end DL
namespace DL
open PySem L2 He
abbrev TKey := List DKey
def kOs (k : TKey) : List Key := k.map kO
theorem kOs_inj : ∀ {a b : TKey}, kOs a = kOs b → a = b
  | [], [], _ => rfl
  | [], _ :: _, h => by cases h
  | _ :: _, [], h => by cases h
  | x :: a, y :: b, h => by
    unfold kOs at h
    rw [List.map_cons, List.map_cons] at h
    injection h with h1 h2
    rw [kO_inj h1, kOs_inj (a := a) (b := b) h2]
theorem kOs_dec (a b : TKey) : decide (kOs a = kOs b) = decide (a = b) := decide_eq_decide.mpr ⟨kOs_inj, fun e => by rw [e]⟩
def keyT : List D → Option TKey
  | [] => some []
  | .int i :: r => (keyT r).map (.inl i :: ·)
  | .str x :: r => (keyT r).map (.inr x :: ·)
  | _ => none
def hasI : List D → Bool
  | [] => false
  | .int _ :: _ => true
  | _ :: r => hasI r
def keyD (k : TKey) : D := .tup (k.map kD)
def lookT (kvs : List (TKey × D)) (k : TKey) : Option D := (kvs.find? fun q => decide (q.1 = k)).map (·.2)
def putT (kvs : List (TKey × D)) (k : TKey) (d : D) : List (TKey × D) := if (kvs.any fun q => decide (q.1 = k)) = true then kvs.map (fun q => if q.1 = k then (q.1, d) else q) else kvs ++ [(k, d)]
def dropT (kvs : List (TKey × D)) (k : TKey) : List (TKey × D) := kvs.filter fun q => decide (q.1 ≠ k)
section
variable {K : PySem.W.Frag} {M : Mu} {H : Hp}
theorem keyT_reps : ∀ {ds : List D} {k : TKey} {vs : List V}, keyT ds = some k → Reps K M H ds vs → vs = (kOs k).map kV
  | [], k, vs, h, r => by
    injection h with h
    subst h
    cases r.unnil
    rfl
  | d :: ds, k, vs, h, r => by
    obtain ⟨v, r2, rfl, h1, h2⟩ := r.uncons
    cases d with
    | int i =>
      obtain ⟨k2, e1, rfl⟩ := Option.map_eq_some_iff.mp (show (keyT ds).map (.inl i :: ·) = some k from h)
      rw [keyT_reps e1 h2, show v = V.int i from h1]
      rfl
    | str x =>
      obtain ⟨k2, e1, rfl⟩ := Option.map_eq_some_iff.mp (show (keyT ds).map (.inr x :: ·) = some k from h)
      rw [keyT_reps e1 h2, show v = V.str (sx x) from h1]
      rfl
    | _ => cases h
theorem hasI_reps : ∀ {ds : List D} {vs : List V}, hasI ds = true → Reps K M H ds vs → ∃ i, V.int i ∈ vs
  | [], _, h, _ => by cases h
  | d :: ds, vs, h, r => by
    obtain ⟨v, r2, rfl, h1, h2⟩ := r.uncons
    have go : hasI ds = true → ∃ i, V.int i ∈ v :: r2 := fun q => by
      obtain ⟨i, hi⟩ := hasI_reps q h2
      exact ⟨i, List.mem_cons_of_mem _ hi⟩
    cases d with
    | int i => exact ⟨i, by rw [show v = V.int i from h1]; exact List.mem_cons_self⟩
    | _ => exact go h
theorem key_rep {ds : List D} {k : TKey} {v : V} (h : keyT ds = some k) (hi : hasI ds = true) (r : Rep K M H (.tup ds) v) : ∃ b, v = .ref b ∧ H b = some (.tup ((kOs k).map kV)) ∧ M b = none := by
  obtain ⟨a, vs, rfl, ha, ra⟩ := rep_of_tup r
  have e := keyT_reps h ra
  rcases ha with ⟨h1, h2⟩ | ⟨_, h2⟩
  · exact ⟨a, rfl, by rw [h1, e], h2⟩
  · obtain ⟨i, hm⟩ := hasI_reps hi ra
    exact absurd hm (h2 i)
theorem mu_dT {a : Addr} {kvs : List (TKey × D)} (c : Cor K M H) (h : M a = some (.dT kvs)) : ∃ ks, H a = some (.dT ks) ∧ ks.map (·.1) = kvs.map (fun q => kOs q.1) ∧ Reps K M H (kvs.map (·.2)) (ks.map (·.2)) := by
  obtain ⟨o, e1, ks, e2, e3, hr⟩ := c a _ h
  exact ⟨ks, by rw [e1, e2], e3, hr⟩
theorem mu_fT {a : Addr} {kvs : List (TKey × D)} {u : HO} (c : Cor K M H) (h : M a = some (.fT kvs u)) : ∃ od ks, H a = some (.frz od (.dT ks)) ∧ u = .frz od (.dT ks) ∧ ks.map (·.1) = kvs.map (fun q => kOs q.1) ∧ Reps K M H (kvs.map (·.2)) (ks.map (·.2)) := by
  obtain ⟨o, e1, e0, od, ks, e2, e3, hr⟩ := c a _ h
  exact ⟨od, ks, by rw [e1, e0, e2], e2, e3, hr⟩
theorem lookT_rep {k : TKey} : ∀ {kvs : List (TKey × D)} {ks : List (List Key × V)}, ks.map (·.1) = kvs.map (fun q => kOs q.1) → Reps K M H (kvs.map (·.2)) (ks.map (·.2)) →
    match lookT kvs k with
    | some d => ∃ v, valV ks (kOs k) = some v ∧ Rep K M H d v
    | none => valV ks (kOs k) = none
  | [], [], _, _ => rfl
  | [], _ :: _, h, _ => by cases h
  | _ :: _, [], h, _ => by cases h
  | (a, d) :: kvs, (b, v) :: ks, h, r => by
    have h1 : b = kOs a ∧ ks.map (·.1) = kvs.map (fun q => kOs q.1) := by
      simp only [List.map_cons, List.cons.injEq] at h
      exact h
    obtain ⟨v', u', e, r1, r2⟩ := r.uncons
    have e2 : v = v' ∧ ks.map (·.2) = u' := by
      simp only [List.map_cons, List.cons.injEq] at e
      exact e
    have ih := lookT_rep (k := k) h1.2 (by rw [e2.2]; exact r2)
    unfold lookT valV
    rw [List.find?_cons, List.find?_cons]
    show match Option.map (fun z : TKey × D => z.2) (match decide (a = k) with | true => some (a, d) | false => kvs.find? fun q => decide (q.1 = k)) with
      | some d => ∃ w, Option.map (fun z : List Key × V => z.2) (match decide (b = kOs k) with | true => some (b, v) | false => ks.find? fun q => decide (q.1 = kOs k)) = some w ∧ Rep K M H d w
      | none => _
    rw [h1.1, kOs_dec]
    cases q : decide (a = k) with
    | true => exact ⟨v, rfl, by rw [e2.1]; exact r1⟩
    | false => exact ih
theorem any_keysT {k : TKey} : ∀ {kvs : List (TKey × D)} {ks : List (List Key × V)}, ks.map (·.1) = kvs.map (fun q => kOs q.1) → (ks.any fun q => decide (q.1 = kOs k)) = kvs.any fun q => decide (q.1 = k)
  | [], [], _ => rfl
  | [], _ :: _, h => by cases h
  | _ :: _, [], h => by cases h
  | a :: kvs, b :: ks, h => by
    simp only [List.map_cons, List.cons.injEq] at h
    rw [List.any_cons, List.any_cons, any_keysT h.2, h.1, kOs_dec]
theorem map_keysT {k : TKey} {d : D} {v : V} (r0 : Rep K M H d v) : ∀ {kvs : List (TKey × D)} {ks : List (List Key × V)}, ks.map (·.1) = kvs.map (fun q => kOs q.1) → Reps K M H (kvs.map (·.2)) (ks.map (·.2)) →
    ((ks.map fun q => if q.1 = kOs k then (q.1, v) else q).map (·.1) = (kvs.map fun q => if q.1 = k then (q.1, d) else q).map (fun q => kOs q.1)) ∧
      Reps K M H ((kvs.map fun q => if q.1 = k then (q.1, d) else q).map (·.2)) ((ks.map fun q => if q.1 = kOs k then (q.1, v) else q).map (·.2))
  | [], [], _, _ => ⟨rfl, .nil⟩
  | [], _ :: _, h, _ => by cases h
  | _ :: _, [], h, _ => by cases h
  | a :: kvs, b :: ks, h, r => by
    simp only [List.map_cons, List.cons.injEq] at h
    obtain ⟨u, us, e, r1, r2⟩ := r.uncons
    simp only [List.map_cons, List.cons.injEq] at e
    obtain ⟨i1, i2⟩ := map_keysT r0 h.2 (by rw [e.2]; exact r2)
    by_cases q : a.1 = k
    · have q2 : b.1 = kOs k := by rw [h.1, q]
      simp only [List.map_cons, if_pos q, if_pos q2]
      exact ⟨by rw [i1, h.1], .cons r0 i2⟩
    · have q2 : ¬ b.1 = kOs k := fun z => q (kOs_inj (by rw [← h.1, z]))
      simp only [List.map_cons, if_neg q, if_neg q2]
      exact ⟨by rw [i1, h.1], .cons (by rw [e.1]; exact r1) i2⟩
theorem putT_rep {k : TKey} {d : D} {v : V} (r0 : Rep K M H d v) {kvs : List (TKey × D)} {ks : List (List Key × V)} (h : ks.map (·.1) = kvs.map (fun q => kOs q.1)) (r : Reps K M H (kvs.map (·.2)) (ks.map (·.2))) :
    (putK ks (kOs k) v).map (·.1) = (putT kvs k d).map (fun q => kOs q.1) ∧ Reps K M H ((putT kvs k d).map (·.2)) ((putK ks (kOs k) v).map (·.2)) := by
  unfold putK putT
  rw [any_keysT h]
  split
  · exact map_keysT r0 h r
  · rw [List.map_append, List.map_append, List.map_append, List.map_append, h]
    exact ⟨rfl, r.append (.cons r0 .nil)⟩
theorem dropT_rep {k : TKey} : ∀ {kvs : List (TKey × D)} {ks : List (List Key × V)}, ks.map (·.1) = kvs.map (fun q => kOs q.1) → Reps K M H (kvs.map (·.2)) (ks.map (·.2)) →
    (dropK ks (kOs k)).map (·.1) = (dropT kvs k).map (fun q => kOs q.1) ∧ Reps K M H ((dropT kvs k).map (·.2)) ((dropK ks (kOs k)).map (·.2))
  | [], [], _, _ => ⟨rfl, .nil⟩
  | [], _ :: _, h, _ => by cases h
  | _ :: _, [], h, _ => by cases h
  | a :: kvs, b :: ks, h, r => by
    simp only [List.map_cons, List.cons.injEq] at h
    obtain ⟨u, us, e, r1, r2⟩ := r.uncons
    simp only [List.map_cons, List.cons.injEq] at e
    obtain ⟨i1, i2⟩ := dropT_rep (k := k) h.2 (by rw [e.2]; exact r2)
    unfold dropK dropT at *
    rw [List.filter_cons, List.filter_cons]
    have q : decide (b.1 ≠ kOs k) = decide (a.1 ≠ k) := by
      rw [h.1]
      exact decide_eq_decide.mpr ⟨fun z w => z (by rw [w]), fun z w => z (kOs_inj w)⟩
    rw [q]
    cases z : decide (a.1 ≠ k) with
    | true =>
      rw [if_pos rfl, if_pos rfl, List.map_cons, List.map_cons, List.map_cons, List.map_cons]
      exact ⟨by rw [i1, h.1], .cons (by rw [e.1]; exact r1) i2⟩
    | false =>
      rw [if_neg (by decide), if_neg (by decide)]
      exact ⟨i1, i2⟩
def dtOf : MO → Option (List (TKey × D))
  | .dT kvs => some kvs
  | .fT kvs _ => some kvs
  | _ => none
theorem mu_tR {a : Addr} {mo : MO} {kvs : List (TKey × D)} (c : Cor K M H) (h : M a = some mo) (hk : dtOf mo = some kvs) : ∃ ks, Rd H a (.dT ks) ∧ ks.map (·.1) = kvs.map (fun q => kOs q.1) ∧ Reps K M H (kvs.map (·.2)) (ks.map (·.2)) := by
  cases mo with
  | dT l =>
    injection hk with hk
    subst hk
    obtain ⟨ks, h1, h2⟩ := mu_dT c h
    exact ⟨ks, .inl h1, h2⟩
  | fT l u =>
    injection hk with hk
    subst hk
    obtain ⟨od, ks, h1, _, h2⟩ := mu_fT c h
    exact ⟨ks, .inr ⟨od, h1⟩, h2⟩
  | _ => cases hk
theorem dget_t {a : Addr} {mo : MO} {kvs : List (TKey × D)} {ds : List D} {k : TKey} {u : V} (c : Cor K M H) (h : M a = some mo) (hk : dtOf mo = some kvs) (h1 : keyT ds = some k) (h2 : hasI ds = true) (r : Rep K M H (.tup ds) u) :
    match lookT kvs k with
    | some d => ∃ v, DGet H a u (some v) ∧ Rep K M H d v
    | none => DGet H a u none := by
  obtain ⟨ks, hr, e, ra⟩ := mu_tR c h hk
  obtain ⟨b, rfl, hb, _⟩ := key_rep h1 h2 r
  have l := lookT_rep (k := k) e ra
  cases q : lookT kvs k with
  | none =>
    rw [q] at l
    exact .inr ⟨ks, kOs k, b, hr, rfl, hb, l.symm⟩
  | some d =>
    rw [q] at l
    obtain ⟨v, l1, l2⟩ := l
    exact ⟨v, .inr ⟨ks, kOs k, b, hr, rfl, hb, l1.symm⟩, l2⟩
end
def onTK (x y : D) (M : Mu) (L : List (TKey × D) → TKey → Prop) : Prop := ∃ a mo kvs ds k, x = .ref a ∧ y = .tup ds ∧ M a = some mo ∧ dtOf mo = some kvs ∧ keyT ds = some k ∧ hasI ds = true ∧ L kvs k
def gIxT : DOp := fun x y M Q => onTK x y M fun kvs k => ∃ d, lookT kvs k = some d ∧ Q d M
def gInTN (nb : Bool → Bool) : DOp := fun x y M Q => onTK y x M fun kvs k => Q (.bl (nb (lookT kvs k).isSome)) M
abbrev gNotInT : DOp := gInTN not
section
variable {K : PySem.W.Frag}
theorem od_ixT : OpD K gIxT (rIxA K) := fun M H x y v u Q0 Q c rx ry h q => by
  obtain ⟨a, mo, kvs, ds, k, rfl, rfl, h1, h2, h3, h4, d, h5, h6⟩ := h
  cases rx
  have g := dget_t c h1 h2 h3 h4 ry
  rw [h5] at g
  obtain ⟨w, g1, g2⟩ := g
  exact .inr ⟨a, w, rfl, g1, q _ M _ H h6 g2 c (Stp.refl M H)⟩
theorem od_inTN {nb : Bool → Bool} : OpD K (gInTN nb) (rInN nb K) := fun M H x y v u Q0 Q c rx ry h q => by
  obtain ⟨a, mo, kvs, ds, k, rfl, rfl, h1, h2, h3, h4, h6⟩ := h
  cases ry
  have g := dget_t c h1 h2 h3 h4 rx
  cases e : lookT kvs k with
  | none =>
    rw [e] at g h6
    exact .inr (.inr ⟨a, none, rfl, g, q _ M _ H h6 rfl c (Stp.refl M H)⟩)
  | some d =>
    rw [e] at g h6
    obtain ⟨w, g1, g2⟩ := g
    exact .inr (.inr ⟨a, some w, rfl, g1, q _ M _ H h6 rfl c (Stp.refl M H)⟩)
end
section
variable {X : Cx} {W : WX} {a b : Expr} {ta tb : DTE} {pos : Pos}
theorem de_ixT (G : Gd X W) (ha : DE X W a ta) (hb : DE X W b tb) (hs : PlainIx b := by intro _ _; rfl) : DE X W (.Subscript a b pos) (dOp gIxT ta tb) :=
  PE.of (pe_ix ((ix_seq).or (ix_dict G)) ha hb hs) fun _ _ _ h => lif_op od_ixT h
end
def dDictT : DTE := fun _ M Q _ => ∀ p, M p = none → Q (.ref p) (put M p (.dT []))
def gSetT : DSet := fun o i d M Q => ∃ a kvs ds k, o = .ref a ∧ i = .tup ds ∧ M a = some (.dT kvs) ∧ keyT ds = some k ∧ hasI ds = true ∧ kvs.length < 16777216 ∧ Q (put M a (.dT (putT kvs k d)))
def dDGetT (td ty tx : DTE) : DTE := fun τ M Q E => td τ M (fun d M1 => ∃ a mo kvs0, d = .ref a ∧ M1 a = some mo ∧ dtOf mo = some kvs0 ∧ ty τ M1 (fun y M2 => tx τ M2 (fun z M3 => onTK (.ref a) y M3 fun kvs k => Q ((lookT kvs k).getD z) M3) E) E) E
section
variable {X : Cx} {W : WX} {o e f i : Expr} {td to ti ty tx : DTE} {pos apos cpos : Pos}
theorem de_dictT : DE X W (.Dict [] [] pos) dDictT := PE.of pe_dnewT fun σ H Q ⟨τ, M, Q0, E0, S, h⟩ => fun p hp =>
  S.q _ _ _ _ (h p (S.co.free hp)) rfl (S.co.newM hp ⟨[], rfl, rfl, .nil⟩) (Stp.newM hp)
theorem dg_setT (G : Gd X W) (ho : DE X W o to) (hi : DE X W i ti) (ha : ∀ v, assign (.Subscript o i pos) X.env v = (do
      let ov ← holding [v] (eval o X.env)
      let iv ← holding [v, ov] (eval i X.env)
      standAt pos
      holding [v, ov, iv] (setItem ov iv v)
      release [v, ov, iv] []) := by intro _; rfl) : DG X W (.Subscript o i pos) (dgSub to ti gSetT) :=
  PG.of (pg_sub ho hi (set_any G.hu1) ha) fun v σ H Q ⟨d, τ, M, Q0, E0, r, S, h⟩ => S.sub h fun x M1 v1 H1 h1 r1 S1 s1 => S1.sub h1 fun y M2 v2 H2 h2 r2 S2 s2 => by
    obtain ⟨a, kvs, ds, k, rfl, rfl, e, h3, h4, h5, h6⟩ := h2
    cases r1
    obtain ⟨b, rfl, hb, _⟩ := key_rep h3 h4 r2
    obtain ⟨ks, hv, ek, ra⟩ := mu_dT S2.co e
    have hl := congrArg List.length ek
    rw [List.length_map, List.length_map] at hl
    have st := Stp.write (H := H2) (o := .dT (putK ks (kOs k) v)) (mo' := .dT (putT kvs k d)) e
    obtain ⟨p1, p2⟩ := putT_rep (k := k) ((r.stp s1).stp s2) ek ra
    exact .inr ⟨a, _, rfl, DPut.t hv hb (by rw [line24, hl]; exact h5), S2.q _ _ _ _ h6 (S2.rs.stp st) (S2.co.write e ⟨_, rfl, p1, p2⟩) st⟩
theorem de_dgetT (G : Gd X W) (ho : DE X W o td) (he : DE X W e ty) (hf : DE X W f tx) (m : M2 X o "get" apos e f cpos) : DE X W (.Call (.Attribute o "get" apos) [e, f] [] cpos) (dDGetT td ty tx) :=
  PE.of (pe_dget2 G.hu1 ho he hf m) fun σ H Q ⟨τ, M, Q0, E0, S, h⟩ => S.sub h fun d M1 v H1 h1 r1 S1 s1 => by
    obtain ⟨a, mo, kvs0, rfl, em, ed, h2⟩ := h1
    cases r1
    obtain ⟨ks, hr, _, _⟩ := mu_tR S1.co em ed
    refine ⟨a, rfl, .inr ⟨ks, hr⟩, S1.sub h2 fun y M2 w H2 h3 r2 S2 s2 => S2.sub h3 fun z M3 w3 H3 h4 r3 S3 s3 => ?_⟩
    obtain ⟨a', mo3, kvs, ds, k, ea, rfl, e1, e2, e3, e4, h5⟩ := h4
    cases ea
    have g := dget_t S3.co e1 e2 e3 e4 (r2.stp s3)
    cases q : lookT kvs k with
    | none =>
      rw [q] at h5 g
      exact ⟨none, g, S3.end_ h5 r3⟩
    | some d =>
      rw [q] at h5 g
      obtain ⟨u, g1, g2⟩ := g
      exact ⟨some u, g1, S3.end_ h5 g2⟩
end
def keysT' (kvs : List (TKey × D)) : List D := kvs.map fun q => keyD q.1
def gListT : DCb := fun xs M Q => ∃ a mo kvs, xs = [.ref a] ∧ M a = some mo ∧ dtOf mo = some kvs ∧ Q (.lst (keysT' kvs)) M
section
variable {K : PySem.W.Frag} {M : Mu} {H : Hp}
theorem tup_free {b : Addr} {vs : List V} (c : Cor K M H) (h : H b = some (.tup vs)) : M b = none := by
  cases e : M b with
  | none => rfl
  | some mo =>
    obtain ⟨o, e1, e2⟩ := c b mo e
    rw [h] at e1
    injection e1 with e1
    subst e1
    cases mo with
    | lst ds => obtain ⟨_, e, _⟩ := e2; cases e
    | dK kvs => obtain ⟨_, e, _⟩ := e2; cases e
    | fK kvs u => obtain ⟨e0, od, ks, e, _⟩ := e2; rw [← e0] at e; cases e
    | dT kvs => obtain ⟨_, e, _⟩ := e2; cases e
    | fT kvs u => obtain ⟨e0, od, ks, e, _⟩ := e2; rw [← e0] at e; cases e
    | ins C fs => obtain ⟨_, _, e, _⟩ := e2; cases e
theorem kD_reps : ∀ k : TKey, Reps K M H (k.map kD) ((kOs k).map kV)
  | [] => .nil
  | .inl i :: r => .cons rfl (kD_reps r)
  | .inr x :: r => .cons rfl (kD_reps r)
theorem keysT_rep (c : Cor K M H) : ∀ {kvs : List (TKey × D)} {ks : List (List Key × V)} {bs : List Addr}, ks.map (·.1) = kvs.map (fun q => kOs q.1) → IsKeys H ks bs → Reps K M H (keysT' kvs) (bs.map V.ref)
  | [], [], _, _, .nil => .nil
  | [], _ :: _, _, h, _ => by cases h
  | _ :: _, [], _, h, _ => by cases h
  | a :: kvs, b :: ks, _, h, .cons h1 t => by
    simp only [List.map_cons, List.cons.injEq] at h
    rename_i p ps
    refine .cons ?_ (keysT_rep c h.2 t)
    rw [h.1] at h1
    unfold keyD Rep
    exact ⟨p, _, rfl, .inl ⟨h1, tup_free c h1⟩, kD_reps a.1⟩
theorem cb_listT : CbD K gListT (fun xs H Q => ∃ d kvs, xs = [V.ref d] ∧ Rd H d (.dT kvs) ∧ ∀ p bs, H p = none → IsKeys H kvs bs → Q (.ref p) (upd H p (.lst (bs.map V.ref)))) := fun M H xs vs Q0 Q c r h q => by
  obtain ⟨a, mo, kvs, rfl, em, ed, h2⟩ := h
  obtain ⟨v, u, rfl, r1, r2⟩ := r.uncons
  cases r2.unnil; cases r1
  obtain ⟨ks, hr, ek, _⟩ := mu_tR c em ed
  exact ⟨a, ks, rfl, hr, fun p bs hp hk => new_lst c (keysT_rep c ek hk) h2 q p hp⟩
end
end DL
namespace DL
open PySem L2 He
section
open DT
variable {κ : Type} [DecidableEq κ] {prog : Program} {w : World} {knd : HeapKind prog w κ} {A : Around} {E : Value → Shared → Prop} {s : Shared}
theorem meetsPop1 {d b : Addr} {k : κ} (hd : (d == sysModules) = false) :
    MeetsIn prog w (Builtin.«dict.pop» ⟨[.ref d, .ref b], []⟩) (fun A R s => ∃ xs, knd.room A.in1 ∧ knd.is s.heap k b ∧ s.heap.DictOfH knd d xs ∧ xs.length ≤ sizeLine ∧
      atKey xs k ≠ none ∧ ∀ p, atKey xs k = some p → ∀ h' tk, h'.DictOfH knd d (dropH xs k) → Heap.SameBut d s.heap h' → R (.ok (.ret p.2)) { s with heap := h', toks := tk }) :=
  .of_wp fun A R s ⟨xs, hu, hkey, hm, hsz, hnn, hsome⟩ => by
    obtain ⟨o, es, ep, ho, hc, hdat, he, his, hn⟩ := id hm
    have hes : es.size = xs.length := size_of_entries he
    have hpart : (keyPart (Value.ref b)).isSome = false := rfl
    unfold Builtin.«dict.pop»
    refine wpAny_bind ?_
    unfold Builtin.Dict.keyAndDefault
    refine wpAny_bind (wpAny_notOrdered_dict hm.typeIs ?_)
    show wpAny _ _ (pure (d, Value.ref b, none)) _ _ s
    refine wpAny_pure ?_
    simp only [hpart, Bool.false_eq_true, if_false]
    refine wpAny_bind (wpAny_dictEntries ho hdat (wpAny_bind (wpAny_pure ?_)))
    cases hem : es.isEmpty with
    | true =>
      have h0 : xs = [] := by
        have z : es.size = 0 := by simpa using hem
        exact List.length_eq_zero_iff.mp (by omega)
      exact absurd (by rw [h0]; rfl) hnn
    | false =>
      simp only [Bool.false_eq_true, if_false]
      refine wpAny_bind (takeH hu hkey hm hsz (fun hno => absurd hno hnn) fun p e hp hev h' hm' hs' => ?_)
      simp only [Option.isNone_some, Bool.false_eq_true, if_false]
      exact wpAny_bind (wpAny_letGo (wpAny_pure ⟨e.val, rfl, by rw [hev]; exact hsome p hp h' _ hm' hs'⟩))
end
section
variable {X : Cx}
def rPopT1 : V → List V → Hp → VK → Prop := fun x xs H Q => ∃ (a : Addr) (kvs : List (List L2.Key × V)) (k : List L2.Key) (b : Addr) (v : V), x = .ref a ∧ xs = [.ref b] ∧ H a = some (.dT kvs) ∧ H b = some (.tup (k.map kV)) ∧
  valV kvs k = some v ∧ Q v (upd H a (.dT (dropK kvs k)))
theorem mt_popT1 (hu : X.A.units + 1 < cLine) : MtR X "dict.pop" rPopT1 := by
  intro pins s σ H x xs v us Q I rx rxs h
  obtain ⟨a, kvs, k, b, v0, rfl, rfl, ha, hb, q0, q1⟩ := h
  cases rx
  obtain ⟨u1, rfl, r1⟩ := rxs.one
  cases r1
  obtain ⟨z, hd, xs', rel, dd⟩ := dt_of I.hok ha
  have hz : xs'.length ≤ sizeLine := by rw [← Paired.length rel]; exact z
  have r := rel.val k
  rw [q0] at r
  obtain ⟨p0, ep0, rv⟩ : ∃ p, atKey xs' k = some p ∧ RelV v0 p.2 := by
    cases ev : atKey xs' k with
    | none =>
      rw [ev] at r
      exact (show False from r).elim
    | some p =>
      rw [ev] at r
      exact ⟨p, rfl, r⟩
  refine call_meetsIn PySem.F.slot_dict_pop dd.typeIs PySem.F.entry_dict_pop (PySem.F.args_dict_pop_2 _ _) (meetsPop1 (knd := tupleKind (mixKind X.prog X.w)) (k := k) hd)
    ⟨xs', tupleKind_room_in1 hu, key_of I.hok hb, dd, hz, (by rw [ep0]; simp), fun p hp h' tk dd' hs => ?_⟩
  rw [ep0] at hp
  injection hp with hp
  subst hp
  obtain ⟨o, es, ep, hq, h2, h3, h4, _, h5⟩ := dd'
  have I2 : Inv X pins σ (upd H a (.dT (dropK kvs k))) { s with heap := h', toks := tk } :=
    d_write I (by rw [ha]; exact True.intro) hs ⟨o, hq⟩ ⟨Nat.le_trans (dropK_le kvs k) z, hd, _, (L2.DX.KT_drop k rel).keeps (fun c ys ec => (by rw [upd_ne (ne_of ec ha (fun z => nomatch z))]; exact ec)), o, es, ep, hq, h2, h3, h4, h5⟩
  show EP X pins σ Q p0.2 _
  exact ⟨v0, _, I2, rv, q1⟩
end
def gPopT : DMt := fun x xs M Q => ∃ a kvs ds k d, x = .ref a ∧ xs = [.tup ds] ∧ M a = some (.dT kvs) ∧ keyT ds = some k ∧ hasI ds = true ∧ lookT kvs k = some d ∧ Q d (put M a (.dT (dropT kvs k)))
section
variable {K : PySem.W.Frag}
theorem md_popT : MtD K gPopT rPopT1 := fun M H x v xs vs Q0 Q c rx r h q => by
  obtain ⟨a, kvs, ds, k, d, rfl, rfl, e, h3, h4, h5, h6⟩ := h
  cases rx
  obtain ⟨v1, us, rfl, r1, r2⟩ := r.uncons
  cases r2.unnil
  obtain ⟨b, rfl, hb, _⟩ := key_rep h3 h4 r1
  obtain ⟨ks, hv, ek, ra⟩ := mu_dT c e
  have l := lookT_rep (k := k) ek ra
  rw [h5] at l
  obtain ⟨w, l1, l2⟩ := l
  obtain ⟨p1, p2⟩ := dropT_rep (k := k) ek ra
  have st := Stp.write (H := H) (o := .dT (dropK ks (kOs k))) (mo' := .dT (dropT kvs k)) e
  exact ⟨a, ks, kOs k, b, w, rfl, rfl, hv, hb, l1, q _ _ _ _ h6 (l2.stp st) (c.write e ⟨_, rfl, p1, p2⟩) st⟩
end
end DL
namespace DL
open PySem PySem.W PySem.Spec PyProof.Rows L2 He
section
variable {X : Cx} {pins : List (Addr × Obj)} {σ : L2.St} {H : Hp} {s : Shared} {d : Addr} {o : Obj}
theorem frzT2 {kvs : List (List Key × V)} (I : Inv X pins σ H s) (h : H d = some (.frz o (.dT kvs))) :
    (d == sysModules) = false ∧ s.heap.get? d = some o ∧ o.ExactDict ∧ ∃ (es : Array DictEntry) (ep : Nat), o.data = .dict es ep ∧ es.size = kvs.length ∧
      ∀ (i : Nat) (k : List Key) (v : V), kvs[i]? = some (k, v) → ∃ (en : DictEntry) (q : Addr), es[i]? = some en ∧ en.key = .ref q ∧ H q = some (.tup (k.map kV)) ∧ RelV v en.val := by
  obtain ⟨hd, z, hs, xs, pr, o', es, ep, ho, hx, hdt, he, _⟩ := I.hok d _ h
  rw [hd] at ho
  cases ho
  refine ⟨hs, hd, hx, es, ep, hdt, ?_, fun i k v e => ?_⟩
  · have l1 : es.size = xs.length := size_of_entries he
    have l2 : kvs.length = xs.length := Paired.length pr
    omega
  · obtain ⟨b, hb, e1, e2, e3⟩ := paired_get pr e
    have q := entry_at he i
    rw [hb] at q
    exact ⟨_, b.2.1, q, rfl, e2, e3⟩
end
def Itit (d : Addr) (o : Obj) (kvs : List (List Key × V)) : It :=
  ⟨fun i H => H d = some (.frz o (.dT kvs)) ∧ i < kvs.length, fun i H x H' => ∃ (T : Addr) (k : List Key) (v : V) (q : Addr), kvs[i]? = some (k, v) ∧ x = .ref T ∧ H T = none ∧ H q = some (.tup (k.map kV)) ∧ H' = upd H T (.tup [.ref q, v]), fun i H => H d = some (.frz o (.dT kvs)) ∧ kvs.length ≤ i⟩
section
variable {P : Program} {w : World} {K : PySem.W.Frag} {d : Addr} {o : Obj} {es : Array DictEntry} {ep : Nat}
theorem turn_itemsT {kvs : List (List Key × V)} {elts : List Expr} {kk : Nat} {tpos : Pos} (it : Addr) (hod : o.data = .dict es ep) :
    Turn P w K (.Tuple elts kk tpos) (Itit d o kvs) [it] it (fun i h => ∃ ok ov, IsItemIter h it d i kvs.length ep ok ov) where
  mem := by simp
  obj := fun i h st b hb => by
    have e : b = it := by simpa using hb
    subst e
    obtain ⟨ok, ov, e⟩ := st
    exact ⟨_, e, fun v z => nomatch z⟩
  keep := fun i h h' st k => let ⟨ok, ov, e⟩ := st; ⟨ok, ov, k it (by simp) _ e⟩
  item := by
    intro X hP hw hK hc i pins s σ H E I hf st hg
    subst hP hw hK
    obtain ⟨hd, hi⟩ := hg
    obtain ⟨hs, hgd, hx, es', ep', hdt, hsz, ent⟩ := frzT2 I hd
    obtain ⟨rfl, rfl⟩ := dict_ep hod hdt
    obtain ⟨⟨k, v⟩, hkv⟩ : ∃ p, kvs[i]? = some p := ⟨kvs[i], List.getElem?_eq_getElem hi⟩
    obtain ⟨en, q, hen, hkey, hq, rv⟩ := ent i k v hkv
    obtain ⟨ok, ov, he⟩ := st
    rw [← hsz] at he
    have hlt : it < s.heap.objs.size := Heap.lt_size he
    have hi2 : i < es'.size := by rw [hsz]; exact hi
    have een : es'[i] = en := by
      rw [Array.getElem?_eq_getElem hi2] at hen
      exact Option.some.inj hen
    refine DT.nextI he ⟨o, hgd, hx, hdt⟩ hi2 fun h' ho hT hz hk => ?_
    refine ⟨_, rfl, wpAny_letOwnedTupleGo_items (s := { s with heap := h' }) ho fun h'' he' sb => ?_⟩
    have hT2 : h''.get? s.heap.objs.size = some { cls := .type "tuple", data := .seq #[es'[i].key, es'[i].val] } := (sb.2 _ (Nat.ne_of_gt hlt)).trans hT
    have new : ObjOk X.prog X.w (upd H s.heap.objs.size (.tup [.ref q, v])) h'' s.heap.objs.size (.tup [.ref q, v]) :=
      ⟨by show 2 ≤ sizeLine; decide, [es'[i].key, es'[i].val], .cons (by rw [een]; exact hkey) (.cons (by rw [een]; exact rv) .nil), ⟨_, hT2, rfl, _, rfl⟩⟩
    have I1 : Inv X pins σ (upd H s.heap.objs.size (.tup [.ref q, v])) { s with heap := h'' } :=
      I.turnedNew (t' := s.toks) (ch := [it]) (fun b ob hb e => (sb.2 b (by simpa using hb)).trans (hk b ob (by simpa using hb) e)) hf (Nat.le_refl _) new
    refine ⟨.ref s.heap.objs.size, _, I1, rfl, ⟨_, k, v, q, hkv, rfl, I.hok.fresh (Nat.le_refl _), hq, rfl⟩, ⟨es'[i].key, es'[i].val, ?_⟩, fun b hb => ?_⟩
    · rw [← hsz]; exact he'
    · have e : b = it := by simpa using hb
      rw [e, upd_ne (Nat.ne_of_lt hlt)]
      exact (hf it (by simp)).1
  done := by
    intro X hP hw hK hc i pins s σ H E I hf st hg
    subst hP hw hK
    obtain ⟨hd, hi⟩ := hg
    obtain ⟨f0, f1, f2, f3, f4, f5⟩ := hf it (by simp)
    obtain ⟨hs, hgd, hx, es', ep', hdt, hsz, ent⟩ := frzT2 I hd
    obtain ⟨rfl, rfl⟩ := dict_ep hod hdt
    obtain ⟨ok, ov, he⟩ := st
    rw [← hsz] at he
    exact DT.endI (I.ok.hd hc) he ⟨o, hgd, hx, hdt⟩ (by omega) fun h' eb => ⟨rfl, I.turned (t' := s.toks) (fun b ob hb e => eb b ob hb e) f0 f1 f3 f4 f5⟩
  self := fun A i s Q E st h => let ⟨_, _, e⟩ := st; PySem.W.kcp_self e h
end
def iItemsT (td : TE) : TI := fun σ H R => td σ H fun x H1 => ∃ d o kvs, x = .ref d ∧ H1 d = some (.frz o (.dT kvs)) ∧ R (Itit d o kvs) H1
section
variable {X : Cx} {e : Expr} {td : TE} {apos cpos tpos : Pos}
theorem pi_itemsT {elts : List Expr} {kk : Nat} (he : PE X e td) (hbase : attributeBase e "items" X.env (eval e X.env) = eval e X.env := by rfl) (hline : (apos.endLine == cpos.line) = true := by rfl) :
    PI X (.Tuple elts kk tpos) (.Call (.Attribute e "items" apos) [] [] cpos) (iItemsT td) := by
  refine ⟨fun pins s σ H R I h => ?_⟩
  refine wpAny_Call_method (T := "dict") (id := "dict.items") hbase rfl hline F.plainAttrs_dict F.slot_dict_items F.type_dict_items (thn (he.run pins s σ H _ I h) fun u s1 ⟨x, H1, I1, rx, d, o, kvs, ex, hd, q⟩ => ?_)
  subst ex
  obtain rfl : u = Value.ref d := rx
  obtain ⟨hs, hgd, hx, es, ep, hdt, hsz, ent⟩ := frzT2 I1 hd
  have hm : DT.Raw s1.heap d es ep := ⟨o, hgd, hx, hdt⟩
  refine ⟨hm.typeIs, ?_, ?_⟩
  · intro a e
    cases e
    exact ⟨o, hgd, hx.2.1⟩
  have I2 : Inv X pins σ H1 { s1 with heap := s1.heap.push { cls := .type "dict_items", data := .fields #[.ref d] } } := I1.kept (t' := s1.toks) fun b ob q => Heap.get?_push_of_some _ q
  have fin : wpAny (model X.prog X.w) X.A (pyIter (.ref s1.heap.objs.size)) (PIE X pins σ (.Tuple elts kk tpos) R) X.xe { s1 with heap := s1.heap.push { cls := .type "dict_items", data := .fields #[.ref d] } } := by
    refine DT.iterI (es := es) (ep := ep) ⟨_, Heap.get?_push_size _ rfl, rfl, rfl⟩ (hm.push _) (pi_one (tk := s1.toks) I2 _ (turn_itemsT _ hdt) ⟨.none, .none, ?_⟩ q)
    rw [← hsz]
    exact Heap.get?_push_size _ rfl
  show wpAny _ _ (callWith cpos (.builtin "dict.items") [.ref d] [] []) _ X.xe s1
  exact method_meetsIn F.slot_dict_items F.entry_dict_items rfl (PySem.evalArgs_none ⟨rfl, hm.typeIs, F.args_dict_items_1 _, _, DT.meetsItems (es := es) (ep := ep) hs, hm, fin⟩)
end
end DL
namespace DL
open PySem L2 He
section
variable {X : Cx} {W : WX} {st : Stmt} {t : DTS} {pos : Pos}
def dLockT (t : DTS) : DTS := fun D0 τ M => ∃ a kvs, M a = some (.dT kvs) ∧ ∀ u, t ⟨fun τ' M' => M' a = some (.fT kvs u) ∧ D0.nx τ' (put M' a (.dT kvs)), fun d M' => M' a = some (.fT kvs u) ∧ D0.rt d (put M' a (.dT kvs)), fun τ' M' => M' a = some (.fT kvs u) ∧ D0.bk τ' (put M' a (.dT kvs)),
      fun τ' M' => M' a = some (.fT kvs u) ∧ D0.ct τ' (put M' a (.dT kvs)), fun _ _ _ => False⟩ τ (put M a (.fT kvs u))
theorem ds_lockT (h : DS X W st t) : DS X W st (dLockT t) := PS.of (ps_lock h) fun D1 σ H ⟨τ, M, D0, S, hh⟩ => by
  obtain ⟨a, kvs, em, hh⟩ := hh
  obtain ⟨ks, ha, ek, rk⟩ := mu_dT S.co em
  refine ⟨a, .dT ks, ha, trivial, fun od => ?_⟩
  have s0 := Stp.write (H := H) (o := .frz od (.dT ks)) (mo' := .fT kvs (.frz od (.dT ks))) em
  have c0 := S.co.write (o := .frz od (.dT ks)) (mo' := .fT kvs (.frz od (.dT ks))) em ⟨rfl, od, ks, rfl, ek, rk⟩
  have back : ∀ {M' : Mu} {H' : Hp}, M' a = some (.fT kvs (.frz od (.dT ks))) → Cor X.K M' H' → Stp (put M a (.fT kvs (.frz od (.dT ks)))) (upd H a (.frz od (.dT ks))) M' H' →
      H' a = some (.frz od (.dT ks)) ∧ Cor X.K (put M' a (.dT kvs)) (upd H' a (.dT ks)) ∧ Stp M' H' (put M' a (.dT kvs)) (upd H' a (.dT ks)) ∧ Stp M H (put M' a (.dT kvs)) (upd H' a (.dT ks)) := by
    intro M' H' m c s
    obtain ⟨od', ks', q1, q2, q3, q4⟩ := mu_fT c m
    injection q2 with q5 q6
    injection q6 with q7
    subst q5 q7
    have s1 := Stp.write (H := H') (o := .dT ks) (mo' := .dT kvs) m
    exact ⟨q1, c.write m ⟨_, rfl, q3, q4⟩, s1, (s0.trans s).trans s1⟩
  refine ⟨τ, _, _, ⟨S.rs.stp s0, c0, ?_, ?_, ?_, ?_, ?_⟩, hh (.frz od (.dT ks))⟩
  · rintro τ' M' σ' H' ⟨m, n⟩ r c s
    obtain ⟨b1, b2, b3, b4⟩ := back m c s
    exact ⟨b1, S.nx _ _ _ _ n (r.stp b3) b2 b4⟩
  · rintro d M' v H' ⟨m, n⟩ r c s
    obtain ⟨b1, b2, b3, b4⟩ := back m c s
    exact ⟨b1, S.rt _ _ _ _ n (r.stp b3) b2 b4⟩
  · rintro τ' M' σ' H' ⟨m, n⟩ r c s
    obtain ⟨b1, b2, b3, b4⟩ := back m c s
    exact ⟨b1, S.bk _ _ _ _ n (r.stp b3) b2 b4⟩
  · rintro τ' M' σ' H' ⟨m, n⟩ r c s
    obtain ⟨b1, b2, b3, b4⟩ := back m c s
    exact ⟨b1, S.ct _ _ _ _ n (r.stp b3) b2 b4⟩
  · exact fun _ _ _ _ _ _ _ z => z.elim
def itemsT' (kvs : List (TKey × D)) : List D := kvs.map fun q => .tup [keyD q.1, q.2]
def wForT (a : Addr) (kvs : List (TKey × D)) (u : HO) (g : DTG) (tb : DTS) (D0 : DEnds) : List D → DSt → Mu → Prop
  | [], τ, M => M a = some (.fT kvs u) ∧ D0.nx τ M
  | d :: ds, τ, M => M a = some (.fT kvs u) ∧ g d τ M (fun τ1 M1 => tb { D0 with nx := wForT a kvs u g tb D0 ds, ct := wForT a kvs u g tb D0 ds, bk := D0.nx } τ1 M1) (D0.ex τ)
def dForT (te : DTE) (g : DTG) (tb : DTS) : DTS := fun D0 τ M => te τ M (fun d M1 => ∃ a kvs u, d = .ref a ∧ M1 a = some (.fT kvs u) ∧ wForT a kvs u g tb D0 (itemsT' kvs) τ M1) (D0.ex τ)
theorem ds_forT {e : Expr} {elts : List Expr} {kk : Nat} {tpos apos cpos : Pos} {body : List Stmt} {te : DTE} {g : DTG} {tb : DTS} (G : Gd X W) (he : DE X W e te) (hg : DG X W (.Tuple elts kk tpos) g) (hb : DSs X W body tb)
    (hbase : attributeBase e "items" X.env (eval e X.env) = eval e X.env := by rfl) (hline : (apos.endLine == cpos.line) = true := by rfl)
    (hs : ∀ x, foldedSetIterable (.Call (.Attribute e "items" apos) [] [] cpos) X.env x = pure x := by intro _; rfl) :
    DS X W (.For (.Tuple elts kk tpos) (.Call (.Attribute e "items" apos) [] [] cpos) body [] pos) (dForT te g tb) :=
  PS.of (ps_for G.own G.calm (pi_itemsT he hbase hline) hg hb hs) fun D1 σ H ⟨τ, M, D0, S, h⟩ => S.sub h fun d M1 v H1 h1 r1 S1 s1 => by
    obtain ⟨a, kvs, u, rfl, em, h3⟩ := h1
    cases r1
    obtain ⟨od, ks, hf, eu, ek, rk⟩ := mu_fT S1.co em
    subst eu
    have hlen : ks.length = (itemsT' kvs).length := by
      have := congrArg List.length ek
      rw [List.length_map, List.length_map] at this
      rw [this, itemsT', List.length_map]
    refine ⟨a, od, ks, rfl, hf, ?_⟩
    refine ⟨fun i m σ2 H2 => m = (itemsT' kvs).length - i ∧ i ≤ (itemsT' kvs).length ∧ ∃ τ2 M2, Stp M1 H1 M2 H2 ∧ SitS X.K W τ2 M2 σ2 H2 D0 D1 ∧ wForT a kvs (.frz od (.dT ks)) g tb D0 ((itemsT' kvs).drop i) τ2 M2, ⟨(itemsT' kvs).length, rfl, Nat.zero_le _, τ, M1, Stp.refl M1 H1, S1, h3⟩, ?_⟩
    rintro i m σ2 H2 ⟨rfl, hi, τ2, M2, s2, S2, h2⟩
    have at_ : M2 a = some (.fT kvs (.frz od (.dT ks))) → H2 a = some (.frz od (.dT ks)) ∧ Reps X.K M2 H2 (kvs.map (·.2)) (ks.map (·.2)) := fun z => by
      obtain ⟨od', ks', q1, q2, _, q4⟩ := mu_fT S2.co z
      injection q2 with q5 q6
      injection q6 with q7
      subst q5 q7
      exact ⟨q1, q4⟩
    by_cases hlt : i < (itemsT' kvs).length
    · have e : (itemsT' kvs).drop i = (itemsT' kvs)[i] :: (itemsT' kvs).drop (i + 1) := List.drop_eq_getElem_cons hlt
      rw [e] at h2
      refine .inr ⟨⟨(at_ h2.1).1, by omega⟩, fun σ3 H3 => ∃ τ3 M3, Stp M1 H1 M3 H3 ∧ SitS X.K W τ3 M3 σ3 H3 D0 D1 ∧ wForT a kvs (.frz od (.dT ks)) g tb D0 ((itemsT' kvs).drop (i + 1)) τ3 M3, fun σ3 H3 q => ⟨(itemsT' kvs).length - (i + 1), by omega, rfl, hlt, q⟩, fun x H3 y => ?_⟩
      obtain ⟨T, key, val, q, ykv, rfl, hT, hq, rfl⟩ := y
      have hk2 : i < kvs.length := by rw [itemsT', List.length_map] at hlt; exact hlt
      have e1 : key = kOs kvs[i].1 := by
        have z : (ks.map (·.1))[i]? = (kvs.map fun q => kOs q.1)[i]? := by rw [ek]
        rw [List.getElem?_map, List.getElem?_map, ykv, List.getElem?_eq_getElem hk2] at z
        simpa using z
      have e2 : Rep X.K M2 H2 kvs[i].2 val := by
        obtain ⟨w, z1, z2⟩ := (at_ h2.1).2.get (i := i) (d := kvs[i].2) (by rw [List.getElem?_map, List.getElem?_eq_getElem hk2]; rfl)
        rw [List.getElem?_map, ykv] at z1
        injection z1 with z1
        have z1 : val = w := z1
        rw [z1]
        exact z2
      have e3 : (itemsT' kvs)[i] = .tup [keyD kvs[i].1, kvs[i].2] := by simp [itemsT']
      have rk1 : Rep X.K M2 H2 (keyD kvs[i].1) (.ref q) := by
        rw [e1] at hq
        unfold keyD Rep
        exact ⟨q, _, rfl, .inl ⟨hq, tup_free S2.co hq⟩, kD_reps kvs[i].1⟩
      have sn : Stp M2 H2 M2 (upd H2 T (.tup [.ref q, val])) := Stp.new hT
      have cn : Cor X.K M2 (upd H2 T (.tup [.ref q, val])) := S2.co.new hT
      have y1 : Rep X.K M2 (upd H2 T (.tup [.ref q, val])) (itemsT' kvs)[i] (.ref T) := by
        rw [e3]
        exact rep_tup upd_same (S2.co.free hT) ((Reps.cons rk1 (Reps.cons e2 Reps.nil)).stp sn)
      refine ⟨(itemsT' kvs)[i], τ2, M2, _, D0.ex τ2, y1, ⟨S2.rs.stp sn, cn, fun τ4 M4 σ4 H4 h4 r4 c4 s4 => ?_, fun x M' c d H' h r c' s' => S2.xc x τ2 M' c d σ2 H' h r (S2.rs.stp (sn.trans s')) c' (sn.trans s')⟩, h2.2⟩
      have S4 := S2.go r4 c4 (sn.trans s4)
      exact ⟨τ4, M4, { D0 with nx := wForT a kvs (.frz od (.dT ks)) g tb D0 ((itemsT' kvs).drop (i + 1)), ct := wForT a kvs (.frz od (.dT ks)) g tb D0 ((itemsT' kvs).drop (i + 1)), bk := D0.nx }, ⟨S4.rs, S4.co, fun a b c d h r c' s => ⟨a, b, ((s2.trans sn).trans s4).trans s, S4.go r c' s, h⟩, S4.rt, S4.nx, fun a b c d h r c' s => ⟨a, b, ((s2.trans sn).trans s4).trans s, S4.go r c' s, h⟩, S4.xc⟩, h4⟩
    · have e : i = (itemsT' kvs).length := by omega
      rw [e, List.drop_length] at h2
      exact .inl ⟨⟨(at_ h2.1).1, by omega⟩, S2.next h2.2⟩
end
end DL
namespace DL
open PySem L2 He
section
variable {Q : DK} {Qm : Mu → Prop} {x y d : D} {M : Mu} {τ : DSt} {E : DX} {D0 : DEnds} {te td ty tx : DTE} {g : DTG} {tb t : DTS}
theorem ixT_r : opK (K := Q) ⟨⟩ gIxT x y M = onTK x y M fun kvs k => ∃ d, lookT kvs k = some d ∧ Q d M := pq Iff.rfl
theorem ninT_r : opK (K := Q) ⟨⟩ gNotInT x y M = onTK y x M fun kvs k => Q (.bl !(lookT kvs k).isSome) M := pq Iff.rfl
theorem setT_r : setK (K := Qm) ⟨⟩ gSetT x y d M = ∃ a kvs ds k, x = .ref a ∧ y = .tup ds ∧ M a = some (.dT kvs) ∧ keyT ds = some k ∧ hasI ds = true ∧ kvs.length < 16777216 ∧ Qm (put M a (.dT (putT kvs k d))) := pq Iff.rfl
theorem popT_r {xs : List D} : mtK (K := Q) ⟨⟩ gPopT x xs M = ∃ a kvs ds k d, x = .ref a ∧ xs = [.tup ds] ∧ M a = some (.dT kvs) ∧ keyT ds = some k ∧ hasI ds = true ∧ lookT kvs k = some d ∧ Q d (put M a (.dT (dropT kvs k))) := pq Iff.rfl
theorem listT_r {xs : List D} : cbK (K := Q) ⟨⟩ gListT xs M = ∃ a mo kvs, xs = [.ref a] ∧ M a = some mo ∧ dtOf mo = some kvs ∧ Q (.lst (keysT' kvs)) M := pq Iff.rfl
theorem u_dictT : dDictT τ M Q E = ∀ p, M p = none → Q (.ref p) (put M p (.dT [])) := pq Iff.rfl
theorem u_dgetT : dDGetT td ty tx τ M Q E = td τ M (fun d M1 => ∃ a mo kvs0, d = .ref a ∧ M1 a = some mo ∧ dtOf mo = some kvs0 ∧ ty τ M1 (fun y M2 => tx τ M2 (fun z M3 => onTK (.ref a) y M3 fun kvs k => Q ((lookT kvs k).getD z) M3) E) E) E := pq Iff.rfl
theorem u_forT : dForT te g tb D0 τ M = te τ M (fun d M1 => ∃ a kvs u, d = .ref a ∧ M1 a = some (.fT kvs u) ∧ wForT a kvs u g tb D0 (itemsT' kvs) τ M1) (D0.ex τ) := pq Iff.rfl
theorem u_lockT : dLockT t D0 τ M = ∃ a kvs, M a = some (.dT kvs) ∧ ∀ u, t ⟨fun τ' M' => M' a = some (.fT kvs u) ∧ D0.nx τ' (put M' a (.dT kvs)), fun d M' => M' a = some (.fT kvs u) ∧ D0.rt d (put M' a (.dT kvs)), fun τ' M' => M' a = some (.fT kvs u) ∧ D0.bk τ' (put M' a (.dT kvs)),
      fun τ' M' => M' a = some (.fT kvs u) ∧ D0.ct τ' (put M' a (.dT kvs)), fun _ _ _ => False⟩ τ (put M a (.fT kvs u)) := pq Iff.rfl
theorem itM_dT {z : List (TKey × D)} : isTyM "dict" (some (.dT z)) = True := by show ("dict" = "dict") = True; simp
theorem onTK_is {a : Addr} {i : Int} {z : Tx} {kvs : List (TKey × D)} {L : List (TKey × D) → TKey → Prop} (h : M a = some (.dT kvs)) (k : L kvs [.inl i, .inr z]) : onTK (.ref a) (.tup [.int i, .str z]) M L := ⟨a, _, kvs, _, _, rfl, rfl, h, rfl, rfl, rfl, k⟩
theorem wForT_by {a : Addr} {kvs : List (TKey × D)} {u : HO} (I : Nat → DSt → Mu → Prop) {τ : DSt} {M : Mu} (h0 : I 0 τ M) (hk : ∀ i τ M, I i τ M → M a = some (.fT kvs u))
    (step : ∀ i q τ M, kvs[i]? = some q → I i τ M → ∀ nxt, (∀ τ M, I (i + 1) τ M → nxt τ M) → g (.tup [keyD q.1, q.2]) τ M (fun τ1 M1 => tb { D0 with nx := nxt, ct := nxt, bk := D0.nx } τ1 M1) (D0.ex τ))
    (last : ∀ τ M, I kvs.length τ M → D0.nx τ M) : wForT a kvs u g tb D0 (itemsT' kvs) τ M := by
  have go : ∀ n i τ M, i + n = kvs.length → I i τ M → wForT a kvs u g tb D0 ((itemsT' kvs).drop i) τ M := by
    intro n
    induction n with
    | zero =>
      intro i τ M e h
      have e2 : i = kvs.length := by omega
      subst e2
      have e3 : (itemsT' kvs).drop kvs.length = [] := by rw [List.drop_eq_nil_iff, itemsT', List.length_map]; exact Nat.le_refl _
      rw [e3]
      exact ⟨hk _ _ _ h, last _ _ h⟩
    | succ n ih =>
      intro i τ M e h
      have hi : i < kvs.length := by omega
      have hi2 : i < (itemsT' kvs).length := by rw [itemsT', List.length_map]; exact hi
      rw [List.drop_eq_getElem_cons hi2]
      have e3 : (itemsT' kvs)[i] = .tup [keyD kvs[i].1, kvs[i].2] := by simp [itemsT']
      rw [e3]
      exact ⟨hk _ _ _ h, step i _ τ M (List.getElem?_eq_getElem hi) h _ fun τ2 M2 h2 => ih (i + 1) τ2 M2 (by omega) h2⟩
  have := go kvs.length 0 τ M (by omega) h0
  rwa [List.drop_zero] at this
end
end DL
namespace DL
open PySem L2 He
section
variable {X : Cx} {W : WX} {st : Stmt} {t : DTS} {pos : Pos}
def dLockD (t : DTS) : DTS := fun D0 τ M => ∃ a kvs, M a = some (.dK kvs) ∧ ∀ u, t ⟨fun τ' M' => M' a = some (.fK kvs u) ∧ D0.nx τ' (put M' a (.dK kvs)), fun d M' => M' a = some (.fK kvs u) ∧ D0.rt d (put M' a (.dK kvs)), fun τ' M' => M' a = some (.fK kvs u) ∧ D0.bk τ' (put M' a (.dK kvs)),
      fun τ' M' => M' a = some (.fK kvs u) ∧ D0.ct τ' (put M' a (.dK kvs)), fun _ _ _ => False⟩ τ (put M a (.fK kvs u))
theorem ds_lockD (h : DS X W st t) : DS X W st (dLockD t) := PS.of (ps_lock h) fun D1 σ H ⟨τ, M, D0, S, hh⟩ => by
  obtain ⟨a, kvs, em, hh⟩ := hh
  obtain ⟨ks, ha, ek, rk⟩ := mu_dK S.co em
  refine ⟨a, .dK ks, ha, trivial, fun od => ?_⟩
  have s0 := Stp.write (H := H) (o := .frz od (.dK ks)) (mo' := .fK kvs (.frz od (.dK ks))) em
  have c0 := S.co.write (o := .frz od (.dK ks)) (mo' := .fK kvs (.frz od (.dK ks))) em ⟨rfl, od, ks, rfl, ek, rk⟩
  have back : ∀ {M' : Mu} {H' : Hp}, M' a = some (.fK kvs (.frz od (.dK ks))) → Cor X.K M' H' → Stp (put M a (.fK kvs (.frz od (.dK ks)))) (upd H a (.frz od (.dK ks))) M' H' →
      H' a = some (.frz od (.dK ks)) ∧ Cor X.K (put M' a (.dK kvs)) (upd H' a (.dK ks)) ∧ Stp M' H' (put M' a (.dK kvs)) (upd H' a (.dK ks)) ∧ Stp M H (put M' a (.dK kvs)) (upd H' a (.dK ks)) := by
    intro M' H' m c s
    obtain ⟨od', ks', q1, q2, q3, q4⟩ := mu_fK c m
    injection q2 with q5 q6
    injection q6 with q7
    subst q5 q7
    have s1 := Stp.write (H := H') (o := .dK ks) (mo' := .dK kvs) m
    exact ⟨q1, c.write m ⟨_, rfl, q3, q4⟩, s1, (s0.trans s).trans s1⟩
  refine ⟨τ, _, _, ⟨S.rs.stp s0, c0, ?_, ?_, ?_, ?_, ?_⟩, hh (.frz od (.dK ks))⟩
  · rintro τ' M' σ' H' ⟨m, n⟩ r c s
    obtain ⟨b1, b2, b3, b4⟩ := back m c s
    exact ⟨b1, S.nx _ _ _ _ n (r.stp b3) b2 b4⟩
  · rintro d M' v H' ⟨m, n⟩ r c s
    obtain ⟨b1, b2, b3, b4⟩ := back m c s
    exact ⟨b1, S.rt _ _ _ _ n (r.stp b3) b2 b4⟩
  · rintro τ' M' σ' H' ⟨m, n⟩ r c s
    obtain ⟨b1, b2, b3, b4⟩ := back m c s
    exact ⟨b1, S.bk _ _ _ _ n (r.stp b3) b2 b4⟩
  · rintro τ' M' σ' H' ⟨m, n⟩ r c s
    obtain ⟨b1, b2, b3, b4⟩ := back m c s
    exact ⟨b1, S.ct _ _ _ _ n (r.stp b3) b2 b4⟩
  · exact fun _ _ _ _ _ _ _ z => z.elim
def itemsK (kvs : List (DKey × D)) : List D := kvs.map fun q => .tup [kD q.1, q.2]
def wForI (a : Addr) (kvs : List (DKey × D)) (u : HO) (g : DTG) (tb : DTS) (D0 : DEnds) : List D → DSt → Mu → Prop
  | [], τ, M => M a = some (.fK kvs u) ∧ D0.nx τ M
  | d :: ds, τ, M => M a = some (.fK kvs u) ∧ g d τ M (fun τ1 M1 => tb { D0 with nx := wForI a kvs u g tb D0 ds, ct := wForI a kvs u g tb D0 ds, bk := D0.nx } τ1 M1) (D0.ex τ)
def dForI (te : DTE) (g : DTG) (tb : DTS) : DTS := fun D0 τ M => te τ M (fun d M1 => ∃ a kvs u, d = .ref a ∧ M1 a = some (.fK kvs u) ∧ wForI a kvs u g tb D0 (itemsK kvs) τ M1) (D0.ex τ)
theorem ds_forI {e : Expr} {elts : List Expr} {kk : Nat} {tpos apos cpos : Pos} {body : List Stmt} {te : DTE} {g : DTG} {tb : DTS} (G : Gd X W) (he : DE X W e te) (hg : DG X W (.Tuple elts kk tpos) g) (hb : DSs X W body tb)
    (hbase : attributeBase e "items" X.env (eval e X.env) = eval e X.env := by rfl) (hline : (apos.endLine == cpos.line) = true := by rfl)
    (hs : ∀ x, foldedSetIterable (.Call (.Attribute e "items" apos) [] [] cpos) X.env x = pure x := by intro _; rfl) :
    DS X W (.For (.Tuple elts kk tpos) (.Call (.Attribute e "items" apos) [] [] cpos) body [] pos) (dForI te g tb) :=
  PS.of (ps_for G.own G.calm (pi_items he hbase hline) hg hb hs) fun D1 σ H ⟨τ, M, D0, S, h⟩ => S.sub h fun d M1 v H1 h1 r1 S1 s1 => by
    obtain ⟨a, kvs, u, rfl, em, h3⟩ := h1
    cases r1
    obtain ⟨od, ks, hf, eu, ek, rk⟩ := mu_fK S1.co em
    subst eu
    have hlen : ks.length = (itemsK kvs).length := by
      have := congrArg List.length ek
      rw [List.length_map, List.length_map] at this
      rw [this, itemsK, List.length_map]
    refine ⟨a, od, ks, rfl, hf, ?_⟩
    refine ⟨fun i m σ2 H2 => m = (itemsK kvs).length - i ∧ i ≤ (itemsK kvs).length ∧ ∃ τ2 M2, Stp M1 H1 M2 H2 ∧ SitS X.K W τ2 M2 σ2 H2 D0 D1 ∧ wForI a kvs (.frz od (.dK ks)) g tb D0 ((itemsK kvs).drop i) τ2 M2, ⟨(itemsK kvs).length, rfl, Nat.zero_le _, τ, M1, Stp.refl M1 H1, S1, h3⟩, ?_⟩
    rintro i m σ2 H2 ⟨rfl, hi, τ2, M2, s2, S2, h2⟩
    have at_ : M2 a = some (.fK kvs (.frz od (.dK ks))) → H2 a = some (.frz od (.dK ks)) ∧ Reps X.K M2 H2 (kvs.map (·.2)) (ks.map (·.2)) := fun z => by
      obtain ⟨od', ks', q1, q2, _, q4⟩ := mu_fK S2.co z
      injection q2 with q5 q6
      injection q6 with q7
      subst q5 q7
      exact ⟨q1, q4⟩
    by_cases hlt : i < (itemsK kvs).length
    · have e : (itemsK kvs).drop i = (itemsK kvs)[i] :: (itemsK kvs).drop (i + 1) := List.drop_eq_getElem_cons hlt
      rw [e] at h2
      refine .inr ⟨⟨(at_ h2.1).1, by omega⟩, fun σ3 H3 => ∃ τ3 M3, Stp M1 H1 M3 H3 ∧ SitS X.K W τ3 M3 σ3 H3 D0 D1 ∧ wForI a kvs (.frz od (.dK ks)) g tb D0 ((itemsK kvs).drop (i + 1)) τ3 M3, fun σ3 H3 q => ⟨(itemsK kvs).length - (i + 1), by omega, rfl, hlt, q⟩, fun x H3 y => ?_⟩
      obtain ⟨T, key, val, ykv, rfl, hT, rfl⟩ := y
      have hk2 : i < kvs.length := by rw [itemsK, List.length_map] at hlt; exact hlt
      have e1 : key = kO kvs[i].1 := by
        have z : (ks.map (·.1))[i]? = (kvs.map fun q => kO q.1)[i]? := by rw [ek]
        rw [List.getElem?_map, List.getElem?_map, ykv, List.getElem?_eq_getElem hk2] at z
        simpa using z
      have e2 : Rep X.K M2 H2 kvs[i].2 val := by
        obtain ⟨w, z1, z2⟩ := (at_ h2.1).2.get (i := i) (d := kvs[i].2) (by rw [List.getElem?_map, List.getElem?_eq_getElem hk2]; rfl)
        rw [List.getElem?_map, ykv] at z1
        injection z1 with z1
        have z1 : val = w := z1
        rw [z1]
        exact z2
      have e3 : (itemsK kvs)[i] = .tup [kD kvs[i].1, kvs[i].2] := by simp [itemsK]
      have rk1 : Rep X.K M2 H2 (kD kvs[i].1) (kV key) := by
        rw [e1]
        exact kD_rep _
      have sn : Stp M2 H2 M2 (upd H2 T (.tup [kV key, val])) := Stp.new hT
      have cn : Cor X.K M2 (upd H2 T (.tup [kV key, val])) := S2.co.new hT
      have y1 : Rep X.K M2 (upd H2 T (.tup [kV key, val])) (itemsK kvs)[i] (.ref T) := by
        rw [e3]
        exact rep_tup upd_same (S2.co.free hT) ((Reps.cons rk1 (Reps.cons e2 Reps.nil)).stp sn)
      refine ⟨(itemsK kvs)[i], τ2, M2, _, D0.ex τ2, y1, ⟨S2.rs.stp sn, cn, fun τ4 M4 σ4 H4 h4 r4 c4 s4 => ?_, fun x M' c d H' h r c' s' => S2.xc x τ2 M' c d σ2 H' h r (S2.rs.stp (sn.trans s')) c' (sn.trans s')⟩, h2.2⟩
      have S4 := S2.go r4 c4 (sn.trans s4)
      exact ⟨τ4, M4, { D0 with nx := wForI a kvs (.frz od (.dK ks)) g tb D0 ((itemsK kvs).drop (i + 1)), ct := wForI a kvs (.frz od (.dK ks)) g tb D0 ((itemsK kvs).drop (i + 1)), bk := D0.nx }, ⟨S4.rs, S4.co, fun a b c d h r c' s => ⟨a, b, ((s2.trans sn).trans s4).trans s, S4.go r c' s, h⟩, S4.rt, S4.nx, fun a b c d h r c' s => ⟨a, b, ((s2.trans sn).trans s4).trans s, S4.go r c' s, h⟩, S4.xc⟩, h4⟩
    · have e : i = (itemsK kvs).length := by omega
      rw [e, List.drop_length] at h2
      exact .inl ⟨⟨(at_ h2.1).1, by omega⟩, S2.next h2.2⟩
end
section
variable {Q : DK} {M : Mu} {τ : DSt} {E : DX} {D0 : DEnds} {te : DTE} {g : DTG} {tb t : DTS}
theorem u_forI : dForI te g tb D0 τ M = te τ M (fun d M1 => ∃ a kvs u, d = .ref a ∧ M1 a = some (.fK kvs u) ∧ wForI a kvs u g tb D0 (itemsK kvs) τ M1) (D0.ex τ) := pq Iff.rfl
theorem u_lockD : dLockD t D0 τ M = ∃ a kvs, M a = some (.dK kvs) ∧ ∀ u, t ⟨fun τ' M' => M' a = some (.fK kvs u) ∧ D0.nx τ' (put M' a (.dK kvs)), fun d M' => M' a = some (.fK kvs u) ∧ D0.rt d (put M' a (.dK kvs)), fun τ' M' => M' a = some (.fK kvs u) ∧ D0.bk τ' (put M' a (.dK kvs)),
      fun τ' M' => M' a = some (.fK kvs u) ∧ D0.ct τ' (put M' a (.dK kvs)), fun _ _ _ => False⟩ τ (put M a (.fK kvs u)) := pq Iff.rfl
end
end DL
namespace DL
open PySem L2 He PyProof.Rows
theorem mergeK_len : ∀ (more kvs : List (Key × V)), (mergeK kvs more).length ≤ kvs.length + more.length
  | [], kvs => Nat.le_refl _
  | q :: r, kvs => by
    have h := mergeK_len r (putK kvs q.1 q.2)
    have e : (putK kvs q.1 q.2).length ≤ kvs.length + 1 := by
      unfold putK
      split
      · rw [List.length_map]; omega
      · rw [List.length_append]; exact Nat.le_refl _
    show (mergeK (putK kvs q.1 q.2) r).length ≤ _
    rw [List.length_cons]
    omega
section
variable {X : Cx}
def rUpdK : V → List V → Hp → VK → Prop := fun x xs H Q => ∃ (a b : Addr) (kvs more : List (Key × V)), x = .ref a ∧ xs = [.ref b] ∧ a ≠ b ∧ H a = some (.dK kvs) ∧ H b = some (.dK more) ∧ kvs.length + more.length ≤ sizeLine ∧ Q .non (upd H a (.dK (mergeK kvs more)))
theorem mt_updK : MtR X "dict.update" rUpdK := by
  intro pins s σ H x xs v us Q I rx rxs h
  obtain ⟨a, b, kvs, more, rfl, rfl, nab, ha, hb, hl, q⟩ := h
  cases rx
  obtain ⟨u1, rfl, r1⟩ := rxs.one
  cases r1
  obtain ⟨z1, m1, vs, rel, dd⟩ := dk_of I.hok ha
  obtain ⟨z2, m2, ws, rel2, dd2⟩ := dk_of I.hok hb
  have l1 : kvs.length = vs.length := Paired.length rel
  have l2 : more.length = ws.length := Paired.length rel2
  refine call_meetsIn PySem.F.slot_dict_update dd.typeIs PySem.F.entry_dict_update (PySem.F.args_dict_update_2 _ _) (PySem.meets_dict_update (mixKind X.prog X.w) a b nab m2)
    ⟨vs, ws, dd, dd2, by omega, fun h' d1 d2 sb => ?_⟩
  have I2 : Inv X pins σ (upd H a (.dK (mergeK kvs more))) { s with heap := h' } := by
    refine d_write I (by rw [ha]; exact True.intro) sb ?_ ⟨Nat.le_trans (mergeK_len more kvs) hl, m1, _, KV.merge rel2 rel, d1⟩
    obtain ⟨o, es, ep, ho, _⟩ := d1
    exact ⟨o, ho⟩
  show EP X pins σ Q Value.none _
  exact ⟨.non, _, I2, rfl, q⟩
end
def gUpdK : DMt := fun x xs M Q => ∃ a b kvs more, x = .ref a ∧ xs = [.ref b] ∧ a ≠ b ∧ M a = some (.dK kvs) ∧ M b = some (.dK more) ∧ kvs.length + more.length ≤ 16777216 ∧ Q .non (put M a (.dK (mergeD kvs more)))
section
variable {K : PySem.W.Frag}
theorem md_updK : MtD K gUpdK rUpdK := fun M H x v xs vs Q0 Q c rx r h q => by
  obtain ⟨a, b, kvs, more, rfl, rfl, nab, e1, e2, hl, h6⟩ := h
  cases rx
  obtain ⟨v1, us, rfl, r1, r2⟩ := r.uncons
  cases r2.unnil
  cases r1
  obtain ⟨ks, hv, ek, ra⟩ := mu_dK c e1
  obtain ⟨ls, hw, el, rb⟩ := mu_dK c e2
  have k1 := congrArg List.length ek
  have k2 := congrArg List.length el
  rw [List.length_map, List.length_map] at k1 k2
  obtain ⟨p1, p2⟩ := merge_rep el rb ek ra
  have st := Stp.write (H := H) (o := .dK (mergeK ks ls)) (mo' := .dK (mergeD kvs more)) e1
  exact ⟨a, b, ks, ls, rfl, rfl, nab, hv, hw, by rw [line24]; omega, q _ _ _ _ h6 rfl (c.write e1 ⟨_, rfl, p1, p2⟩) st⟩
end
theorem updK_r {Q : DK} {x : D} {xs : List D} {M : Mu} : mtK (K := Q) ⟨⟩ gUpdK x xs M = ∃ a b kvs more, x = .ref a ∧ xs = [.ref b] ∧ a ≠ b ∧ M a = some (.dK kvs) ∧ M b = some (.dK more) ∧ kvs.length + more.length ≤ 16777216 ∧ Q .non (put M a (.dK (mergeD kvs more))) := pq Iff.rfl
end DL
namespace DL
open PySem L2
def dgConsG (g : DTG) (u : DTGs) : DTGs := fun ds τ M Q E => match ds with
  | d :: r => g d τ M (fun τ' M' => u r τ' M' Q E) E
  | _ => False
section
variable {X : Cx} {W : WX} {e : Expr} {es : List Expr} {g : DTG} {u : DTGs}
theorem dgs_consG (h1 : DG X W e g) (h2 : DGs X W es u) (hs : (assignEach (e :: es) X.env).map (·.2) = assign e X.env :: (assignEach es X.env).map (·.2) := by rfl) : DGs X W (e :: es) (dgConsG g u) :=
  PGs.of (pgs_cons h1 h2 hs) fun vs σ H Q ⟨ds, τ, M, Q0, r, S, h⟩ => by
    cases ds with
    | nil => exact h.elim
    | cons d ds =>
      obtain ⟨v, us, rfl, r1, r2⟩ := r.uncons
      exact ⟨v, us, rfl, d, τ, M, _, _, r1, ⟨S.rs, S.co, fun τ' M' σ' H' h r' c' s' => ⟨ds, τ', M', Q0, r2.stp s', ⟨r', c', fun a b c d q r3 c3 s3 => S.q a b c d q r3 c3 (s'.trans s3), fun _ _ _ _ _ z => z.elim⟩, h⟩, fun _ _ _ _ _ z => z.elim⟩, h⟩
end
section
variable {τ : DSt} {M : Mu} {E : DX}
theorem r_gconsG {g : DTG} {u : DTGs} {d : D} {r : List D} {Qs : DSt → Mu → Prop} : dgConsG g u (d :: r) τ M Qs E = g d τ M (fun τ' M' => u r τ' M' Qs E) E := pq Iff.rfl
end
end DL
namespace Lw
open PySem L2 DL
def top (i : Nat) : Stmt := PySem.Challenge.pw_lentahead_k54_whole_packing.main.body.getD i (.Pass ⟨0, 0, 0, 0⟩)
def clsBody : Stmt → List Stmt
  | .ClassDef _ _ _ b _ _ _ _ _ _ _ => b
  | _ => []
def mth (i j : Nat) : Stmt := (clsBody (top i)).getD j (.Pass ⟨0, 0, 0, 0⟩)
abbrev s_l_begin : Stmt := top 16
abbrev s_l_grown : Stmt := top 31
abbrev s_l_draw : Stmt := top 17
abbrev s_l_pick : Stmt := top 18
abbrev s_l_name : Stmt := top 21
abbrev s_l_step : Stmt := top 22
abbrev s_l_tail : Stmt := top 23
abbrev s_l_place : Stmt := top 24
abbrev s_l_parts : Stmt := top 25
abbrev s_l_near : Stmt := top 26
abbrev s_l_places : Stmt := top 27
abbrev s_l_boxed : Stmt := top 32
abbrev s_l_numbers : Stmt := top 29
abbrev s_Memory_alive : Stmt := mth 14 5
abbrev s_Stale_init : Stmt := mth 2 0
abbrev s_Memory__check : Stmt := mth 14 4
abbrev s_end_of_name : Stmt := top 8
abbrev s_is_name : Stmt := top 7
abbrev s_steps_of : Stmt := top 9
abbrev s_Memory__new_block : Stmt := mth 14 1
abbrev s_Memory__walk : Stmt := mth 14 3
abbrev s_Memory_set_number : Stmt := mth 14 7
abbrev s_root_of : Stmt := top 10
abbrev s_Memory_locate : Stmt := mth 14 2
abbrev s_Memory_init : Stmt := mth 14 0
abbrev s_l_same_row : Stmt := top 19
abbrev s_l_same : Stmt := top 20
abbrev s_l_home : Stmt := top 33
abbrev s_l_address : Stmt := top 35
abbrev s_l_relation : Stmt := top 28
abbrev s_l_stays : Stmt := top 34
abbrev s_Memory_number : Stmt := mth 14 6
abbrev s_in_order : Stmt := top 13
abbrev s_lies_beneath : Stmt := top 11
abbrev s_Memory__collect : Stmt := mth 14 10
abbrev s_Memory_part : Stmt := mth 14 11
abbrev s_Memory__move : Stmt := mth 14 9
abbrev s_Memory_pack : Stmt := mth 14 8
abbrev s_l_refused : Stmt := top 36
abbrev s_Memory_pairs : Stmt := mth 14 12
abbrev s_l_ordered : Stmt := top 30
abbrev s_l_holds : Stmt := top 37
abbrev s_l_blocks : Stmt := top 38
abbrev s_law : Stmt := top 39
def fn : List He.DefD := [⟨("_law_begin", none), "_law_begin", "_law_begin", defArgs (top 16), defBody (top 16), defScope (top 16), [], []⟩,
  ⟨("_law_grown", none), "_law_grown", "_law_grown", defArgs (top 31), defBody (top 31), defScope (top 31), [], []⟩,
  ⟨("_law_draw", none), "_law_draw", "_law_draw", defArgs (top 17), defBody (top 17), defScope (top 17), [], []⟩,
  ⟨("_law_pick", none), "_law_pick", "_law_pick", defArgs (top 18), defBody (top 18), defScope (top 18), [], []⟩,
  ⟨("_law_name", none), "_law_name", "_law_name", defArgs (top 21), defBody (top 21), defScope (top 21), [], []⟩,
  ⟨("_law_step", none), "_law_step", "_law_step", defArgs (top 22), defBody (top 22), defScope (top 22), [], []⟩,
  ⟨("_law_tail", none), "_law_tail", "_law_tail", defArgs (top 23), defBody (top 23), defScope (top 23), [], []⟩,
  ⟨("_law_place", none), "_law_place", "_law_place", defArgs (top 24), defBody (top 24), defScope (top 24), [], []⟩,
  ⟨("_law_parts", none), "_law_parts", "_law_parts", defArgs (top 25), defBody (top 25), defScope (top 25), [], []⟩,
  ⟨("_law_near", none), "_law_near", "_law_near", defArgs (top 26), defBody (top 26), defScope (top 26), [], []⟩,
  ⟨("_law_places", none), "_law_places", "_law_places", defArgs (top 27), defBody (top 27), defScope (top 27), [], []⟩,
  ⟨("_law_boxed", none), "_law_boxed", "_law_boxed", defArgs (top 32), defBody (top 32), defScope (top 32), [], []⟩,
  ⟨("_law_numbers", none), "_law_numbers", "_law_numbers", defArgs (top 29), defBody (top 29), defScope (top 29), [], []⟩,
  ⟨("Memory", some "alive"), "alive", "Memory.alive", defArgs (mth 14 5), defBody (mth 14 5), defScope (mth 14 5), [], []⟩,
  ⟨("Memory", some "_check"), "_check", "Memory._check", defArgs (mth 14 4), defBody (mth 14 4), defScope (mth 14 4), [], []⟩,
  ⟨("end_of_name", none), "end_of_name", "end_of_name", defArgs (top 8), defBody (top 8), defScope (top 8), [], []⟩,
  ⟨("is_name", none), "is_name", "is_name", defArgs (top 7), defBody (top 7), defScope (top 7), [], []⟩,
  ⟨("steps_of", none), "steps_of", "steps_of", defArgs (top 9), defBody (top 9), defScope (top 9), [], []⟩,
  ⟨("Memory", some "_new_block"), "_new_block", "Memory._new_block", defArgs (mth 14 1), defBody (mth 14 1), defScope (mth 14 1), [], []⟩,
  ⟨("Memory", some "_walk"), "_walk", "Memory._walk", defArgs (mth 14 3), defBody (mth 14 3), defScope (mth 14 3), [], []⟩,
  ⟨("Memory", some "set_number"), "set_number", "Memory.set_number", defArgs (mth 14 7), defBody (mth 14 7), defScope (mth 14 7), [], []⟩,
  ⟨("root_of", none), "root_of", "root_of", defArgs (top 10), defBody (top 10), defScope (top 10), [], []⟩,
  ⟨("Memory", some "locate"), "locate", "Memory.locate", defArgs (mth 14 2), defBody (mth 14 2), defScope (mth 14 2), [], []⟩,
  ⟨("Memory", some "__init__"), "__init__", "Memory.__init__", defArgs (mth 14 0), defBody (mth 14 0), defScope (mth 14 0), [], []⟩,
  ⟨("_law_same_row", none), "_law_same_row", "_law_same_row", defArgs (top 19), defBody (top 19), defScope (top 19), [], []⟩,
  ⟨("_law_same", none), "_law_same", "_law_same", defArgs (top 20), defBody (top 20), defScope (top 20), [], []⟩,
  ⟨("_law_home", none), "_law_home", "_law_home", defArgs (top 33), defBody (top 33), defScope (top 33), [], []⟩,
  ⟨("_law_address", none), "_law_address", "_law_address", defArgs (top 35), defBody (top 35), defScope (top 35), [], []⟩,
  ⟨("_law_relation", none), "_law_relation", "_law_relation", defArgs (top 28), defBody (top 28), defScope (top 28), [], []⟩,
  ⟨("_law_stays", none), "_law_stays", "_law_stays", defArgs (top 34), defBody (top 34), defScope (top 34), [], []⟩,
  ⟨("Memory", some "number"), "number", "Memory.number", defArgs (mth 14 6), defBody (mth 14 6), defScope (mth 14 6), [], []⟩,
  ⟨("in_order", none), "in_order", "in_order", defArgs (top 13), defBody (top 13), defScope (top 13), [], []⟩,
  ⟨("lies_beneath", none), "lies_beneath", "lies_beneath", defArgs (top 11), defBody (top 11), defScope (top 11), [], []⟩,
  ⟨("Memory", some "_collect"), "_collect", "Memory._collect", defArgs (mth 14 10), defBody (mth 14 10), defScope (mth 14 10), [], []⟩,
  ⟨("Memory", some "part"), "part", "Memory.part", defArgs (mth 14 11), defBody (mth 14 11), defScope (mth 14 11), [], []⟩,
  ⟨("Memory", some "_move"), "_move", "Memory._move", defArgs (mth 14 9), defBody (mth 14 9), defScope (mth 14 9), [], []⟩,
  ⟨("Memory", some "pack"), "pack", "Memory.pack", defArgs (mth 14 8), defBody (mth 14 8), defScope (mth 14 8), [], []⟩,
  ⟨("_law_refused", none), "_law_refused", "_law_refused", defArgs (top 36), defBody (top 36), defScope (top 36), [], []⟩,
  ⟨("Memory", some "pairs"), "pairs", "Memory.pairs", defArgs (mth 14 12), defBody (mth 14 12), defScope (mth 14 12), [], []⟩,
  ⟨("_law_ordered", none), "_law_ordered", "_law_ordered", defArgs (top 30), defBody (top 30), defScope (top 30), [], []⟩,
  ⟨("_law_holds", none), "_law_holds", "_law_holds", defArgs (top 37), defBody (top 37), defScope (top 37), [], []⟩,
  ⟨("_law_blocks", none), "_law_blocks", "_law_blocks", defArgs (top 38), defBody (top 38), defScope (top 38), [], []⟩,
  ⟨("law", none), "law", "law", defArgs (top 39), defBody (top 39), defScope (top 39), [], []⟩]
def fx : List He5.DefA := []
def fe : List DefE := [⟨"Stale", "Stale.__init__", defArgs (mth 2 0), defBody (mth 2 0), defScope (mth 2 0), PySem.Challenge.pw_lentahead_k54_whole_packing.main.file⟩]
def gb : List (PySem.W.Frag → Bool) := [DL.errCB "Stale" "address",
  DL.errTB ["Stale"] ["Stale", "LentError"],
  fun K => (["Stale"] : List Str).all fun C => He.eqO (PySem.W.findIn K (.ref (He.ga K C)) "address") (some none)]
def ts : List He.Tab := []
def fa : List He.Fa := [.glo "_law_begin", .glo "_law_grown", .glo "_law_draw", .glo "_law_pick", .glo "_law_name", .glo "_law_step", .glo "_law_tail", .glo "_law_place", .glo "_law_parts", .glo "_law_near", .glo "_law_places", .glo "_law_boxed", .glo "_law_numbers", .meth "Memory" "alive", .meth "Memory" "_check", .glo "end_of_name", .glo "is_name", .glo "steps_of", .meth "Memory" "_new_block", .meth "Memory" "_walk", .meth "Memory" "set_number", .glo "root_of", .meth "Memory" "locate", .meth "Memory" "__init__", .glo "_law_same_row", .glo "_law_same", .glo "_law_home", .glo "_law_address", .glo "_law_relation", .glo "_law_stays", .meth "Memory" "number", .glo "in_order", .glo "lies_beneath", .meth "Memory" "_collect", .meth "Memory" "part", .meth "Memory" "_move", .meth "Memory" "pack", .glo "_law_refused", .meth "Memory" "pairs", .glo "_law_ordered", .glo "_law_holds", .glo "_law_blocks", .glo "law", .free "ValueError", .free "all", .free "bool", .free "int", .free "isinstance", .free "len", .free "list", .free "min", .free "range", .free "sorted", .free "str", .free "super", .free "tuple", .str "LETTERS" "abcdefghijklmnopqrstuvwxyz", .str "MARKS" ".^", .int "MOST_LETTERS" 8, .mkr "Memory", .glo "Memory", .cls "Memory", .noat "Memory" "_roots", .noat "Memory" "_boxes", .noat "Memory" "_numbers", .noat "Memory" "_gone", .noat "Memory" "_made", .glo "Stale", .glo "LentError"]
abbrev R : PySem.W.OpenRow := PySem.W.OpenLaw.row PySem.Challenge.rw_lentahead_k54_whole_packing
abbrev hk : PySem.W.Hook := DL.hookQ 6 fa fn gb ts fx fe
def ob (s : PySem.W.SharedT) : DL.AlE := DL.obsEQ 6 fa fn gb ts fx fe (HandSHeadRun.getT s)
theorem ob_eq (s : PySem.W.SharedT) : ob s = hk.obs s.abs := DL.obsEQ_eq (HandSHeadRun.getT_eq s)
def names0 : List PySem.Str := ["LentError", "Stale", "LETTERS", "MARKS", "MOST_LETTERS", "is_name", "end_of_name", "steps_of", "root_of", "lies_beneath", "in_order", "Memory", "_law_begin", "_law_draw", "_law_pick", "_law_same_row", "_law_same", "_law_name", "_law_step", "_law_tail", "_law_place", "_law_parts", "_law_near", "_law_places", "_law_relation", "_law_numbers", "_law_ordered", "_law_grown", "_law_boxed", "_law_home"]
def names1 : List PySem.Str := ["_law_stays", "_law_address", "_law_refused", "_law_holds", "_law_blocks"]
def names : List PySem.Str := names0 ++ names1
theorem run_l (w : World) : ∀ os : OsState, (HandSHeadRun.endF (HandSHeadRun.stepQ (HandSHeadRun.denQ HandSHeadRun.tabQ) R.prog w) 30000 R.prog w os).map (fun s => HandSHeadRun.looksF R.prog (PySem.W.boot_heap w.params) s.abs) = some true := by
  intro os
  kernel_rfl
theorem run_s (w : World) : ∀ os : OsState, (HandSHeadRun.endF (HandSHeadRun.stepQ (HandSHeadRun.denQ HandSHeadRun.tabQ) R.prog w) 30000 R.prog w os).map (fun s => HandSHeadRun.seenQ (PySem.W.view R.prog [39]) names (importedModules R.prog.main.body) (fun s => PySem.W.xlAt (PySem.W.view R.prog [39]) [] s && PySem.W.recOk R.records s) s.abs) = some (PySem.W.openGood (PySem.W.view R.prog [39]) names) := by
  intro os
  kernel_rfl
theorem run_o (w : World) : ∀ os : OsState, (HandSHeadRun.endF (HandSHeadRun.stepQ (HandSHeadRun.denQ HandSHeadRun.tabQ) R.prog w) 30000 R.prog w os).map ob = some (hk.val w) := by
  intro os
  kernel_rfl
theorem run (w : World) : HandSHeadRun.RunEq R (PySem.W.view R.prog [39]) hk ob 30000 names w := DL.run_of (run_l w) (run_s w) (run_o w)
theorem holds_of {sp : DL.DSp} (hsp : ∀ ns : List Int, ns.length ≤ 63 → sp [.scr ns] (fun _ => none) (fun d _ => d = .bl true) (fun _ _ => False))
    (F : ∀ {w : World} {K : PySem.W.Frag} {h : Heap} {mg : PySem.Str → Option Value} {f : Addr}, K.In h → h.Ns mainGlobals mg → mg ("law" : PySem.Str) = some (.ref f) → DL.SaysE fa fn gb ts fx fe w K →
      ∃ fd : FuncData, (∀ (s : Shared) (v : Value), BindsTo s fd ⟨[v], []⟩ [("_law_script", v)]) ∧ ∀ base : Heap, K.In base → base.Ns mainGlobals mg → FnOk (PySem.Challenge.rw_lentahead_k54_whole_packing).prog w K mg base (L2N.CX (PySem.Challenge.rw_lentahead_k54_whole_packing).prog w) 20 f fd ["_law_script"] (lsp K sp)) : PySem.Challenge.rw_lentahead_k54_whole_packing.Holds := by
  w_on; o_law
  refine HandSHeadRun.head_any (r := PySem.W.OpenLaw.row PySem.Challenge.rw_lentahead_k54_whole_packing) (q := PySem.W.view (PySem.W.OpenLaw.row PySem.Challenge.rw_lentahead_k54_whole_packing).prog [39]) (H := Lw.hk) (ob := Lw.ob) (M := 30000) (loose := Lw.names) (d := HandSHeadRun.topDef (PySem.W.OpenLaw.row PySem.Challenge.rw_lentahead_k54_whole_packing).prog 39) (kwd := []) Lw.ob_eq
    (by kernel_rfl) (fun s => by kernel_rfl) Lw.run (by kernel_rfl) (by kernel_rfl) (by kernel_rfl) (by rfl) (by first | assumption | decide +kernel) (by decide +kernel) ⟨rfl, rfl, rfl, rfl, rfl, by decide +kernel⟩ ?hw ?hc
  case hw => w_witness2
  case hc =>
    refine DL.law_walk (l := PySem.Challenge.rw_lentahead_k54_whole_packing) (sp := sp) (k := 20) (x := "_law_script") rfl (by kernel_rfl) ⟨rfl, by decide, by decide⟩ hsp ?F
    intro w mg fa h Y G hmg0
    obtain ⟨K, KX, c⟩ := Y
    have hmg : mg ("law" : PySem.Str) = some (.ref fa) := by
      have e : (HandSHeadRun.topDef (PySem.W.OpenLaw.row PySem.Challenge.rw_lentahead_k54_whole_packing).prog 39).name = ("law" : PySem.Str) := by kernel_rfl
      rw [← e]
      exact hmg0
    obtain ⟨fd, hb, hF⟩ := F KX G hmg c
    exact ⟨K, fd, KX, hb, hF⟩
end Lw
namespace DL
open PySem L2
local macro_rules | `(tactic| walk_at "dl") => `(tactic| try simp (config := { proj := false }) only [↓ex_mk, ↓nx_mk, ↓rt_mk, ↓bk_mk, ↓ct_mk, ↓xc_mk, ↓u_c, ↓u_op, ↓u_un, ↓u_and, ↓u_or, ↓u_not, ↓u_if, ↓u_anil, ↓u_acons, ↓u_lst, ↓u_lstM, ↓u_tup, ↓u_call, ↓u_sl, ↓u_onone, ↓u_cb, ↓u_mt, ↓u_mt0, ↓u_pass, ↓u_seq, ↓u_set, ↓u_asg, ↓u_drop, ↓u_ret, ↓u_retN, ↓u_ifs, ↓u_brk, ↓u_cnt, ↓u_for, ↓u_gname, ↓u_gsub, ↓u_fs, ↓u_fmt, ↓u_js0, ↓u_js, ↓u_em, ↓u_yes, ↓u_never, ↓u_ref, ↓u_forR, ↓u_star, ↓u_dict, ↓u_dict0, ↓u_dp0, ↓u_dp1, ↓u_forK, ↓u_lock, ↓u_kd, ↓u_fld, ↓u_setF, ↓u_make, ↓u_binL, ↓u_binR, ↓u_inO, ↓u_getO, ↓u_setO, ↓u_augO, ↓u_prp, ↓u_inv, ↓u_meth, ↓u_keys, ↓u_try, ↓u_cm, ↓u_makeV, ↓r_enum, ↓r_own, ↓u_raise, ↓u_tryas, ↓u_ca, ↓u_xf, ↓u_idxC, su_mk,
  ↓r_var, ↓r_test, ↓r_andV, ↓r_orV, ↓r_notV, ↓r_tru, ↓r_frz, ↓r_osome, ↓r_any, ↓r_scr, scr_c, ↓r_rng1, ↓r_rng2, ↓r_fz, wipeD,
  onSome_s, onBl_b, onInt_i, onStr_s, onVar_s, onML_l, onML2_l, onML2_d, onDK_d, fmt_s, fmt_i, tru_n, tru_b, tru_i, tru_s, tru_l, tru_t, tru_r, frz_r, sl_s, sl_l, sl_t, sl_r, add_i, add_s, add_l, add_t, add_rl, add_lr, sub_i, mul_i, div_i, mod_i, pow_i, neg_i, cmp_i, eq_i, eq_s, eq_b, eq_n, eq_l, eq_t, eq_rl, eq_lr, eq_ni, eq_in, eq_ns, eq_sn, eq_nb, eq_bn, eq_is, eq_si,
  ix_l, ix_t, ix_s, ix_ri, ix_rs, in_ss, in_l, in_t, in_ir, in_sr, isB_t, isB_f, ltS_s, gtS_s, sorted_l, keyK_s, keyK_i, u_dget, lenOR_r, listOR_r, isn_n, isn_b, isn_i, isn_s, isn_r, isn_l, isn_t, len_s, len_c, len_l, len_t, len_r, int_i, int_b, min_ii, max_ii, list_l, list_t, list_r, list_c, listM_l, listM_c, listM_t, listM_r, isi_, isi_k, ty_n, ty_b, ty_i, ty_s, ty_l, ty_t, it_s, it_l, it_r, itM_l, itM_d, app_r, rev_r, ends_s, ins_r, set_rs, str_i, str_s, ext_l, pop_r, clr_r, star_l, star_t, star_r, onRef_r, onML3_l, onML3_d, onML3_f, onDR_d, onDR_f, onFK_f, join_l, join_t, join_r, starts_s, r_gtup, r_glst, r_gnil, r_gcons, set_r, items_s, items_l, items_t, rng1_i, rng2_i, fz_r, addM_l, addM_rl, onIns_i, onLst_l, isIns_r, isInsM_i, noF_r, noFM_i, rows_r, lenO_r, listO_r, listOM_r, isCK_i, isCK_l, isC_r, isC_s, isC_i, isC_b, isC_n, isC_l, isC_t, putG_0, putG_1, lk_1, onCl_c, onEnum_l, index_l, strO_r, cmpO_r, pop1_r, tuple_l, tuple_t, divmod_i, upper_s, indexT_t, onExc_e, isE_t, isE_c, isE_v, zip_1,
  List.map_cons, List.map_nil, List.cons_append, List.nil_append, List.length_cons, List.length_nil, List.replicate, List.getElem?_cons_zero, List.getElem?_cons_succ, List.set_cons_zero, List.set_cons_succ, id, decide_eq_true_eq, if_true, if_false, Bool.false_eq_true, reduceIte, Bool.not_true, Bool.not_false, true_and, Nat.reduceAdd, Nat.reduceSub, Int.reduceToNat, Int.toNat_natCast, put_same, put_put, atI_0, atI_1, atI_2, atI_3, atI_4, ixN_40, ixN_41, ixN_42, ixN_43])
abbrev Ret (Q : DK) (E : DX) : DEnds := { nx := fun _ M' => Q .non M', rt := Q, xc := fun x _ M' => E x M' }
def Src (M : Mu) (a : Addr) : Prop := ∃ (ns : List Int) (at_ r d : Int), M a = some (.lst [.lst (ns.map D.int), .int at_, .int r, .int d]) ∧ 0 ≤ at_
def SrcTo (a : Addr) (M M' : Mu) : Prop := Src M' a ∧ ∀ b, b ≠ a → M' b = M b
theorem SrcTo.trans {a : Addr} {M M1 M2 : Mu} (h1 : SrcTo a M M1) (h2 : SrcTo a M1 M2) : SrcTo a M M2 := ⟨h2.1, fun b hb => (h2.2 b hb).trans (h1.2 b hb)⟩
theorem SrcTo.refl {a : Addr} {M : Mu} (h : Src M a) : SrcTo a M M := ⟨h, fun _ _ => rfl⟩
theorem src_other {a p : Addr} {M : Mu} {m : MO} (h : Src M a) (hp : M p = none) : Src (put M p m) a ∧ a ≠ p := by
  obtain ⟨ns, t, r, d, e, h0⟩ := h
  have hn : a ≠ p := fun z => by rw [z, hp] at e; cases e
  exact ⟨⟨ns, t, r, d, by rw [put_ne hn]; exact e, h0⟩, hn⟩
def sp_l_begin : DSp := fun ds M Q _ => ∃ (ns : List Int), ds = [.lst (ns.map D.int)] ∧ ∀ p M', M p = none → SrcTo p M M' → Q (.ref p) M'
def sp_l_draw : DSp := fun ds M Q _ => ∃ (a : Addr) (n : Int), ds = [.ref a, .int n] ∧ Src M a ∧ 0 < n ∧ n < 1073741824 ∧ ∀ i M', 0 ≤ i → i < n → SrcTo a M M' → Q (.int i) M'
def rowI (M : Mu) (a : Addr) : D → Option (List D)
  | .ref q => if q = a then none else match M q with
    | some (.lst ds) => some ds
    | _ => none
  | d => itemsD d
theorem rowI_of {M : Mu} {a : Addr} {row : D} {xs : List D} (h : itemsD row = some xs) : rowI M a row = some xs := by
  cases row <;> first | exact h | cases h
theorem rowI_ref {M : Mu} {a q : Addr} {xs : List D} (n : q ≠ a) (h : M q = some (.lst xs)) : rowI M a (.ref q) = some xs := by
  show (if q = a then none else match M q with
    | some (.lst ds) => some ds
    | _ => none) = some xs
  rw [if_neg n, h]
def sp_l_pick : DSp := fun ds M Q _ => ∃ (a : Addr) (row : D) (xs : List D), ds = [.ref a, row] ∧ rowI M a row = some xs ∧ 0 < xs.length ∧ xs.length < 1000000 ∧ Src M a ∧ ∀ d M', d ∈ xs → SrcTo a M M' → Q d M'
theorem draw_ {a : Addr} {n : Int} {M : Mu} {Q : DK} {E : DX} (h : Src M a) (h0 : 0 < n) (h1 : n < 1073741824) (k : ∀ i M', 0 ≤ i → i < n → SrcTo a M M' → Q (.int i) M') : sp_l_draw [.ref a, .int n] M Q E := ⟨a, n, rfl, h, h0, h1, k⟩
theorem pick_ {a : Addr} {row : D} {xs : List D} {M : Mu} {Q : DK} {E : DX} (h : Src M a) (hi : itemsD row = some xs) (h0 : 0 < xs.length) (h1 : xs.length < 1000000) (k : ∀ d M', d ∈ xs → SrcTo a M M' → Q d M') : sp_l_pick [.ref a, row] M Q E := ⟨a, row, xs, rfl, rowI_of hi, h0, h1, h, k⟩
def w_l_begin : DTS := dRet (dLstM (daCons (dCB gList (daCons (dVar 0) (daNil))) (daCons (dC (.int 0)) (daCons (dUn gNeg (dC (.int 1))) (daCons (dC (.int 0)) (daNil))))))
def w_l_draw_c1 : DTS := dSeq (dAsg (dOp gAdd (dOp gIx (dVar 0) (dC (.int 1))) (dC (.int 1))) (dgSub (dVar 0) (dC (.int 1)) gSetA)) (dSeq (dAsg (dUn gNeg (dC (.int 1))) (dgSub (dVar 0) (dC (.int 2)) gSetA)) (dRet (dVar 3)))
def w_l_draw_c2 : DTS := dSeq (dAsg (dOp gAdd (dOp gIx (dVar 0) (dC (.int 3))) (dC (.int 1))) (dgSub (dVar 0) (dC (.int 3)) gSetA)) (dSeq (dIfS (dTest (dOp gGe (dVar 2) (dOp gPow (dC (.int 10)) (dC (.int 18))))) (dSeq (dSet 3 (dOp gMod (dCB gInt1 (daCons (dOp gIx (dVar 0) (dC (.int 2))) (daNil))) (dVar 1))) (dSeq (dAsg (dOp gDiv (dOp gIx (dVar 0) (dC (.int 2))) (dVar 1)) (dgSub (dVar 0) (dC (.int 2)) gSetA)) (dIfS (dAnd (dTest (dOp gGt (dOp gIx (dVar 0) (dC (.int 2))) (dC (.int 0)))) (dTest (dOp gLt (dOp gIx (dVar 0) (dC (.int 3))) (dC (.int 60))))) (dRet (dVar 3)) (dPass)))) (dIfS (dTest (dOp gEq (dOp gIx (dVar 0) (dC (.int 3))) (dC (.int 1)))) (dSeq (dSet 4 (dOp gMod (dCB gInt1 (daCons (dOp gAdd (dOp gAdd (dOp gMul (dVar 2) (dC (.int 48271))) (dOp gMul (dOp gIx (dVar 0) (dC (.int 1))) (dC (.int 7919)))) (dC (.int 12345))) (daNil))) (dC (.int 2147483647)))) (dRet (dOp gMod (dCB gInt1 (daCons (dOp gMod (dCB gInt1 (daCons (dOp gAdd (dOp gMul (dVar 4) (dC (.int 69621))) (dC (.int 101))) (daNil))) (dC (.int 1000003))) (daNil))) (dVar 1)))) (dSeq (dSet 4 (dOp gMod (dCB gInt1 (daCons (dOp gAdd (dOp gAdd (dOp gMul (dVar 2) (dC (.int 16807))) (dOp gMul (dOp gIx (dVar 0) (dC (.int 1))) (dC (.int 104729)))) (dC (.int 54321))) (daNil))) (dC (.int 2147483399)))) (dSet 3 (dOp gMod (dCB gInt1 (daCons (dOp gMod (dCB gInt1 (daCons (dOp gAdd (dOp gMul (dVar 4) (dC (.int 40692))) (dC (.int 211))) (daNil))) (dC (.int 999983))) (daNil))) (dVar 1)))))) (w_l_draw_c1))
def w_l_draw_c3 : DTS := dSeq (dIfS (dTest (dOp gLt (dOp gIx (dVar 0) (dC (.int 2))) (dC (.int 0)))) (dSeq (dAsg (dVar 2) (dgSub (dVar 0) (dC (.int 2)) gSetA)) (dAsg (dC (.int 0)) (dgSub (dVar 0) (dC (.int 3)) gSetA))) (dPass)) (w_l_draw_c2)
def w_l_draw : DTS := dSeq (dIfS (dTest (dOp gGe (dOp gIx (dVar 0) (dC (.int 1))) (dCB gLen (daCons (dOp gIx (dVar 0) (dC (.int 0))) (daNil))))) (dRet (dC (.int 0))) (dPass)) (dSeq (dSet 2 (dOp gIx (dOp gIx (dVar 0) (dC (.int 0))) (dOp gIx (dVar 0) (dC (.int 1))))) (dSeq (dIfS (dTest (dOp gLt (dVar 2) (dC (.int 0)))) (dSet 2 (dOp gSub (dUn gNeg (dC (.int 1))) (dVar 2))) (dPass)) (w_l_draw_c3)))
def w_l_pick : DTS := dRet (dOp gIx (dVar 1) (dCall sp_l_draw (daCons (dVar 0) (daCons (dCB gLen (daCons (dVar 1) (daNil))) (daNil)))))
theorem p_l_begin : ∀ ds M Q E, sp_l_begin ds M Q E → w_l_begin (Ret Q E) (ds.map some ++ List.replicate (1 - 1) none) M := by
  rintro ds M Q E ⟨ns, rfl, hQ⟩
  unfold w_l_begin
  walk_at "dl"
  exact ⟨by decide, fun p hp => hQ p _ hp ⟨⟨ns, 0, -1, 0, put_same, by decide⟩, fun b hb => put_ne hb⟩⟩
theorem src_mk {M M0 : Mu} {a : Addr} {ns : List Int} {t r d : Int} (h : M a = some (.lst [.lst (ns.map D.int), .int t, .int r, .int d])) (h0 : 0 ≤ t) (hb : ∀ b, b ≠ a → M b = M0 b) : SrcTo a M0 M := ⟨⟨ns, t, r, d, h, h0⟩, hb⟩
theorem draw_c1 {a : Addr} {n j : Int} {x4 : Option D} {x2 : Option D} {ns : List Int} {t r d : Int} {M0 M : Mu} {Q : DK} {E : DX} (hM : M a = some (.lst [.lst (ns.map D.int), .int t, .int r, .int d])) (ht : 0 ≤ t) (hb : ∀ b, b ≠ a → M b = M0 b)
    (hj : 0 ≤ j ∧ j < n) (hQ : ∀ i M', 0 ≤ i → i < n → SrcTo a M0 M' → Q (.int i) M') : w_l_draw_c1 (Ret Q E) [some (.ref a), some (.int n), x2, some (.int j), x4] M := by
  unfold w_l_draw_c1
  walk_at "dl"
  try simp only [hM, atI_1]
  walk_at "dl"
  try simp only [hM, atI_1]
  walk_at "dl"
  walk_at "dl"
  try simp only [hM]
  walk_at "dl"
  try simp only [hM]
  walk_at "dl"
  walk_at "dl"
  try simp only [ixN_of (n := 4) (i := 1) (by decide) (by decide), put_same]
  walk_at "dl"
  try simp only [ixN_of (n := 4) (i := 1) (by decide) (by decide), put_same]
  walk_at "dl"
  walk_at "dl"
  try simp only [ixN_of (n := 4) (i := 2) (by decide) (by decide)]
  walk_at "dl"
  try simp only [ixN_of (n := 4) (i := 2) (by decide) (by decide)]
  walk_at "dl"
  walk_at "dl"
  refine hQ j _ hj.1 hj.2 (src_mk put_same (by omega) fun b z => ?_)
  rw [put_ne z, hb b z]
theorem draw_c2 {a : Addr} {n m : Int} {x3 x4 : Option D} {ns : List Int} {t r d : Int} {M0 M : Mu} {Q : DK} {E : DX} (hM : M a = some (.lst [.lst (ns.map D.int), .int t, .int r, .int d])) (ht : 0 ≤ t) (hb : ∀ b, b ≠ a → M b = M0 b)
    (hn : 0 < n ∧ n < 1073741824) (hQ : ∀ i M', 0 ≤ i → i < n → SrcTo a M0 M' → Q (.int i) M') : w_l_draw_c2 (Ret Q E) [some (.ref a), some (.int n), some (.int m), x3, x4] M := by
  have mod : ∀ x : Int, 0 ≤ x % n ∧ x % n < n := fun x => ⟨Int.emod_nonneg _ (by omega), Int.emod_lt_of_pos _ hn.1⟩
  unfold w_l_draw_c2
  walk_at "dl"
  try simp only [hM, atI_3]
  walk_at "dl"
  try simp only [hM, atI_3]
  walk_at "dl"
  walk_at "dl"
  try simp only [hM]
  walk_at "dl"
  try simp only [hM]
  walk_at "dl"
  walk_at "dl"
  try simp only [ixN_of (n := 4) (i := 3) (by decide) (by decide)]
  walk_at "dl"
  try simp only [ixN_of (n := 4) (i := 3) (by decide) (by decide)]
  walk_at "dl"
  walk_at "dl"
  try simp only [put_same, atI_1, atI_2, atI_3]
  walk_at "dl"
  try simp only [put_same, atI_1, atI_2, atI_3]
  walk_at "dl"
  walk_at "dl"
  refine ⟨by unfold CPow; decide, ?_⟩
  by_cases hm : (10 : Int) ^ 18 ≤ m
  · rw [if_pos hm]
    refine ⟨hn.1, ⟨hn.1, hn.2⟩, ?_⟩
    try simp only [ixN_of (n := 4) (i := 2) (by decide) (by decide), put_same, put_put]
    walk_at "dl"
    try simp only [ixN_of (n := 4) (i := 2) (by decide) (by decide), put_same, put_put]
    walk_at "dl"
    walk_at "dl"
    try simp only [put_same, atI_2, atI_3]
    walk_at "dl"
    try simp only [put_same, atI_2, atI_3]
    walk_at "dl"
    walk_at "dl"
    by_cases h1 : 0 < r / n
    · rw [if_pos h1]
      by_cases h2 : d + 1 < 60
      · rw [if_pos h2]
        refine hQ _ _ (mod r).1 (mod r).2 (src_mk put_same ht fun b z => ?_)
        rw [put_ne z, hb b z]
      · rw [if_neg h2]
        refine draw_c1 (M0 := M0) put_same ht (fun b z => by rw [put_ne z, hb b z]) (mod r) hQ
    · rw [if_neg h1]
      exact draw_c1 (M0 := M0) put_same ht (fun b z => by rw [put_ne z, hb b z]) (mod r) hQ
  · rw [if_neg hm]
    have c : ∀ x : Int, 0 < x → x < 2 ^ 64 → ∀ y, CMul y x := fun x h1 h2 y => .inr ⟨by omega, h2⟩
    by_cases h1 : d + 1 = 1
    · rw [if_pos h1]
      refine ⟨c _ (by decide) (by decide) _, c _ (by decide) (by decide) _, by decide, c _ (by decide) (by decide) _, by decide, hn.1, ?_⟩
      refine hQ _ _ (mod _).1 (mod _).2 (src_mk put_same ht fun b z => ?_)
      rw [put_ne z, hb b z]
    · rw [if_neg h1]
      refine ⟨c _ (by decide) (by decide) _, c _ (by decide) (by decide) _, by decide, c _ (by decide) (by decide) _, by decide, hn.1, ?_⟩
      exact draw_c1 (M0 := M0) put_same ht (fun b z => by rw [put_ne z, hb b z]) (mod _) hQ
theorem draw_c3 {a : Addr} {n m : Int} {x3 x4 : Option D} {ns : List Int} {t r d : Int} {M0 M : Mu} {Q : DK} {E : DX} (hM : M a = some (.lst [.lst (ns.map D.int), .int t, .int r, .int d])) (ht : 0 ≤ t) (hb : ∀ b, b ≠ a → M b = M0 b)
    (hn : 0 < n ∧ n < 1073741824) (hQ : ∀ i M', 0 ≤ i → i < n → SrcTo a M0 M' → Q (.int i) M') : w_l_draw_c3 (Ret Q E) [some (.ref a), some (.int n), some (.int m), x3, x4] M := by
  unfold w_l_draw_c3
  walk_at "dl"
  try simp only [hM, atI_2]
  walk_at "dl"
  try simp only [hM, atI_2]
  walk_at "dl"
  walk_at "dl"
  by_cases h1 : r < 0
  · rw [if_pos h1]
    try simp only [hM]
    walk_at "dl"
    try simp only [hM]
    walk_at "dl"
    walk_at "dl"
    try simp only [ixN_of (n := 4) (i := 2) (by decide) (by decide), put_same]
    walk_at "dl"
    try simp only [ixN_of (n := 4) (i := 2) (by decide) (by decide), put_same]
    walk_at "dl"
    walk_at "dl"
    try simp only [ixN_of (n := 4) (i := 3) (by decide) (by decide)]
    walk_at "dl"
    try simp only [ixN_of (n := 4) (i := 3) (by decide) (by decide)]
    walk_at "dl"
    exact draw_c2 (M0 := M0) put_same ht (fun b z => by rw [put_ne z, hb b z]) hn hQ
  · rw [if_neg h1]
    exact draw_c2 (M0 := M0) hM ht hb hn hQ
theorem p_l_draw : ∀ ds M Q E, sp_l_draw ds M Q E → w_l_draw (Ret Q E) (ds.map some ++ List.replicate (5 - 2) none) M := by
  rintro ds M Q E ⟨a, n, rfl, ⟨ns, t, r, d, hM, ht⟩, h0, h1, hQ⟩
  unfold w_l_draw
  walk_at "dl"
  try simp only [hM, atI_1]
  walk_at "dl"
  try simp only [hM, atI_1]
  walk_at "dl"
  walk_at "dl"
  try simp only [hM, atI_0]
  walk_at "dl"
  try simp only [hM, atI_0]
  walk_at "dl"
  walk_at "dl"
  try simp only [List.length_map]
  walk_at "dl"
  try simp only [List.length_map]
  walk_at "dl"
  by_cases hl : (ns.length : Int) ≤ t
  · rw [if_pos hl]
    exact hQ 0 M (by decide) h0 (src_mk hM ht fun _ _ => rfl)
  · rw [if_neg hl]
    try simp only [hM, atI_0]
    walk_at "dl"
    try simp only [hM, atI_0]
    walk_at "dl"
    walk_at "dl"
    try simp only [hM, atI_1]
    walk_at "dl"
    try simp only [hM, atI_1]
    walk_at "dl"
    walk_at "dl"
    obtain ⟨x, _, e, _⟩ := atI_is (xs := ns) ht (by omega)
    try simp only [atI_map, e, Option.map_some]
    walk_at "dl"
    try simp only [atI_map, e, Option.map_some]
    walk_at "dl"
    walk_at "dl"
    by_cases hx : x < 0
    · rw [if_pos hx]
      exact draw_c3 hM ht (fun _ _ => rfl) ⟨h0, h1⟩ hQ
    · rw [if_neg hx]
      exact draw_c3 hM ht (fun _ _ => rfl) ⟨h0, h1⟩ hQ
theorem p_l_pick : ∀ ds M Q E, sp_l_pick ds M Q E → w_l_pick (Ret Q E) (ds.map some ++ List.replicate (2 - 2) none) M := by
  rintro ds M Q E ⟨a, row, xs, rfl, hi, h0, h1, hs, hQ⟩
  unfold w_l_pick
  walk_at "dl"
  cases row with
  | lst ds =>
    have hi : some ds = some xs := hi
    cases hi
    walk_at "dl"
    refine draw_ hs (by omega) (by omega) fun i M' i0 i1 hM' => ?_
    obtain ⟨x, hx, e, _⟩ := atI_is (xs := xs) i0 i1
    walk_at "dl"
    try simp only [e]
    walk_at "dl"
    try simp only [e]
    walk_at "dl"
    exact hQ x M' hx hM'
  | tup ds =>
    have hi : some ds = some xs := hi
    cases hi
    walk_at "dl"
    refine draw_ hs (by omega) (by omega) fun i M' i0 i1 hM' => ?_
    obtain ⟨x, hx, e, _⟩ := atI_is (xs := xs) i0 i1
    walk_at "dl"
    try simp only [e]
    walk_at "dl"
    try simp only [e]
    walk_at "dl"
    exact hQ x M' hx hM'
  | str z =>
    have hi : some (z.map fun c => D.str [c]) = some xs := hi
    cases hi
    rw [List.length_map] at h0 h1
    walk_at "dl"
    refine ⟨by omega, ?_⟩
    refine draw_ hs (by omega) (by omega) fun i M' i0 i1 hM' => ?_
    obtain ⟨x, hx, e, _⟩ := atI_is (xs := z) i0 i1
    walk_at "dl"
    try simp only [e]
    walk_at "dl"
    try simp only [e]
    walk_at "dl"
    exact ⟨by omega, hQ (.str [x]) M' (List.mem_map.mpr ⟨x, hx, rfl⟩) hM'⟩
  | ref q =>
    have hi : (if q = a then none else match M q with
      | some (.lst ds) => some ds
      | _ => none) = some xs := hi
    split at hi
    · cases hi
    · rename_i n
      split at hi
      · rename_i ds e
        cases hi
        try simp only [e]
        walk_at "dl"
        try simp only [e]
        walk_at "dl"
        refine draw_ hs (by omega) (by omega) fun i M' i0 i1 hM' => ?_
        obtain ⟨x, hx, e2, _⟩ := atI_is (xs := xs) i0 i1
        have e3 : M' q = some (.lst xs) := by rw [hM'.2 q n]; exact e
        walk_at "dl"
        try simp only [e3, e2]
        walk_at "dl"
        try simp only [e3, e2]
        walk_at "dl"
        exact hQ x M' hx hM'
      · cases hi
  | _ => cases hi
end DL
namespace DL
open PySem L2
local macro_rules | `(tactic| walk_at "dl") => `(tactic| try simp (config := { proj := false }) only [↓ex_mk, ↓nx_mk, ↓rt_mk, ↓bk_mk, ↓ct_mk, ↓xc_mk, ↓u_c, ↓u_op, ↓u_un, ↓u_and, ↓u_or, ↓u_not, ↓u_if, ↓u_anil, ↓u_acons, ↓u_lst, ↓u_lstM, ↓u_tup, ↓u_call, ↓u_sl, ↓u_onone, ↓u_cb, ↓u_mt, ↓u_mt0, ↓u_pass, ↓u_seq, ↓u_set, ↓u_asg, ↓u_drop, ↓u_ret, ↓u_retN, ↓u_ifs, ↓u_brk, ↓u_cnt, ↓u_for, ↓u_gname, ↓u_gsub, ↓u_fs, ↓u_fmt, ↓u_js0, ↓u_js, ↓u_em, ↓u_yes, ↓u_never, ↓u_ref, ↓u_forR, ↓u_star, ↓u_dict, ↓u_dict0, ↓u_dp0, ↓u_dp1, ↓u_forK, ↓u_lock, ↓u_kd, ↓u_fld, ↓u_setF, ↓u_make, ↓u_binL, ↓u_binR, ↓u_inO, ↓u_getO, ↓u_setO, ↓u_augO, ↓u_prp, ↓u_inv, ↓u_meth, ↓u_keys, ↓u_try, ↓u_cm, ↓u_makeV, ↓r_enum, ↓r_own, ↓u_raise, ↓u_tryas, ↓u_ca, ↓u_xf, ↓u_idxC, su_mk,
  ↓r_var, ↓r_test, ↓r_andV, ↓r_orV, ↓r_notV, ↓r_tru, ↓r_frz, ↓r_osome, ↓r_any, ↓r_scr, scr_c, ↓r_rng1, ↓r_rng2, ↓r_fz, wipeD,
  onSome_s, onBl_b, onInt_i, onStr_s, onVar_s, onML_l, onML2_l, onML2_d, onDK_d, fmt_s, fmt_i, tru_n, tru_b, tru_i, tru_s, tru_l, tru_t, tru_r, frz_r, sl_s, sl_l, sl_t, sl_r, add_i, add_s, add_l, add_t, add_rl, add_lr, sub_i, mul_i, div_i, mod_i, pow_i, neg_i, cmp_i, eq_i, eq_s, eq_b, eq_n, eq_l, eq_t, eq_rl, eq_lr, eq_ni, eq_in, eq_ns, eq_sn, eq_nb, eq_bn, eq_is, eq_si,
  ix_l, ix_t, ix_s, ix_ri, ix_rs, in_ss, in_l, in_t, in_ir, in_sr, isB_t, isB_f, ltS_s, gtS_s, sorted_l, keyK_s, keyK_i, u_dget, lenOR_r, listOR_r, isn_n, isn_b, isn_i, isn_s, isn_r, isn_l, isn_t, len_s, len_c, len_l, len_t, len_r, int_i, int_b, min_ii, max_ii, list_l, list_t, list_r, list_c, listM_l, listM_c, listM_t, listM_r, isi_, isi_k, ty_n, ty_b, ty_i, ty_s, ty_l, ty_t, it_s, it_l, it_r, itM_l, itM_d, app_r, rev_r, ends_s, ins_r, set_rs, str_i, str_s, ext_l, pop_r, clr_r, star_l, star_t, star_r, onRef_r, onML3_l, onML3_d, onML3_f, onDR_d, onDR_f, onFK_f, join_l, join_t, join_r, starts_s, r_gtup, r_glst, r_gnil, r_gcons, set_r, items_s, items_l, items_t, rng1_i, rng2_i, fz_r, addM_l, addM_rl, onIns_i, onLst_l, isIns_r, isInsM_i, noF_r, noFM_i, rows_r, lenO_r, listO_r, listOM_r, isCK_i, isCK_l, isC_r, isC_s, isC_i, isC_b, isC_n, isC_l, isC_t, putG_0, putG_1, lk_1, onCl_c, onEnum_l, index_l, strO_r, cmpO_r, pop1_r, tuple_l, tuple_t, divmod_i, upper_s, indexT_t, onExc_e, isE_t, isE_c, isE_v, zip_1,
  List.map_cons, List.map_nil, List.cons_append, List.nil_append, List.length_cons, List.length_nil, List.replicate, List.getElem?_cons_zero, List.getElem?_cons_succ, List.set_cons_zero, List.set_cons_succ, id, decide_eq_true_eq, if_true, if_false, Bool.false_eq_true, reduceIte, Bool.not_true, Bool.not_false, true_and, Nat.reduceAdd, Nat.reduceSub, Int.reduceToNat, Int.toNat_natCast, put_same, put_put, atI_0, atI_1, atI_2, atI_3, atI_4, ixN_40, ixN_41, ixN_42, ixN_43])
def sp_l_grown : DSp := fun ds M Q _ => ∃ ns : List Int, ds = [.scr ns] ∧ ns.length ≤ 63 ∧ ∀ ms : List Int, Q (.lst (ms.map D.int)) M
def w_l_grown_b1 : DTS := dSet 2 (dOp gMod (dCB gInt1 (daCons (dOp gAdd (dOp gMul (dVar 2) (dC (.int 16807))) (dVar 3)) (daNil))) (dC (.int 2147483647)))
def w_l_grown_b2 : DTS := dSeq (dSet 2 (dOp gMod (dCB gInt1 (daCons (dOp gAdd (dOp gAdd (dOp gMul (dVar 2) (dC (.int 48271))) (dOp gMul (dVar 4) (dC (.int 69621)))) (dC (.int 11))) (daNil))) (dC (.int 2147483399)))) (dDrop (dMt "list" gAppend (dVar 1) (daCons (dVar 2) (daNil))))
def w_l_grown_c3 : DTS := dSeq (dIfS (dTest (dOp gGt (dCB gLen (daCons (dVar 0) (daNil))) (dC (.int 7)))) (dFor (diRng1 (daCons (dC (.int 40)) (daNil))) (dgName 4) (w_l_grown_b2)) (dPass)) (dRet (dFrz (dVar 1)))
def w_l_grown : DTS := dSeq (dSet 1 (dCB gListM (daCons (dVar 0) (daNil)))) (dSeq (dSet 2 (dC (.int 7))) (dSeq (dFor (diScr (dVar 0)) (dgName 3) (w_l_grown_b1)) (w_l_grown_c3)))
theorem p_l_grown : ∀ ds M Q E, sp_l_grown ds M Q E → w_l_grown (Ret Q E) (ds.map some ++ List.replicate (5 - 1) none) M := by
  rintro ds M Q E ⟨ns, rfl, hl, hQ⟩
  have c : ∀ x : Int, 0 < x → x < 2 ^ 64 → ∀ y, CMul y x := fun x h1 h2 y => .inr ⟨by omega, h2⟩
  unfold w_l_grown
  walk_at "dl"
  intro p hp
  refine wFor_by (fun i τ M' => (∃ m x3 x4, τ = [some (.scr ns), some (.ref p), some (.int m), x3, x4]) ∧ M' = put M p (.lst (ns.map D.int))) ⟨⟨_, _, _, rfl⟩, rfl⟩ ?_ ?_
  · rintro i d τ M' hd ⟨⟨m, x3, x4, rfl⟩, rfl⟩ nxt hn
    obtain ⟨n, hn2, rfl⟩ := map_at hd
    unfold w_l_grown_b1
    walk_at "dl"
    exact ⟨c _ (by decide) (by decide) _, by decide, hn _ _ ⟨⟨_, _, _, rfl⟩, rfl⟩⟩
  · rintro τ M' ⟨⟨m, x3, x4, rfl⟩, rfl⟩
    unfold w_l_grown_c3
    walk_at "dl"
    split
    · refine ⟨by decide, by decide, ?_⟩
      refine wFor_by (fun i τ M' => (∃ m x3 x4, τ = [some (.scr ns), some (.ref p), some (.int m), x3, x4]) ∧ ∃ ms : List Int, M' = put M p (.lst (ms.map D.int)) ∧ ms.length ≤ 63 + i) ⟨⟨_, _, _, rfl⟩, ns, rfl, by omega⟩ ?_ ?_
      · rintro i d τ M' hd ⟨⟨m, x3, x4, rfl⟩, ms, rfl, hm⟩ nxt hn
        obtain ⟨rfl, hi⟩ := upTo_at hd
        have hi : i < 40 := hi
        unfold w_l_grown_b2
        iterate 10 ((try simp only [put_same]); walk_at "dl")
        refine ⟨c _ (by decide) (by decide) _, c _ (by decide) (by decide) _, by decide, ?_⟩
        rw [List.length_map]
        refine ⟨by omega, hn _ _ ⟨⟨_, _, _, rfl⟩, ms ++ [(m * 48271 + (0 + ↑i) * 69621 + 11) % 2147483399], ?_, ?_⟩⟩
        · rw [List.map_append]; rfl
        · rw [List.length_append, List.length_singleton]; omega
      · rintro τ M' ⟨⟨m, x3, x4, rfl⟩, ms, rfl, hm⟩
        iterate 10 ((try simp only [put_same, del_put_new hp]); walk_at "dl")
        exact hQ ms
    · iterate 10 ((try simp only [put_same, del_put_new hp]); walk_at "dl")
      exact hQ ns
end DL
namespace DL
open PySem L2
local macro_rules | `(tactic| walk_at "dl") => `(tactic| try simp (config := { proj := false }) only [↓ex_mk, ↓nx_mk, ↓rt_mk, ↓bk_mk, ↓ct_mk, ↓xc_mk, ↓u_c, ↓u_op, ↓u_un, ↓u_and, ↓u_or, ↓u_not, ↓u_if, ↓u_anil, ↓u_acons, ↓u_lst, ↓u_lstM, ↓u_tup, ↓u_call, ↓u_sl, ↓u_onone, ↓u_cb, ↓u_mt, ↓u_mt0, ↓u_pass, ↓u_seq, ↓u_set, ↓u_asg, ↓u_drop, ↓u_ret, ↓u_retN, ↓u_ifs, ↓u_brk, ↓u_cnt, ↓u_for, ↓u_gname, ↓u_gsub, ↓u_fs, ↓u_fmt, ↓u_js0, ↓u_js, ↓u_em, ↓u_yes, ↓u_never, ↓u_ref, ↓u_forR, ↓u_star, ↓u_dict, ↓u_dict0, ↓u_dp0, ↓u_dp1, ↓u_forK, ↓u_lock, ↓u_kd, ↓u_fld, ↓u_setF, ↓u_make, ↓u_binL, ↓u_binR, ↓u_inO, ↓u_getO, ↓u_setO, ↓u_augO, ↓u_prp, ↓u_inv, ↓u_meth, ↓u_keys, ↓u_try, ↓u_cm, ↓u_makeV, ↓r_enum, ↓r_own, ↓u_raise, ↓u_tryas, ↓u_ca, ↓u_xf, ↓u_idxC, su_mk,
  ↓r_var, ↓r_test, ↓r_andV, ↓r_orV, ↓r_notV, ↓r_tru, ↓r_frz, ↓r_osome, ↓r_any, ↓r_scr, scr_c, ↓r_rng1, ↓r_rng2, ↓r_fz, wipeD,
  onSome_s, onBl_b, onInt_i, onStr_s, onVar_s, onML_l, onML2_l, onML2_d, onDK_d, fmt_s, fmt_i, tru_n, tru_b, tru_i, tru_s, tru_l, tru_t, tru_r, frz_r, sl_s, sl_l, sl_t, sl_r, add_i, add_s, add_l, add_t, add_rl, add_lr, sub_i, mul_i, div_i, mod_i, pow_i, neg_i, cmp_i, eq_i, eq_s, eq_b, eq_n, eq_l, eq_t, eq_rl, eq_lr, eq_ni, eq_in, eq_ns, eq_sn, eq_nb, eq_bn, eq_is, eq_si,
  ix_l, ix_t, ix_s, ix_ri, ix_rs, in_ss, in_l, in_t, in_ir, in_sr, isB_t, isB_f, ltS_s, gtS_s, sorted_l, keyK_s, keyK_i, u_dget, lenOR_r, listOR_r, isn_n, isn_b, isn_i, isn_s, isn_r, isn_l, isn_t, len_s, len_c, len_l, len_t, len_r, int_i, int_b, min_ii, max_ii, list_l, list_t, list_r, list_c, listM_l, listM_c, listM_t, listM_r, isi_, isi_k, ty_n, ty_b, ty_i, ty_s, ty_l, ty_t, it_s, it_l, it_r, itM_l, itM_d, app_r, rev_r, ends_s, ins_r, set_rs, str_i, str_s, ext_l, pop_r, clr_r, star_l, star_t, star_r, onRef_r, onML3_l, onML3_d, onML3_f, onDR_d, onDR_f, onFK_f, join_l, join_t, join_r, starts_s, r_gtup, r_glst, r_gnil, r_gcons, set_r, items_s, items_l, items_t, rng1_i, rng2_i, fz_r, addM_l, addM_rl, onIns_i, onLst_l, isIns_r, isInsM_i, noF_r, noFM_i, rows_r, lenO_r, listO_r, listOM_r, isCK_i, isCK_l, isC_r, isC_s, isC_i, isC_b, isC_n, isC_l, isC_t, putG_0, putG_1, lk_1, onCl_c, onEnum_l, index_l, strO_r, cmpO_r, pop1_r, tuple_l, tuple_t, divmod_i, upper_s, indexT_t, onExc_e, isE_t, isE_c, isE_v, zip_1,
  List.map_cons, List.map_nil, List.cons_append, List.nil_append, List.length_cons, List.length_nil, List.replicate, List.getElem?_cons_zero, List.getElem?_cons_succ, List.set_cons_zero, List.set_cons_succ, id, decide_eq_true_eq, if_true, if_false, Bool.false_eq_true, reduceIte, Bool.not_true, Bool.not_false, true_and, Nat.reduceAdd, Nat.reduceSub, Int.reduceToNat, Int.toNat_natCast, put_same, put_put, atI_0, atI_1, atI_2, atI_3, atI_4, ixN_40, ixN_41, ixN_42, ixN_43])
mutual
def eqD : D → D → Bool
  | .non, .non => true
  | .bl a, .bl b => a == b
  | .int a, .int b => a == b
  | .str a, .str b => a == b
  | .lst a, .lst b => eqDs a b
  | .tup a, .tup b => eqDs a b
  | .ref a, .ref b => a == b
  | .ty a, .ty b => a == b
  | .scr a, .scr b => a == b
  | .cl a, .cl b => decide (a = b)
  | .exc a b c e f, .exc a' b' c' e' f' => decide (a = a') && (decide (b = b') && (decide (c = c') && (decide (e = e') && eqDs f f')))
  | _, _ => false
def eqDs : List D → List D → Bool
  | [], [] => true
  | a :: as, b :: bs => eqD a b && eqDs as bs
  | _, _ => false
end
mutual
theorem eqD_refl : ∀ d : D, eqD d d = true
  | .non => rfl
  | .bl a => by simp [eqD]
  | .int a => by simp [eqD]
  | .str a => by simp [eqD]
  | .ref a => by simp [eqD]
  | .ty a => by simp [eqD]
  | .scr a => by simp [eqD]
  | .cl a => by simp [eqD]
  | .exc a b c e f => by unfold eqD; rw [eqDs_refl f]; simp
  | .lst a => by unfold eqD; exact eqDs_refl a
  | .tup a => by unfold eqD; exact eqDs_refl a
theorem eqDs_refl : ∀ d : List D, eqDs d d = true
  | [] => rfl
  | a :: as => by unfold eqDs; rw [eqD_refl a, eqDs_refl as]; rfl
end
mutual
def pln : Nat → D → Bool
  | _, .ref _ => false
  | _, .ty _ => false
  | _, .scr _ => false
  | _, .cl _ => false
  | _, .exc _ _ _ _ _ => false
  | n, .lst ds => decide (ds.length ≤ 1000000) && plnIn n ds
  | n, .tup ds => decide (ds.length ≤ 1000000) && plnIn n ds
  | _, _ => true
def plnIn : Nat → List D → Bool
  | 0, _ => false
  | n + 1, ds => plns n ds
def plns : Nat → List D → Bool
  | _, [] => true
  | n, d :: ds => pln n d && plns n ds
end
theorem plns_all : ∀ {n : Nat} {ds : List D}, plns n ds = true → ∀ d ∈ ds, pln n d = true
  | n, [], _, d, hd => by cases hd
  | n, e :: ds, h, d, hd => by
    obtain ⟨h1, h2⟩ := ba (show (pln n e && plns n ds) = true from by unfold plns at h; exact h)
    rcases List.mem_cons.mp hd with rfl | hd
    · exact h1
    · exact plns_all h2 d hd
theorem plns_of : ∀ {n : Nat} {ds : List D}, (∀ d ∈ ds, pln n d = true) → plns n ds = true
  | n, [], _ => by unfold plns; rfl
  | n, e :: ds, h => by
    unfold plns
    rw [h e (List.mem_cons_self ..), plns_of fun d hd => h d (List.mem_cons_of_mem _ hd)]
    rfl
def vw (M : Mu) : Nat → D → D
  | n + 1, .ref a => (match M a with
    | some (.lst ds) => .lst (ds.map (vw M n))
    | _ => .ref a)
  | n + 1, .lst ds => .lst (ds.map (vw M n))
  | n + 1, .tup ds => .tup (ds.map (vw M n))
  | _, d => d
theorem vw_pln (M : Mu) : ∀ {n : Nat} {d : D}, pln n d = true → vw M n d = d
  | 0, d, h => by cases d <;> rfl
  | n + 1, d, h => by
    have go : ∀ ds : List D, plnIn (n + 1) ds = true → ds.map (vw M n) = ds := fun ds hp => by
      have q := plns_all (show plns n ds = true by unfold plnIn at hp; exact hp)
      calc ds.map (vw M n) = ds.map id := List.map_congr_left fun d hd => vw_pln M (q d hd)
        _ = ds := List.map_id _
    cases d with
    | ref a => unfold pln at h; cases h
    | lst ds => show D.lst (ds.map (vw M n)) = _; rw [go ds (ba (show (decide (ds.length ≤ 1000000) && plnIn (n + 1) ds) = true by unfold pln at h; exact h)).2]
    | tup ds => show D.tup (ds.map (vw M n)) = _; rw [go ds (ba (show (decide (ds.length ≤ 1000000) && plnIn (n + 1) ds) = true by unfold pln at h; exact h)).2]
    | _ => rfl
def sp_l_same (n : Nat) : DSp := fun ds M Q _ => ∃ x y, ds = [x, y] ∧ pln n (vw M n x) = true ∧ pln n (vw M n y) = true ∧ Q (.bl (eqD (vw M n x) (vw M n y))) M
def rowOf (M : Mu) : D → Option (List D)
  | .lst ds => some ds
  | .tup ds => some ds
  | .ref a => (match M a with
    | some (.lst ds) => some ds
    | _ => none)
  | _ => none
def sp_l_same_row (n : Nat) : DSp := fun ds M Q _ => ∃ x y xs ys, ds = [x, y] ∧ rowOf M x = some xs ∧ rowOf M y = some ys ∧ pln n (vw M n x) = true ∧ pln n (vw M n y) = true ∧ Q (.bl (eqDs (xs.map (vw M (n - 1))) (ys.map (vw M (n - 1))))) M
def w_l_same_row_b1 (n : Nat) : DTS := dIfS (dNot (dTru (dCall (sp_l_same n) (daCons (dOp gIx (dVar 0) (dVar 2)) (daCons (dOp gIx (dVar 1) (dVar 2)) (daNil)))))) (dRet (dC (.bl false))) (dPass)
def w_l_same_row (n : Nat) : DTS := dSeq (dIfS (dTest (dOp gNe (dCB gLen (daCons (dVar 0) (daNil))) (dCB gLen (daCons (dVar 1) (daNil))))) (dRet (dC (.bl false))) (dPass)) (dSeq (dFor (diRng1 (daCons (dCB gLen (daCons (dVar 1) (daNil))) (daNil))) (dgName 2) (w_l_same_row_b1 n)) (dRet (dC (.bl true))))
def w_l_same (n : Nat) : DTS := dSeq (dIfS (dTest (dOp gIsN (dVar 1) (dC .non))) (dRet (dOp gIsN (dVar 0) (dC .non))) (dPass)) (dSeq (dIfS (dTru (dCB gIsi (daCons (dVar 1) (daCons (dC (.ty "bool")) (daNil))))) (dRet (dAndV (dCB gIsi (daCons (dVar 0) (daCons (dC (.ty "bool")) (daNil)))) (dOp gEq (dVar 0) (dVar 1)))) (dPass)) (dSeq (dIfS (dTru (dCB gIsi (daCons (dVar 1) (daCons (dC (.ty "int")) (daNil))))) (dRet (dAndV (dCB gIsi (daCons (dVar 0) (daCons (dC (.ty "int")) (daNil)))) (dAndV (dNotV (dCB gIsi (daCons (dVar 0) (daCons (dC (.ty "bool")) (daNil))))) (dOp gEq (dVar 0) (dVar 1))))) (dPass)) (dSeq (dIfS (dTru (dCB gIsi (daCons (dVar 1) (daCons (dC (.ty "str")) (daNil))))) (dRet (dAndV (dCB gIsi (daCons (dVar 0) (daCons (dC (.ty "str")) (daNil)))) (dOp gEq (dVar 0) (dVar 1)))) (dPass)) (dSeq (dIfS (dTru (dCB gIsi (daCons (dVar 1) (daCons (dC (.ty "list")) (daNil))))) (dRet (dAndV (dCB gIsi (daCons (dVar 0) (daCons (dC (.ty "list")) (daNil)))) (dCall (sp_l_same_row n) (daCons (dVar 0) (daCons (dVar 1) (daNil)))))) (dPass)) (dRet (dAndV (dCB gIsi (daCons (dVar 0) (daCons (dC (.ty "tuple")) (daNil)))) (dCall (sp_l_same_row n) (daCons (dVar 0) (daCons (dVar 1) (daNil))))))))))
theorem eqDs_len : ∀ {xs ys : List D}, xs.length ≠ ys.length → eqDs xs ys = false
  | [], [], h => absurd rfl h
  | [], _ :: _, _ => rfl
  | _ :: _, [], _ => rfl
  | x :: xs, y :: ys, h => by
    unfold eqDs
    rw [eqDs_len (fun e => h (by rw [List.length_cons, List.length_cons, e])), Bool.and_false]
theorem eqDs_take : ∀ {xs ys : List D} {k : Nat} {a b : D}, xs[k]? = some a → ys[k]? = some b → eqDs (xs.take (k + 1)) (ys.take (k + 1)) = (eqDs (xs.take k) (ys.take k) && eqD a b)
  | [], _, k, _, _, h, _ => by cases h
  | _ :: _, [], k, _, _, _, h => by cases h
  | x :: xs, y :: ys, 0, a, b, h1, h2 => by
    cases h1; cases h2
    simp [eqDs]
  | x :: xs, y :: ys, k + 1, a, b, h1, h2 => by
    rw [List.take_succ_cons, List.take_succ_cons, List.take_succ_cons, List.take_succ_cons]
    unfold eqDs
    rw [eqDs_take (k := k) (by simpa using h1) (by simpa using h2), Bool.and_assoc]
theorem eqDs_ne : ∀ {xs ys : List D} {k : Nat} {a b : D}, xs[k]? = some a → ys[k]? = some b → eqD a b = false → eqDs xs ys = false
  | [], _, k, _, _, h, _, _ => by cases h
  | _ :: _, [], k, _, _, _, h, _ => by cases h
  | x :: xs, y :: ys, 0, a, b, h1, h2, h => by
    cases h1; cases h2
    unfold eqDs
    rw [h, Bool.false_and]
  | x :: xs, y :: ys, k + 1, a, b, h1, h2, h => by
    unfold eqDs
    rw [eqDs_ne (k := k) (by simpa using h1) (by simpa using h2) h, Bool.and_false]
theorem row_len {M : Mu} {x : D} {xs : List D} {Q : DK} (h : rowOf M x = some xs) (q : Q (.int xs.length) M) : gLen [x] M Q := by
  cases x with
  | lst ds => cases h; exact q
  | tup ds => cases h; exact q
  | ref a =>
    show (match M a with
      | some (.lst ds) => Q (.int ds.length) M
      | some (.dK kvs) => Q (.int kvs.length) M
      | _ => False)
    have h2 : (match M a with
      | some (.lst ds) => some ds
      | _ => none) = some xs := h
    split at h2
    · rename_i ds e; cases h2; rw [e]; exact q
    · cases h2
  | _ => cases h
theorem row_ix {M : Mu} {x : D} {xs : List D} {Q : DK} {k : Nat} {a : D} (h : rowOf M x = some xs) (e : xs[k]? = some a) (q : Q a M) : gIx x (.int (k : Int)) M Q := by
  have hk := (List.getElem?_eq_some_iff.mp e).1
  have e2 : atI xs (k : Int) = some a := by rw [atI_nat hk, ← List.getElem?_eq_getElem hk, e]
  cases x with
  | lst ds => cases h; show (match atI xs (k : Int) with | some d => Q d M | none => False); rw [e2]; exact q
  | tup ds => cases h; show (match atI xs (k : Int) with | some d => Q d M | none => False); rw [e2]; exact q
  | ref b =>
    show (match M b with
      | some (.lst ds) => (match atI ds (k : Int) with | some d => Q d M | none => False)
      | some (.dK kvs) => (match lookK kvs (.inl (k : Int)) with | some d => Q d M | none => False)
      | some (.fK kvs _) => (match lookK kvs (.inl (k : Int)) with | some d => Q d M | none => False)
      | _ => False)
    have h2 : (match M b with
      | some (.lst ds) => some ds
      | _ => none) = some xs := h
    split at h2
    · rename_i ds e3; cases h2; rw [e3]; show (match atI xs (k : Int) with | some d => Q d M | none => False); rw [e2]; exact q
    · cases h2
  | _ => cases h
theorem row_vw {M : Mu} {n : Nat} {x : D} {xs : List D} (h : rowOf M x = some xs) : vw M (n + 1) x = .lst (xs.map (vw M n)) ∨ vw M (n + 1) x = .tup (xs.map (vw M n)) := by
  cases x with
  | lst ds => cases h; exact .inl rfl
  | tup ds => cases h; exact .inr rfl
  | ref b =>
    have h2 : (match M b with
      | some (.lst ds) => some ds
      | _ => none) = some xs := h
    split at h2
    · rename_i ds e3
      cases h2
      refine .inl ?_
      show (match M b with
        | some (.lst ds) => D.lst (ds.map (vw M n))
        | _ => .ref b) = _
      rw [e3]
    · cases h2
  | _ => cases h
theorem row_pln {M : Mu} {n : Nat} {x : D} {xs : List D} (h : rowOf M x = some xs) (p : pln (n + 1) (vw M (n + 1) x) = true) : xs.length ≤ 1000000 ∧ ∀ d ∈ xs, pln n (vw M n d) = true := by
  have k : ∀ ds : List D, (decide (ds.length ≤ 1000000) && plnIn (n + 1) ds) = true → ds = xs.map (vw M n) → xs.length ≤ 1000000 ∧ ∀ d ∈ xs, pln n (vw M n d) = true := fun ds hp e => by
    obtain ⟨p1, p2⟩ := ba hp
    have p1 := of_decide_eq_true p1
    rw [e, List.length_map] at p1
    refine ⟨p1, fun d hd => plns_all (show plns n ds = true by unfold plnIn at p2; exact p2) _ ?_⟩
    rw [e]; exact List.mem_map_of_mem hd
  rcases row_vw (n := n) h with e | e
  · rw [e] at p; unfold pln at p; exact k _ p rfl
  · rw [e] at p; unfold pln at p; exact k _ p rfl
theorem p_l_same_row (n : Nat) : ∀ ds M Q E, sp_l_same_row (n + 1) ds M Q E → w_l_same_row n (Ret Q E) (ds.map some ++ List.replicate (3 - 2) none) M := by
  rintro ds M Q E ⟨x, y, xs, ys, rfl, rx, ry, px, py, hQ⟩
  obtain ⟨lx, qx⟩ := row_pln rx px
  obtain ⟨ly, qy⟩ := row_pln ry py
  unfold w_l_same_row
  simp only [dSeq, dIfS, dTest, dOp, dCB, daCons, daNil, dVar, dRet, dC, dPass, dFor, diRng1, List.map_cons, List.map_nil, List.cons_append, List.nil_append, List.replicate, List.getElem?_cons_zero, List.getElem?_cons_succ, Nat.reduceSub]
  refine row_len rx (row_len ry ?_)
  simp only [gEqN]
  by_cases hl : xs.length = ys.length
  · have e : (!decide ((xs.length : Int) = (ys.length : Int))) = false := by simp [hl]
    rw [e]
    simp only [Bool.false_eq_true, if_false]
    refine row_len ry ?_
    refine ⟨by omega, by omega, ?_⟩
    rw [Int.toNat_natCast]
    refine wFor_by (fun i τ M' => M' = M ∧ (∃ z, τ = [some x, some y, z]) ∧ eqDs ((xs.take i).map (vw M n)) ((ys.take i).map (vw M n)) = true) ⟨rfl, ⟨none, rfl⟩, rfl⟩ ?_ ?_
    · rintro i d τ M' hd ⟨rfl, ⟨z, rfl⟩, he⟩ nxt hn
      obtain ⟨rfl, hi⟩ := upTo_at hd
      rw [Int.zero_add]
      have ex := List.getElem?_eq_getElem (l := xs) (i := i) (by omega)
      have ey := List.getElem?_eq_getElem (l := ys) (i := i) hi
      unfold w_l_same_row_b1
      simp only [dgName, dIfS, dNot, dTru, dCall, dOp, daCons, daNil, dVar, dRet, dC, dPass, List.set_cons_zero, List.set_cons_succ, List.getElem?_cons_zero, List.getElem?_cons_succ]
      refine row_ix rx ex (row_ix ry ey ⟨_, _, rfl, qx _ (List.getElem_mem _), qy _ (List.getElem_mem _), ?_⟩)
      simp only [truD]
      have ex2 : (xs.map (vw M' n))[i]? = some (vw M' n xs[i]) := by rw [List.getElem?_map, ex]; rfl
      have ey2 : (ys.map (vw M' n))[i]? = some (vw M' n ys[i]) := by rw [List.getElem?_map, ey]; rfl
      cases e : eqD (vw M' n xs[i]) (vw M' n ys[i]) with
      | true => exact hn _ _ ⟨rfl, ⟨_, rfl⟩, by rw [List.map_take, List.map_take] at he ⊢; rw [eqDs_take ex2 ey2, he, e]; rfl⟩
      | false =>
        show Q (.bl false) _
        rw [Nat.add_sub_cancel, eqDs_ne ex2 ey2 e] at hQ
        exact hQ
    · rintro τ M' ⟨rfl, ⟨z, rfl⟩, he⟩
      rw [upTo_len, List.take_of_length_le (by omega), List.take_of_length_le (by omega)] at he
      rw [Nat.add_sub_cancel, he] at hQ
      exact hQ
  · have e : (!decide ((xs.length : Int) = (ys.length : Int))) = true := by
      rw [Bool.not_eq_true', decide_eq_false_iff_not]; omega
    rw [e]
    simp only [if_true]
    rw [eqDs_len (by rw [List.length_map, List.length_map]; exact hl)] at hQ
    exact hQ
inductive Vk (M : Mu) : Nat → D → D → Prop where
  | non {n : Nat} : Vk M n .non .non
  | bl {n : Nat} (b : Bool) : Vk M n (.bl b) (.bl b)
  | int {n : Nat} (b : Int) : Vk M n (.int b) (.int b)
  | str {n : Nat} (b : Tx) : Vk M n (.str b) (.str b)
  | lst {m : Nat} (ds : List D) : Vk M (m + 1) (.lst ds) (.lst (ds.map (vw M m)))
  | tup {m : Nat} (ds : List D) : Vk M (m + 1) (.tup ds) (.tup (ds.map (vw M m)))
  | ref {m : Nat} (a : Addr) (ds : List D) (h : M a = some (.lst ds)) : Vk M (m + 1) (.ref a) (.lst (ds.map (vw M m)))
theorem vk_of {M : Mu} {n : Nat} {x : D} (p : pln n (vw M n x) = true) : Vk M n x (vw M n x) := by
  cases n with
  | zero =>
    cases x with
    | non => exact .non
    | bl b => exact .bl b
    | int b => exact .int b
    | str b => exact .str b
    | lst ds => have q := (ba (show (decide (ds.length ≤ 1000000) && plnIn 0 ds) = true from by have := p; unfold vw pln at this; exact this)).2; unfold plnIn at q; cases q
    | tup ds => have q := (ba (show (decide (ds.length ≤ 1000000) && plnIn 0 ds) = true from by have := p; unfold vw pln at this; exact this)).2; unfold plnIn at q; cases q
    | _ => unfold vw pln at p; cases p
  | succ m =>
    cases x with
    | non => exact .non
    | bl b => exact .bl b
    | int b => exact .int b
    | str b => exact .str b
    | lst ds => exact .lst ds
    | tup ds => exact .tup ds
    | ref a =>
      have e : vw M (m + 1) (.ref a) = (match M a with
        | some (.lst ds) => .lst (ds.map (vw M m))
        | _ => .ref a) := rfl
      rw [e] at p ⊢
      split at p
      · rename_i ds h; exact .ref a ds h
      · unfold pln at p; cases p
    | _ => unfold vw pln at p; cases p
theorem ty_rl {M : Mu} {a : Addr} {ds : List D} (h : M a = some (.lst ds)) : tyD M (.ref a) = some "list" := by
  show (match M a with
    | some (.lst _) => some "list"
    | some (.dK _) => some "dict"
    | _ => none) = _
  rw [h]
theorem row_rl {M : Mu} {a : Addr} {ds : List D} (h : M a = some (.lst ds)) : rowOf M (.ref a) = some ds := by
  show (match M a with
    | some (.lst ds) => some ds
    | _ => none) = _
  rw [h]
theorem p_l_same (n : Nat) : ∀ ds M Q E, sp_l_same n ds M Q E → w_l_same n (Ret Q E) (ds.map some ++ List.replicate (2 - 2) none) M := by
  rintro ds M Q E ⟨x, y, rfl, px, py, hQ⟩
  have kx := vk_of px
  have ky := vk_of py
  have px0 := px
  have py0 := py
  unfold w_l_same
  generalize vw M n x = x' at kx px hQ
  generalize vw M n y = y' at ky py hQ
  cases ky with
  | non =>
    walk_at "dl"
    cases kx <;> exact hQ
  | bl b =>
    walk_at "dl"
    try simp only [show isaB "bool" "bool" = true by decide]
    walk_at "dl"
    try simp only [show isaB "bool" "bool" = true by decide]
    walk_at "dl"
    refine ⟨by decide, ?_⟩
    cases kx <;> first
      | ((walk_at "dl"); refine ⟨by decide, ?_⟩; (try simp only [show isaB "bool" "bool" = true by decide]); (walk_at "dl"); rename_i a; rw [show decide (a = b) = (a == b) by cases a <;> cases b <;> rfl]; exact hQ)
      | ((walk_at "dl"); refine ⟨by decide, ?_⟩; exact hQ)
      | (rename_i hm; (try simp only [ty_rl hm]); (walk_at "dl"); refine ⟨by decide, ?_⟩; exact hQ)
  | int b =>
    walk_at "dl"
    refine ⟨by decide, ?_⟩
    try simp only [show isaB "int" "bool" = false by decide, show isaB "int" "int" = true by decide]
    walk_at "dl"
    try simp only [show isaB "int" "bool" = false by decide, show isaB "int" "int" = true by decide]
    walk_at "dl"
    refine ⟨by decide, ?_⟩
    cases kx <;> first
      | ((walk_at "dl"); refine ⟨by decide, ?_⟩; exact hQ)
      | ((walk_at "dl"); refine ⟨by decide, ?_⟩; (try simp only [show isaB "int" "int" = true by decide, show isaB "bool" "int" = true by decide]); (walk_at "dl"); refine ⟨by decide, ?_⟩; (try simp only [show isaB "int" "bool" = false by decide, show isaB "bool" "bool" = true by decide, Bool.not_false, Bool.not_true]); (walk_at "dl"); exact hQ)
      | (rename_i hm; (try simp only [ty_rl hm]); (walk_at "dl"); refine ⟨by decide, ?_⟩; exact hQ)
  | str b =>
    walk_at "dl"
    refine ⟨by decide, ?_⟩
    try simp only [show isaB "str" "bool" = false by decide, show isaB "str" "int" = false by decide, show isaB "str" "str" = true by decide]
    walk_at "dl"
    try simp only [show isaB "str" "bool" = false by decide, show isaB "str" "int" = false by decide, show isaB "str" "str" = true by decide]
    walk_at "dl"
    refine ⟨by decide, by decide, ?_⟩
    cases kx <;> first
      | ((walk_at "dl"); refine ⟨by decide, ?_⟩; exact hQ)
      | ((walk_at "dl"); refine ⟨by decide, ?_⟩; (try simp only [show isaB "str" "str" = true by decide]); (walk_at "dl"); rename_i a; rw [show decide (a = b) = (a == b) by rw [Bool.eq_iff_iff, decide_eq_true_iff, beq_iff_eq]]; exact hQ)
      | (rename_i hm; (try simp only [ty_rl hm]); (walk_at "dl"); refine ⟨by decide, ?_⟩; exact hQ)
  | lst bs =>
    walk_at "dl"
    refine ⟨by decide, ?_⟩
    try simp only [show isaB "list" "bool" = false by decide, show isaB "list" "int" = false by decide, show isaB "list" "str" = false by decide, show isaB "list" "list" = true by decide]
    walk_at "dl"
    try simp only [show isaB "list" "bool" = false by decide, show isaB "list" "int" = false by decide, show isaB "list" "str" = false by decide, show isaB "list" "list" = true by decide]
    walk_at "dl"
    refine ⟨by decide, by decide, by decide, ?_⟩
    cases kx <;> first
      | ((walk_at "dl"); refine ⟨by decide, ?_⟩; exact hQ)
      | ((walk_at "dl"); refine ⟨by decide, ?_⟩; (try simp only [show isaB "list" "list" = true by decide]); (walk_at "dl"); exact ⟨_, _, _, _, rfl, rfl, rfl, px0, py0, hQ⟩)
      | (rename_i hm; (try simp only [ty_rl hm]); (walk_at "dl"); refine ⟨by decide, ?_⟩; (try simp only [show isaB "list" "list" = true by decide]); (walk_at "dl"); exact ⟨_, _, _, _, rfl, row_rl hm, rfl, px0, py0, hQ⟩)
  | ref b bs hb =>
    walk_at "dl"
    try simp only [ty_rl hb, show isaB "list" "bool" = false by decide, show isaB "list" "int" = false by decide, show isaB "list" "str" = false by decide, show isaB "list" "list" = true by decide]
    walk_at "dl"
    try simp only [ty_rl hb, show isaB "list" "bool" = false by decide, show isaB "list" "int" = false by decide, show isaB "list" "str" = false by decide, show isaB "list" "list" = true by decide]
    walk_at "dl"
    refine ⟨by decide, ?_⟩
    try simp only [ty_rl hb, show isaB "list" "bool" = false by decide, show isaB "list" "int" = false by decide, show isaB "list" "str" = false by decide, show isaB "list" "list" = true by decide]
    walk_at "dl"
    try simp only [ty_rl hb, show isaB "list" "bool" = false by decide, show isaB "list" "int" = false by decide, show isaB "list" "str" = false by decide, show isaB "list" "list" = true by decide]
    walk_at "dl"
    refine ⟨by decide, ?_⟩
    try simp only [ty_rl hb, show isaB "list" "bool" = false by decide, show isaB "list" "int" = false by decide, show isaB "list" "str" = false by decide, show isaB "list" "list" = true by decide]
    walk_at "dl"
    try simp only [ty_rl hb, show isaB "list" "bool" = false by decide, show isaB "list" "int" = false by decide, show isaB "list" "str" = false by decide, show isaB "list" "list" = true by decide]
    walk_at "dl"
    refine ⟨by decide, ?_⟩
    try simp only [ty_rl hb, show isaB "list" "bool" = false by decide, show isaB "list" "int" = false by decide, show isaB "list" "str" = false by decide, show isaB "list" "list" = true by decide]
    walk_at "dl"
    try simp only [ty_rl hb, show isaB "list" "bool" = false by decide, show isaB "list" "int" = false by decide, show isaB "list" "str" = false by decide, show isaB "list" "list" = true by decide]
    walk_at "dl"
    refine ⟨by decide, ?_⟩
    cases kx <;> first
      | ((walk_at "dl"); refine ⟨by decide, ?_⟩; exact hQ)
      | ((walk_at "dl"); refine ⟨by decide, ?_⟩; (try simp only [show isaB "list" "list" = true by decide]); (walk_at "dl"); exact ⟨_, _, _, _, rfl, rfl, row_rl hb, px0, py0, hQ⟩)
      | (rename_i hm; (try simp only [ty_rl hm]); (walk_at "dl"); refine ⟨by decide, ?_⟩; (try simp only [show isaB "list" "list" = true by decide]); (walk_at "dl"); exact ⟨_, _, _, _, rfl, row_rl hm, row_rl hb, px0, py0, hQ⟩)
  | tup bs =>
    walk_at "dl"
    refine ⟨by decide, ?_⟩
    try simp only [show isaB "tuple" "bool" = false by decide, show isaB "tuple" "int" = false by decide, show isaB "tuple" "str" = false by decide, show isaB "tuple" "list" = false by decide]
    walk_at "dl"
    try simp only [show isaB "tuple" "bool" = false by decide, show isaB "tuple" "int" = false by decide, show isaB "tuple" "str" = false by decide, show isaB "tuple" "list" = false by decide]
    walk_at "dl"
    refine ⟨by decide, by decide, by decide, ?_⟩
    cases kx <;> first
      | ((walk_at "dl"); refine ⟨by decide, ?_⟩; exact hQ)
      | ((walk_at "dl"); refine ⟨by decide, ?_⟩; (try simp only [show isaB "tuple" "tuple" = true by decide]); (walk_at "dl"); exact ⟨_, _, _, _, rfl, rfl, rfl, px0, py0, hQ⟩)
      | (rename_i hm; (try simp only [ty_rl hm]); (walk_at "dl"); refine ⟨by decide, ?_⟩; exact hQ)
theorem no_row0 : ∀ ds M Q E, ¬ sp_l_same_row 0 ds M Q E := by
  rintro ds M Q E ⟨x, y, xs, ys, _, rx, _, px, _⟩
  cases x with
  | lst ds => have q := (ba (show (decide (ds.length ≤ 1000000) && plnIn 0 ds) = true from by have := px; unfold vw pln at this; exact this)).2; unfold plnIn at q; cases q
  | tup ds => have q := (ba (show (decide (ds.length ≤ 1000000) && plnIn 0 ds) = true from by have := px; unfold vw pln at this; exact this)).2; unfold plnIn at q; cases q
  | ref a => unfold vw pln at px; cases px
  | _ => cases rx
theorem same_pl {n : Nat} {M : Mu} {x y : D} {Q : DK} {E : DX} (px : pln n x = true) (py : pln n y = true) (h : Q (.bl (eqD x y)) M) : sp_l_same n [x, y] M Q E :=
  ⟨x, y, rfl, by rw [vw_pln M px]; exact px, by rw [vw_pln M py]; exact py, by rw [vw_pln M px, vw_pln M py]; exact h⟩
end DL
namespace DL
open PySem L2
local macro_rules | `(tactic| walk_at "dl") => `(tactic| try simp (config := { proj := false }) only [↓ex_mk, ↓nx_mk, ↓rt_mk, ↓bk_mk, ↓ct_mk, ↓xc_mk, ↓u_c, ↓u_op, ↓u_un, ↓u_and, ↓u_or, ↓u_not, ↓u_if, ↓u_anil, ↓u_acons, ↓u_lst, ↓u_lstM, ↓u_tup, ↓u_call, ↓u_sl, ↓u_onone, ↓u_cb, ↓u_mt, ↓u_mt0, ↓u_pass, ↓u_seq, ↓u_set, ↓u_asg, ↓u_drop, ↓u_ret, ↓u_retN, ↓u_ifs, ↓u_brk, ↓u_cnt, ↓u_for, ↓u_gname, ↓u_gsub, ↓u_fs, ↓u_fmt, ↓u_js0, ↓u_js, ↓u_em, ↓u_yes, ↓u_never, ↓u_ref, ↓u_forR, ↓u_star, ↓u_dict, ↓u_dict0, ↓u_dp0, ↓u_dp1, ↓u_forK, ↓u_lock, ↓u_kd, ↓u_fld, ↓u_setF, ↓u_make, ↓u_binL, ↓u_binR, ↓u_inO, ↓u_getO, ↓u_setO, ↓u_augO, ↓u_prp, ↓u_inv, ↓u_meth, ↓u_keys, ↓u_try, ↓u_cm, ↓u_makeV, ↓r_enum, ↓r_own, ↓u_raise, ↓u_tryas, ↓u_ca, ↓u_xf, ↓u_idxC, su_mk,
  ↓r_var, ↓r_test, ↓r_andV, ↓r_orV, ↓r_notV, ↓r_tru, ↓r_frz, ↓r_osome, ↓r_any, ↓r_scr, scr_c, ↓r_rng1, ↓r_rng2, ↓r_fz, wipeD,
  onSome_s, onBl_b, onInt_i, onStr_s, onVar_s, onML_l, onML2_l, onML2_d, onDK_d, fmt_s, fmt_i, tru_n, tru_b, tru_i, tru_s, tru_l, tru_t, tru_r, frz_r, sl_s, sl_l, sl_t, sl_r, add_i, add_s, add_l, add_t, add_rl, add_lr, sub_i, mul_i, div_i, mod_i, pow_i, neg_i, cmp_i, eq_i, eq_s, eq_b, eq_n, eq_l, eq_t, eq_rl, eq_lr, eq_ni, eq_in, eq_ns, eq_sn, eq_nb, eq_bn, eq_is, eq_si,
  ix_l, ix_t, ix_s, ix_ri, ix_rs, in_ss, in_l, in_t, in_ir, in_sr, isB_t, isB_f, ltS_s, gtS_s, sorted_l, keyK_s, keyK_i, u_dget, lenOR_r, listOR_r, isn_n, isn_b, isn_i, isn_s, isn_r, isn_l, isn_t, len_s, len_c, len_l, len_t, len_r, int_i, int_b, min_ii, max_ii, list_l, list_t, list_r, list_c, listM_l, listM_c, listM_t, listM_r, isi_, isi_k, ty_n, ty_b, ty_i, ty_s, ty_l, ty_t, it_s, it_l, it_r, itM_l, itM_d, app_r, rev_r, ends_s, ins_r, set_rs, str_i, str_s, ext_l, pop_r, clr_r, star_l, star_t, star_r, onRef_r, onML3_l, onML3_d, onML3_f, onDR_d, onDR_f, onFK_f, join_l, join_t, join_r, starts_s, r_gtup, r_glst, r_gnil, r_gcons, set_r, items_s, items_l, items_t, rng1_i, rng2_i, fz_r, addM_l, addM_rl, onIns_i, onLst_l, isIns_r, isInsM_i, noF_r, noFM_i, rows_r, lenO_r, listO_r, listOM_r, isCK_i, isCK_l, isC_r, isC_s, isC_i, isC_b, isC_n, isC_l, isC_t, putG_0, putG_1, lk_1, onCl_c, onEnum_l, index_l, strO_r, cmpO_r, pop1_r, tuple_l, tuple_t, divmod_i, upper_s, indexT_t, onExc_e, isE_t, isE_c, isE_v, zip_1,
  List.map_cons, List.map_nil, List.cons_append, List.nil_append, List.length_cons, List.length_nil, List.replicate, List.getElem?_cons_zero, List.getElem?_cons_succ, List.set_cons_zero, List.set_cons_succ, id, decide_eq_true_eq, if_true, if_false, Bool.false_eq_true, reduceIte, Bool.not_true, Bool.not_false, true_and, Nat.reduceAdd, Nat.reduceSub, Int.reduceToNat, Int.toNat_natCast, put_same, put_put, atI_0, atI_1, atI_2, atI_3, atI_4, ixN_40, ixN_41, ixN_42, ixN_43])
def Lett (x : Tx) : Prop := ∀ c ∈ x, 97 ≤ c ∧ c ≤ 122
def Nm (x : Tx) : Prop := 0 < x.length ∧ x.length ≤ 8 ∧ Lett x
instance (x : Tx) : Decidable (Lett x) := inferInstanceAs (Decidable (∀ c ∈ x, 97 ≤ c ∧ c ≤ 122))
instance (x : Tx) : Decidable (Nm x) := inferInstanceAs (Decidable (_ ∧ _))
def IsStep (x : Tx) : Prop := ∃ m n, x = m :: n ∧ (m = 46 ∨ m = 94) ∧ Nm n
def Steps (l : List Tx) : Prop := ∀ s ∈ l, IsStep s
def Tl (k : Nat) (x : Tx) : Prop := ∃ l : List Tx, l.length ≤ k ∧ Steps l ∧ x = l.flatten
def Nd (k : Nat) (x : Tx) : Prop := ∃ (r : Tx) (l : List Tx), Nm r ∧ l.length ≤ k ∧ Steps l ∧ x = r ++ l.flatten
theorem Steps.nil : Steps [] := fun _ h => by cases h
theorem Steps.append {l m : List Tx} (h : Steps l) (k : Steps m) : Steps (l ++ m) := fun s hs => (List.mem_append.mp hs).elim (h s) (k s)
theorem Steps.one {s : Tx} (h : IsStep s) : Steps [s] := fun t ht => by rw [List.mem_singleton.mp ht]; exact h
theorem Steps.take {l : List Tx} (h : Steps l) (n : Nat) : Steps (l.take n) := fun s hs => h s (List.mem_of_mem_take hs)
theorem IsStep.len {s : Tx} (h : IsStep s) : 2 ≤ s.length ∧ s.length ≤ 9 := by
  obtain ⟨m, n, rfl, _, h1, h2, _⟩ := h
  rw [List.length_cons]
  omega
theorem Steps.len : ∀ {l : List Tx}, Steps l → l.flatten.length ≤ 9 * l.length
  | [], _ => by simp
  | s :: l, h => by
    have h1 := (h s (List.mem_cons_self ..)).len
    have h2 := Steps.len (l := l) fun t ht => h t (List.mem_cons_of_mem _ ht)
    rw [List.flatten_cons, List.length_append, List.length_cons]
    omega
theorem Tl.len {k : Nat} {x : Tx} (h : Tl k x) : x.length ≤ 9 * k := by
  obtain ⟨l, h1, h2, rfl⟩ := h
  have := h2.len
  omega
theorem Nd.len {k : Nat} {x : Tx} (h : Nd k x) : x.length ≤ 9 * k + 8 := by
  obtain ⟨r, l, hr, h1, h2, rfl⟩ := h
  have := h2.len
  have := hr.2.1
  rw [List.length_append]
  omega
theorem IsStep.chars {s : Tx} (h : IsStep s) : ∀ c ∈ s, c < 128 := by
  obtain ⟨m, n, rfl, hm, _, _, h3⟩ := h
  intro c hc
  rcases List.mem_cons.mp hc with rfl | hc
  · omega
  · have := h3 c hc; omega
theorem Nd.chars {k : Nat} {x : Tx} (h : Nd k x) : ∀ c ∈ x, c < 128 := by
  obtain ⟨r, l, hr, h1, h2, rfl⟩ := h
  intro c hc
  rcases List.mem_append.mp hc with hc | hc
  · have := hr.2.2 c hc; omega
  · obtain ⟨s, hs, hc⟩ := List.mem_flatten.mp hc
    exact (h2 s hs).chars c hc
theorem Nd.mono {k j : Nat} {x : Tx} (h : Nd k x) (l : k ≤ j) : Nd j x := by
  obtain ⟨r, s, hr, h1, h2, e⟩ := h
  exact ⟨r, s, hr, by omega, h2, e⟩
theorem Nd.app {k j : Nat} {x y : Tx} (h : Nd k x) (t : Tl j y) : Nd (k + j) (x ++ y) := by
  obtain ⟨r, s, hr, h1, h2, rfl⟩ := h
  obtain ⟨l, h3, h4, rfl⟩ := t
  exact ⟨r, s ++ l, hr, by rw [List.length_append]; omega, h2.append h4, by rw [List.flatten_append, List.append_assoc]⟩
theorem Tl.step {k : Nat} {x s : Tx} (h : Tl k x) (t : IsStep s) : Tl (k + 1) (x ++ s) := by
  obtain ⟨l, h3, h4, rfl⟩ := h
  exact ⟨l ++ [s], by rw [List.length_append]; show l.length + 1 ≤ _; omega, h4.append (Steps.one t), by simp⟩
theorem Nm.nd {x : Tx} (h : Nm x) (k : Nat) : Nd k x := ⟨x, [], h, Nat.zero_le _, Steps.nil, by simp⟩
def isM (c : Nat) : Bool := c == 46 || c == 94
def pstep (s : List Tx × Tx) (c : Nat) : List Tx × Tx := if isM c then (s.1 ++ [s.2], [c]) else (s.1, s.2 ++ [c])
def pst (x : Tx) : List Tx × Tx := x.foldl pstep ([], [])
def partsF (x : Tx) : List Tx := (pst x).1 ++ [(pst x).2]
theorem pst_snoc (x : Tx) (c : Nat) : pst (x ++ [c]) = pstep (pst x) c := by unfold pst; rw [List.foldl_append]; rfl
theorem pst_len : ∀ (x : Tx), (pst x).1.length ≤ x.length ∧ (pst x).2.length ≤ x.length := by
  intro x
  have all : ∀ (x : Tx) (s : List Tx × Tx), (x.foldl pstep s).1.length ≤ s.1.length + x.length ∧ (x.foldl pstep s).2.length ≤ s.2.length + 1 + x.length ∧ (x.foldl pstep s).2.length ≤ max s.2.length 1 + x.length := by
    intro x
    induction x with
    | nil => intro s; simp; omega
    | cons c x ih =>
      intro s
      have h := ih (pstep s c)
      rw [List.foldl_cons, List.length_cons]
      unfold pstep at h ⊢
      split at h
      · rename_i hc
        simp only [hc, if_true, List.length_append, List.length_cons, List.length_nil] at h ⊢
        omega
      · rename_i hc
        simp only [hc, List.length_append, List.length_cons, List.length_nil] at h ⊢
        simp only [Bool.false_eq_true, if_false, List.length_append, List.length_cons, List.length_nil] at h ⊢
        omega
  have h2 : ∀ (x : Tx), (pst x).2.length ≤ x.length := by
    intro x
    cases x with
    | nil => exact Nat.le_refl _
    | cons c x =>
      have h := (all x (pstep ([], []) c)).2.2
      show (x.foldl pstep (pstep ([], []) c)).2.length ≤ _
      have e : (pstep ([], []) c).2.length = 1 := by unfold pstep; split <;> rfl
      rw [e] at h
      rw [List.length_cons]
      omega
  have h1 := (all x ([], [])).1
  exact ⟨by simpa [pst] using h1, h2 x⟩
theorem fold_plain : ∀ {r : Tx} {s : List Tx × Tx}, (∀ c ∈ r, isM c = false) → r.foldl pstep s = (s.1, s.2 ++ r)
  | [], s, _ => by simp
  | c :: r, s, h => by
    rw [List.foldl_cons, show pstep s c = (s.1, s.2 ++ [c]) by unfold pstep; rw [h c (List.mem_cons_self ..)]; rfl, fold_plain fun d hd => h d (List.mem_cons_of_mem _ hd)]
    simp
def Part (s : Tx) : Prop := ∃ m n, s = m :: n ∧ isM m = true ∧ ∀ c ∈ n, isM c = false
theorem fold_parts : ∀ {l : List Tx} {s : List Tx × Tx}, (∀ t ∈ l, Part t) → (l.flatten.foldl pstep s).1 ++ [(l.flatten.foldl pstep s).2] = s.1 ++ [s.2] ++ l
  | [], s, _ => by simp
  | t :: l, s, h => by
    obtain ⟨m, n, rfl, hm, hn⟩ := h t (List.mem_cons_self ..)
    rw [List.flatten_cons, List.foldl_append, List.foldl_cons, show pstep s m = (s.1 ++ [s.2], [m]) by unfold pstep; rw [hm]; rfl, fold_plain hn, fold_parts fun d hd => h d (List.mem_cons_of_mem _ hd)]
    simp
theorem parts_of {r : Tx} {l : List Tx} (hr : ∀ c ∈ r, isM c = false) (hl : ∀ t ∈ l, Part t) : partsF (r ++ l.flatten) = r :: l := by
  unfold partsF pst
  rw [List.foldl_append, fold_plain hr, fold_parts hl]
  simp
theorem fold_is (x : Tx) : ∀ (s : List Tx × Tx), (∀ c ∈ s.2.drop 1, isM c = false) → ∃ l, (∀ t ∈ l.drop 1, Part t) ∧ (s.2 = l.head?.getD [] ∨ ∃ n, (∀ c ∈ n, isM c = false) ∧ l.head? = some (s.2 ++ n)) ∧ l ≠ [] ∧
    (x.foldl pstep s).1 ++ [(x.foldl pstep s).2] = s.1 ++ l ∧ l.flatten = s.2 ++ x := by
  induction x with
  | nil => intro s h; exact ⟨[s.2], by simp, .inl rfl, by simp, rfl, by simp⟩
  | cons c x ih =>
    intro s h
    rw [List.foldl_cons]
    cases hc : isM c with
    | true =>
      have e : pstep s c = (s.1 ++ [s.2], [c]) := by unfold pstep; rw [hc]; rfl
      rw [e]
      obtain ⟨l, h1, h2, h3, h4, h5⟩ := ih (s.1 ++ [s.2], [c]) (by simp)
      refine ⟨s.2 :: l, ?_, .inl rfl, by simp, by rw [h4]; simp, by rw [List.flatten_cons, h5]; simp⟩
      intro t ht
      rw [List.drop_succ_cons, List.drop_zero] at ht
      cases l with
      | nil => exact absurd rfl h3
      | cons a l =>
        rcases List.mem_cons.mp ht with rfl | ht
        · rcases h2 with h2 | ⟨n, hn, h2⟩
          · simp at h2
            rw [← h2]
            exact ⟨c, [], rfl, hc, by simp⟩
          · simp at h2
            rw [h2]
            exact ⟨c, n, rfl, hc, hn⟩
        · exact h1 t (by simpa using ht)
    | false =>
      have e : pstep s c = (s.1, s.2 ++ [c]) := by unfold pstep; rw [hc]; rfl
      rw [e]
      obtain ⟨l, h1, h2, h3, h4, h5⟩ := ih (s.1, s.2 ++ [c]) (by
        intro d hd
        show isM d = false
        have hd2 : d ∈ s.2.drop 1 ++ [c] ∨ True := .inr trivial
        rcases hs : s.2 with _ | ⟨a, r⟩
        · simp [hs] at hd
        · simp only [hs, List.cons_append, List.drop_succ_cons, List.drop_zero] at hd
          rcases List.mem_append.mp hd with hd | hd
          · exact h d (by simpa [hs] using hd)
          · rw [List.mem_singleton.mp hd]; exact hc)
      refine ⟨l, h1, .inr ?_, h3, h4, by rw [h5]; simp⟩
      cases l with
      | nil => exact absurd rfl h3
      | cons a l =>
        rcases h2 with h2 | ⟨n, hn, h2⟩
        · simp at h2
          exact ⟨[c], by simp [hc], by simp [← h2]⟩
        · simp at h2
          exact ⟨c :: n, by
            intro d hd
            rcases List.mem_cons.mp hd with rfl | hd
            · exact hc
            · exact hn d hd, by simp [h2]⟩
theorem parts_is (x : Tx) : ∃ r l, partsF x = r :: l ∧ (∀ t ∈ l, Part t) ∧ (∀ c ∈ r, isM c = false) ∧ x = r ++ l.flatten := by
  obtain ⟨l, h1, h2, h3, h4, h5⟩ := fold_is x ([], []) (by simp)
  cases l with
  | nil => exact absurd rfl h3
  | cons r l =>
    refine ⟨r, l, by unfold partsF pst; rw [h4]; rfl, fun t ht => h1 t (by simpa using ht), ?_, by simpa using h5.symm⟩
    rcases h2 with h2 | ⟨n, hn, h2⟩
    · simp at h2
      rw [h2]
      simp
    · simp at h2
      rw [h2]
      exact hn
theorem lett_plain {x : Tx} (h : Lett x) : ∀ c ∈ x, isM c = false := fun c hc => by
  have := h c hc
  unfold isM
  rw [Bool.or_eq_false_iff, beq_eq_false_iff_ne, beq_eq_false_iff_ne]
  omega
theorem IsStep.part {s : Tx} (h : IsStep s) : Part s := by
  obtain ⟨m, n, rfl, hm, _, _, hn⟩ := h
  refine ⟨m, n, rfl, ?_, lett_plain hn⟩
  rcases hm with rfl | rfl <;> rfl
theorem nd_parts {r : Tx} {l : List Tx} (hr : Nm r) (hl : Steps l) : partsF (r ++ l.flatten) = r :: l := parts_of (lett_plain hr.2.2) fun t ht => (hl t ht).part
end DL
namespace DL
open PySem L2
local macro_rules | `(tactic| walk_at "dl") => `(tactic| try simp (config := { proj := false }) only [↓ex_mk, ↓nx_mk, ↓rt_mk, ↓bk_mk, ↓ct_mk, ↓xc_mk, ↓u_c, ↓u_op, ↓u_un, ↓u_and, ↓u_or, ↓u_not, ↓u_if, ↓u_anil, ↓u_acons, ↓u_lst, ↓u_lstM, ↓u_tup, ↓u_call, ↓u_sl, ↓u_onone, ↓u_cb, ↓u_mt, ↓u_mt0, ↓u_pass, ↓u_seq, ↓u_set, ↓u_asg, ↓u_drop, ↓u_ret, ↓u_retN, ↓u_ifs, ↓u_brk, ↓u_cnt, ↓u_for, ↓u_gname, ↓u_gsub, ↓u_fs, ↓u_fmt, ↓u_js0, ↓u_js, ↓u_em, ↓u_yes, ↓u_never, ↓u_ref, ↓u_forR, ↓u_star, ↓u_dict, ↓u_dict0, ↓u_dp0, ↓u_dp1, ↓u_forK, ↓u_lock, ↓u_kd, ↓u_fld, ↓u_setF, ↓u_make, ↓u_binL, ↓u_binR, ↓u_inO, ↓u_getO, ↓u_setO, ↓u_augO, ↓u_prp, ↓u_inv, ↓u_meth, ↓u_keys, ↓u_try, ↓u_cm, ↓u_makeV, ↓r_enum, ↓r_own, ↓u_raise, ↓u_tryas, ↓u_ca, ↓u_xf, ↓u_idxC, su_mk,
  ↓r_var, ↓r_test, ↓r_andV, ↓r_orV, ↓r_notV, ↓r_tru, ↓r_frz, ↓r_osome, ↓r_any, ↓r_scr, scr_c, ↓r_rng1, ↓r_rng2, ↓r_fz, wipeD,
  onSome_s, onBl_b, onInt_i, onStr_s, onVar_s, onML_l, onML2_l, onML2_d, onDK_d, fmt_s, fmt_i, tru_n, tru_b, tru_i, tru_s, tru_l, tru_t, tru_r, frz_r, sl_s, sl_l, sl_t, sl_r, add_i, add_s, add_l, add_t, add_rl, add_lr, sub_i, mul_i, div_i, mod_i, pow_i, neg_i, cmp_i, eq_i, eq_s, eq_b, eq_n, eq_l, eq_t, eq_rl, eq_lr, eq_ni, eq_in, eq_ns, eq_sn, eq_nb, eq_bn, eq_is, eq_si,
  ix_l, ix_t, ix_s, ix_ri, ix_rs, in_ss, in_l, in_t, in_ir, in_sr, isB_t, isB_f, ltS_s, gtS_s, sorted_l, keyK_s, keyK_i, u_dget, lenOR_r, listOR_r, isn_n, isn_b, isn_i, isn_s, isn_r, isn_l, isn_t, len_s, len_c, len_l, len_t, len_r, int_i, int_b, min_ii, max_ii, list_l, list_t, list_r, list_c, listM_l, listM_c, listM_t, listM_r, isi_, isi_k, ty_n, ty_b, ty_i, ty_s, ty_l, ty_t, it_s, it_l, it_r, itM_l, itM_d, app_r, rev_r, ends_s, ins_r, set_rs, str_i, str_s, ext_l, pop_r, clr_r, star_l, star_t, star_r, onRef_r, onML3_l, onML3_d, onML3_f, onDR_d, onDR_f, onFK_f, join_l, join_t, join_r, starts_s, r_gtup, r_glst, r_gnil, r_gcons, set_r, items_s, items_l, items_t, rng1_i, rng2_i, fz_r, addM_l, addM_rl, onIns_i, onLst_l, isIns_r, isInsM_i, noF_r, noFM_i, rows_r, lenO_r, listO_r, listOM_r, isCK_i, isCK_l, isC_r, isC_s, isC_i, isC_b, isC_n, isC_l, isC_t, putG_0, putG_1, lk_1, onCl_c, onEnum_l, index_l, strO_r, cmpO_r, pop1_r, tuple_l, tuple_t, divmod_i, upper_s, indexT_t, onExc_e, isE_t, isE_c, isE_v, zip_1,
  List.map_cons, List.map_nil, List.cons_append, List.nil_append, List.length_cons, List.length_nil, List.replicate, List.getElem?_cons_zero, List.getElem?_cons_succ, List.set_cons_zero, List.set_cons_succ, id, decide_eq_true_eq, if_true, if_false, Bool.false_eq_true, reduceIte, Bool.not_true, Bool.not_false, true_and, Nat.reduceAdd, Nat.reduceSub, Int.reduceToNat, Int.toNat_natCast, put_same, put_put, atI_0, atI_1, atI_2, atI_3, atI_4, ixN_40, ixN_41, ixN_42, ixN_43])
def sp_l_name : DSp := fun ds M Q _ => ∃ a, ds = [.ref a] ∧ Src M a ∧ ∀ x M', Nm x → SrcTo a M M' → Q (.str x) M'
def w_l_name_b1 : DTS := dSet 1 (dOp gAdd (dVar 1) (dCall sp_l_pick (daCons (dVar 0) (daCons (dC (.str (T "abcdefghijklmnopqrstuvwxyz"))) (daNil)))))
def w_l_name : DTS := dSeq (dIfS (dTest (dOp gGt (dCall sp_l_draw (daCons (dVar 0) (daCons (dC (.int 3)) (daNil)))) (dC (.int 0)))) (dRet (dCall sp_l_pick (daCons (dVar 0) (daCons (dLst (daCons (dC (.str [97])) (daCons (dC (.str [98])) (daCons (dC (.str [97, 98])) (daCons (dC (.str [97, 97])) (daCons (dC (.str (T "abc"))) (daCons (dC (.str [99])) (daCons (dC (.str [98, 98])) (daCons (dC (.str (T "see"))) (daNil)))))))))) (daNil))))) (dPass)) (dSeq (dSet 1 (dC (.str []))) (dSeq (dFor (diRng1 (daCons (dOp gAdd (dC (.int 1)) (dCall sp_l_draw (daCons (dVar 0) (daCons (dC (.int 8)) (daNil))))) (daNil))) (dgName 2) (w_l_name_b1)) (dRet (dVar 1))))
theorem abc : ∀ c ∈ T "abcdefghijklmnopqrstuvwxyz", 97 ≤ c ∧ c ≤ 122 := by decide +kernel
theorem p_l_name : ∀ ds M Q E, sp_l_name ds M Q E → w_l_name (Ret Q E) (ds.map some ++ List.replicate (3 - 1) none) M := by
  rintro ds M Q E ⟨a, rfl, hs, hQ⟩
  unfold w_l_name
  walk_at "dl"
  refine draw_ hs (by decide) (by decide) fun i M1 i0 i1 s1 => ?_
  walk_at "dl"
  by_cases h : 0 < i
  · rw [if_pos h]
    refine ⟨by decide, pick_ s1.1 rfl (by decide) (by decide) fun d M2 hd s2 => ?_⟩
    have : ∃ x, d = .str x ∧ Nm x := by
      simp only [List.mem_cons, List.not_mem_nil, or_false] at hd
      rcases hd with rfl | rfl | rfl | rfl | rfl | rfl | rfl | rfl
      all_goals exact ⟨_, rfl, by decide +kernel⟩
    obtain ⟨x, rfl, hx⟩ := this
    exact hQ x M2 hx (s1.trans s2)
  · rw [if_neg h]
    refine draw_ s1.1 (by decide) (by decide) fun j M2 j0 j1 s2 => ?_
    walk_at "dl"
    refine ⟨by omega, by omega, ?_⟩
    refine wFor_by (fun i τ M' => ∃ z y, τ = [some (.ref a), some (.str z), y] ∧ z.length = i ∧ Lett z ∧ SrcTo a M M') ⟨[], _, rfl, rfl, fun c h => (nomatch h), s1.trans s2⟩ ?_ ?_
    · rintro k d τ M3 hd ⟨z, y, rfl, hz, hl, s3⟩ nxt hn
      obtain ⟨rfl, hk⟩ := upTo_at hd
      unfold w_l_name_b1
      walk_at "dl"
      refine pick_ s3.1 rfl (by decide +kernel) (by decide +kernel) fun d M4 hd s4 => ?_
      obtain ⟨c, hc, rfl⟩ := List.mem_map.mp hd
      walk_at "dl"
      refine ⟨by omega, hn _ _ ⟨_, _, rfl, by rw [List.length_append, hz]; rfl, ?_, s3.trans s4⟩⟩
      intro e he
      rcases List.mem_append.mp he with he | he
      · exact hl e he
      · rw [List.mem_singleton.mp he]; exact abc c hc
    · rintro τ M3 ⟨z, y, rfl, hz, hl, s3⟩
      walk_at "dl"
      rw [upTo_len] at hz
      exact hQ z M3 ⟨by omega, by omega, hl⟩ s3
end DL
namespace DL
open PySem L2
local macro_rules | `(tactic| walk_at "dl") => `(tactic| try simp (config := { proj := false }) only [↓ex_mk, ↓nx_mk, ↓rt_mk, ↓bk_mk, ↓ct_mk, ↓xc_mk, ↓u_c, ↓u_op, ↓u_un, ↓u_and, ↓u_or, ↓u_not, ↓u_if, ↓u_anil, ↓u_acons, ↓u_lst, ↓u_lstM, ↓u_tup, ↓u_call, ↓u_sl, ↓u_onone, ↓u_cb, ↓u_mt, ↓u_mt0, ↓u_pass, ↓u_seq, ↓u_set, ↓u_asg, ↓u_drop, ↓u_ret, ↓u_retN, ↓u_ifs, ↓u_brk, ↓u_cnt, ↓u_for, ↓u_gname, ↓u_gsub, ↓u_fs, ↓u_fmt, ↓u_js0, ↓u_js, ↓u_em, ↓u_yes, ↓u_never, ↓u_ref, ↓u_forR, ↓u_star, ↓u_dict, ↓u_dict0, ↓u_dp0, ↓u_dp1, ↓u_forK, ↓u_lock, ↓u_kd, ↓u_fld, ↓u_setF, ↓u_make, ↓u_binL, ↓u_binR, ↓u_inO, ↓u_getO, ↓u_setO, ↓u_augO, ↓u_prp, ↓u_inv, ↓u_meth, ↓u_keys, ↓u_try, ↓u_cm, ↓u_makeV, ↓r_enum, ↓r_own, ↓u_raise, ↓u_tryas, ↓u_ca, ↓u_xf, ↓u_idxC, su_mk,
  ↓r_var, ↓r_test, ↓r_andV, ↓r_orV, ↓r_notV, ↓r_tru, ↓r_frz, ↓r_osome, ↓r_any, ↓r_scr, scr_c, ↓r_rng1, ↓r_rng2, ↓r_fz, wipeD,
  onSome_s, onBl_b, onInt_i, onStr_s, onVar_s, onML_l, onML2_l, onML2_d, onDK_d, fmt_s, fmt_i, tru_n, tru_b, tru_i, tru_s, tru_l, tru_t, tru_r, frz_r, sl_s, sl_l, sl_t, sl_r, add_i, add_s, add_l, add_t, add_rl, add_lr, sub_i, mul_i, div_i, mod_i, pow_i, neg_i, cmp_i, eq_i, eq_s, eq_b, eq_n, eq_l, eq_t, eq_rl, eq_lr, eq_ni, eq_in, eq_ns, eq_sn, eq_nb, eq_bn, eq_is, eq_si,
  ix_l, ix_t, ix_s, ix_ri, ix_rs, in_ss, in_l, in_t, in_ir, in_sr, isB_t, isB_f, ltS_s, gtS_s, sorted_l, keyK_s, keyK_i, u_dget, lenOR_r, listOR_r, isn_n, isn_b, isn_i, isn_s, isn_r, isn_l, isn_t, len_s, len_c, len_l, len_t, len_r, int_i, int_b, min_ii, max_ii, list_l, list_t, list_r, list_c, listM_l, listM_c, listM_t, listM_r, isi_, isi_k, ty_n, ty_b, ty_i, ty_s, ty_l, ty_t, it_s, it_l, it_r, itM_l, itM_d, app_r, rev_r, ends_s, ins_r, set_rs, str_i, str_s, ext_l, pop_r, clr_r, star_l, star_t, star_r, onRef_r, onML3_l, onML3_d, onML3_f, onDR_d, onDR_f, onFK_f, join_l, join_t, join_r, starts_s, r_gtup, r_glst, r_gnil, r_gcons, set_r, items_s, items_l, items_t, rng1_i, rng2_i, fz_r, addM_l, addM_rl, onIns_i, onLst_l, isIns_r, isInsM_i, noF_r, noFM_i, rows_r, lenO_r, listO_r, listOM_r, isCK_i, isCK_l, isC_r, isC_s, isC_i, isC_b, isC_n, isC_l, isC_t, putG_0, putG_1, lk_1, onCl_c, onEnum_l, index_l, strO_r, cmpO_r, pop1_r, tuple_l, tuple_t, divmod_i, upper_s, indexT_t, onExc_e, isE_t, isE_c, isE_v, zip_1,
  List.map_cons, List.map_nil, List.cons_append, List.nil_append, List.length_cons, List.length_nil, List.replicate, List.getElem?_cons_zero, List.getElem?_cons_succ, List.set_cons_zero, List.set_cons_succ, id, decide_eq_true_eq, if_true, if_false, Bool.false_eq_true, reduceIte, Bool.not_true, Bool.not_false, true_and, Nat.reduceAdd, Nat.reduceSub, Int.reduceToNat, Int.toNat_natCast, put_same, put_put, atI_0, atI_1, atI_2, atI_3, atI_4, ixN_40, ixN_41, ixN_42, ixN_43])
def sp_l_step : DSp := fun ds M Q _ => ∃ a, ds = [.ref a] ∧ Src M a ∧ ∀ x M', IsStep x → SrcTo a M M' → Q (.str x) M'
def sp_l_tail : DSp := fun ds M Q _ => ∃ (a : Addr) (k : Int), ds = [.ref a, .int k] ∧ Src M a ∧ 0 ≤ k ∧ k ≤ 100 ∧ ∀ x M', Tl k.toNat x → SrcTo a M M' → Q (.str x) M'
def sp_l_place : DSp := fun ds M Q _ => ∃ a, ds = [.ref a] ∧ Src M a ∧ ∀ x M', Nd 6 x → SrcTo a M M' → Q (.str x) M'
def sp_l_parts : DSp := fun ds M Q _ => ∃ x, ds = [.str x] ∧ x.length ≤ 1000000 ∧ Q (.lst ((partsF x).map D.str)) M
def sp_l_near : DSp := fun ds M Q _ => ∃ (a : Addr) (x : Tx) (k : Nat), ds = [.ref a, .str x] ∧ Nd k x ∧ 6 ≤ k ∧ k ≤ 100 ∧ Src M a ∧ ∀ y M', Nd k y → SrcTo a M M' → Q (.str y) M'
def w_l_step : DTS := dRet (dOp gAdd (dCall sp_l_pick (daCons (dVar 0) (daCons (dLst (daCons (dC (.str [46])) (daCons (dC (.str [94])) (daNil)))) (daNil)))) (dCall sp_l_name (daCons (dVar 0) (daNil))))
def w_l_tail_b1 : DTS := dSet 2 (dOp gAdd (dVar 2) (dCall sp_l_step (daCons (dVar 0) (daNil))))
def w_l_tail : DTS := dSeq (dSet 2 (dC (.str []))) (dSeq (dFor (diRng1 (daCons (dCall sp_l_draw (daCons (dVar 0) (daCons (dOp gAdd (dVar 1) (dC (.int 1))) (daNil)))) (daNil))) (dgName 3) (w_l_tail_b1)) (dRet (dVar 2)))
def w_l_place_c1 : DTS := dRet (dOp gAdd (dCall sp_l_name (daCons (dVar 0) (daNil))) (dCall sp_l_tail (daCons (dVar 0) (daCons (dVar 1) (daNil)))))
def w_l_place : DTS := dSeq (dSet 1 (dC (.int 2))) (dSeq (dIfS (dTest (dOp gEq (dCall sp_l_draw (daCons (dVar 0) (daCons (dC (.int 8)) (daNil)))) (dC (.int 0)))) (dSet 1 (dC (.int 6))) (dPass)) (w_l_place_c1))
def w_l_parts_b1 : DTS := dIfS (dTest (dOp gIn (dVar 2) (dC (.str [46, 94])))) (dDrop (dMt "list" gAppend (dVar 1) (daCons (dVar 2) (daNil)))) (dAsg (dOp gAdd (dOp gIx (dVar 1) (dUn gNeg (dC (.int 1)))) (dVar 2)) (dgSub (dVar 1) (dUn gNeg (dC (.int 1))) gSetA))
def w_l_parts : DTS := dSeq (dSet 1 (dLstM (daCons (dC (.str [])) (daNil)))) (dSeq (dFor (diAny (dVar 0)) (dgName 2) (w_l_parts_b1)) (dRet (dFrz (dVar 1))))
def w_l_near_c1 : DTS := dRet (dOp gAdd (dOp gAdd (dMt "str" gJoin (dC (.str [])) (daCons (dSl (dVar 2) (doNone) (doSome (dUn gNeg (dC (.int 1))))) (daNil))) (dVar 5)) (dSl (dVar 4) (doSome (dC (.int 1))) (doNone)))
def w_l_near_c2 : DTS := dRet (dCall sp_l_place (daCons (dVar 0) (daNil)))
def w_l_near_c3 : DTS := dSeq (dIfS (dAnd (dTest (dOp gEq (dVar 3) (dC (.int 7)))) (dTest (dOp gLt (dCB gLen (daCons (dVar 4) (daNil))) (dC (.int 8))))) (dRet (dOp gAdd (dVar 1) (dCall sp_l_pick (daCons (dVar 0) (daCons (dC (.str (T "abcz"))) (daNil)))))) (dPass)) (w_l_near_c2)
def w_l_near_c4 : DTS := dSeq (dSet 4 (dOp gIx (dVar 2) (dUn gNeg (dC (.int 1))))) (dSeq (dIfS (dAnd (dTest (dOp gEq (dVar 3) (dC (.int 6)))) (dTest (dOp gGt (dCB gLen (daCons (dVar 2) (daNil))) (dC (.int 1))))) (dSeq (dSet 5 (dC (.str [46]))) (dSeq (dIfS (dTest (dOp gEq (dOp gIx (dVar 4) (dC (.int 0))) (dC (.str [46])))) (dSet 5 (dC (.str [94]))) (dPass)) (w_l_near_c1))) (dPass)) (w_l_near_c3))
def w_l_near : DTS := dSeq (dSet 2 (dCall sp_l_parts (daCons (dVar 1) (daNil)))) (dSeq (dSet 3 (dCall sp_l_draw (daCons (dVar 0) (daCons (dC (.int 8)) (daNil))))) (dSeq (dIfS (dTest (dOp gLt (dVar 3) (dC (.int 2)))) (dRet (dVar 1)) (dPass)) (dSeq (dIfS (dTest (dOp gLt (dVar 3) (dC (.int 4)))) (dRet (dMt "str" gJoin (dC (.str [])) (daCons (dSl (dVar 2) (doNone) (doSome (dOp gAdd (dC (.int 1)) (dCall sp_l_draw (daCons (dVar 0) (daCons (dCB gLen (daCons (dVar 2) (daNil))) (daNil))))))) (daNil)))) (dPass)) (dSeq (dIfS (dAnd (dTest (dOp gLt (dVar 3) (dC (.int 6)))) (dTest (dOp gLt (dCB gLen (daCons (dVar 2) (daNil))) (dC (.int 7))))) (dRet (dOp gAdd (dVar 1) (dCall sp_l_step (daCons (dVar 0) (daNil))))) (dPass)) (w_l_near_c4)))))
theorem p_l_step : ∀ ds M Q E, sp_l_step ds M Q E → w_l_step (Ret Q E) (ds.map some ++ List.replicate (1 - 1) none) M := by
  rintro ds M Q E ⟨a, rfl, hs, hQ⟩
  unfold w_l_step
  walk_at "dl"
  refine ⟨by decide, pick_ hs rfl (by decide) (by decide) fun d M2 hd s2 => ⟨a, rfl, s2.1, fun x M3 hx s3 => ?_⟩⟩
  have : ∃ m, d = .str [m] ∧ (m = 46 ∨ m = 94) := by
    simp only [List.mem_cons, List.not_mem_nil, or_false] at hd
    rcases hd with rfl | rfl
    · exact ⟨46, rfl, .inl rfl⟩
    · exact ⟨94, rfl, .inr rfl⟩
  obtain ⟨m, rfl, hm⟩ := this
  walk_at "dl"
  have := hx.2.1
  exact ⟨by omega, hQ _ M3 ⟨m, x, rfl, hm, hx⟩ (s2.trans s3)⟩
theorem p_l_tail : ∀ ds M Q E, sp_l_tail ds M Q E → w_l_tail (Ret Q E) (ds.map some ++ List.replicate (4 - 2) none) M := by
  rintro ds M Q E ⟨a, k, rfl, hs, k0, k1, hQ⟩
  unfold w_l_tail
  walk_at "dl"
  refine draw_ hs (by omega) (by omega) fun j M2 j0 j1 s2 => ?_
  walk_at "dl"
  refine ⟨by omega, by omega, ?_⟩
  refine wFor_by (fun i τ M' => ∃ z y, τ = [some (.ref a), some (.int k), some (.str z), y] ∧ Tl i z ∧ SrcTo a M M') ⟨[], _, rfl, ⟨[], Nat.le_refl _, Steps.nil, rfl⟩, s2⟩ ?_ ?_
  · rintro i d τ M3 hd ⟨z, y, rfl, hz, s3⟩ nxt hn
    obtain ⟨rfl, hi⟩ := upTo_at hd
    unfold w_l_tail_b1
    walk_at "dl"
    refine ⟨a, rfl, s3.1, fun x M4 hx s4 => ?_⟩
    walk_at "dl"
    have := hz.len
    have := hx.len
    exact ⟨by omega, hn _ _ ⟨_, _, rfl, hz.step hx, s3.trans s4⟩⟩
  · rintro τ M3 ⟨z, y, rfl, hz, s3⟩
    walk_at "dl"
    rw [upTo_len] at hz
    obtain ⟨l, h1, h2, e⟩ := hz
    exact hQ z M3 ⟨l, by omega, h2, e⟩ s3
theorem place_c1 {a : Addr} {k : Int} {M0 M : Mu} {Q : DK} {E : DX} (s : SrcTo a M0 M) (h0 : 0 ≤ k) (h1 : k ≤ 6) (hQ : ∀ x M', Nd 6 x → SrcTo a M0 M' → Q (.str x) M') : w_l_place_c1 (Ret Q E) [some (.ref a), some (.int k)] M := by
  unfold w_l_place_c1
  walk_at "dl"
  refine ⟨a, rfl, s.1, fun x M2 hx s2 => ?_⟩
  walk_at "dl"
  refine ⟨a, k, rfl, s2.1, h0, by omega, fun y M3 hy s3 => ?_⟩
  walk_at "dl"
  have := hy.len
  have := hx.2.1
  refine ⟨by omega, hQ _ M3 ?_ ((s.trans s2).trans s3)⟩
  exact ((hx.nd 0).app hy).mono (by omega)
theorem p_l_place : ∀ ds M Q E, sp_l_place ds M Q E → w_l_place (Ret Q E) (ds.map some ++ List.replicate (2 - 1) none) M := by
  rintro ds M Q E ⟨a, rfl, hs, hQ⟩
  unfold w_l_place
  walk_at "dl"
  refine draw_ hs (by omega) (by omega) fun j M2 j0 j1 s2 => ?_
  walk_at "dl"
  by_cases h : j = 0
  · rw [if_pos h]
    exact place_c1 s2 (by decide) (by decide) hQ
  · rw [if_neg h]
    exact place_c1 s2 (by decide) (by decide) hQ
theorem mem_marks {c : Nat} : c ∈ ([46, 94] : List Nat) ↔ isM c = true := by
  unfold isM
  rw [Bool.or_eq_true, beq_iff_eq, beq_iff_eq]
  simp
theorem p_l_parts : ∀ ds M Q E, sp_l_parts ds M Q E → w_l_parts (Ret Q E) (ds.map some ++ List.replicate (3 - 1) none) M := by
  rintro ds M Q E ⟨x, rfl, hl, hQ⟩
  unfold w_l_parts
  walk_at "dl"
  refine ⟨by decide, fun p hp => ?_⟩
  walk_at "dl"
  refine wFor_by (fun i τ M' => ∃ y, τ = [some (.str x), some (.ref p), y] ∧ M' = put M p (.lst (((pst (x.take i)).1 ++ [(pst (x.take i)).2]).map D.str))) ⟨_, rfl, rfl⟩ ?_ ?_
  · rintro i d τ M3 hd ⟨y, rfl, rfl⟩ nxt hn
    rw [List.getElem?_map] at hd
    cases e : x[i]? with
    | none => rw [e] at hd; cases hd
    | some c =>
      rw [e] at hd
      cases hd
      have hi := (List.getElem?_eq_some_iff.mp e).1
      have e2 : x.take (i + 1) = x.take i ++ [c] := by rw [List.take_add_one, e]; rfl
      have hs := pst_snoc (x.take i) c
      rw [← e2] at hs
      obtain ⟨l1, l2⟩ := pst_len (x.take i)
      rw [List.length_take] at l1 l2
      unfold w_l_parts_b1
      walk_at "dl"
      have hln : (List.map D.str ((pst (x.take i)).1 ++ [(pst (x.take i)).2])).length = (pst (x.take i)).1.length + 1 := by simp
      by_cases hc : isM c = true
      · rw [if_pos (mem_marks.mpr hc)]
        refine ⟨by omega, hn _ _ ⟨_, rfl, ?_⟩⟩
        rw [hs]
        unfold pstep
        rw [hc]
        simp
      · rw [if_neg (fun z => hc (mem_marks.mp z))]
        have e5 : List.map D.str ((pst (x.take i)).1 ++ [(pst (x.take i)).2]) = List.map D.str (pst (x.take i)).1 ++ [D.str (pst (x.take i)).2] := by simp
        rw [e5, atI_m1]
        try simp only []
        walk_at "dl"
        try simp only []
        walk_at "dl"
        have e3 : ixN (List.map D.str (pst (x.take i)).1 ++ [D.str (pst (x.take i)).2]).length (-1) = some (pst (x.take i)).1.length := by
          rw [List.length_append, List.length_map]; exact ixN_m1
        rw [e3]
        try simp only []
        walk_at "dl"
        try simp only []
        walk_at "dl"
        refine ⟨by omega, hn _ _ ⟨_, rfl, ?_⟩⟩
        rw [hs]
        unfold pstep
        rw [Bool.not_eq_true] at hc
        rw [hc]
        have e4 : (List.map D.str (pst (x.take i)).1 ++ [D.str (pst (x.take i)).2]).set (pst (x.take i)).1.length (D.str ((pst (x.take i)).2 ++ [c])) = List.map D.str (pst (x.take i)).1 ++ [D.str ((pst (x.take i)).2 ++ [c])] := by
          rw [List.set_append_right _ _ (by rw [List.length_map]; exact Nat.le_refl _), List.length_map, Nat.sub_self]
          rfl
        rw [e4]
        simp
  · rintro τ M3 ⟨y, rfl, rfl⟩
    walk_at "dl"
    rw [del_put_new hp]
    have e : x.take (x.map fun c => D.str [c]).length = x := by rw [List.length_map, List.take_length]
    rw [e]
    exact hQ
theorem join0 : ∀ l : List Tx, joinT [] l = l.flatten
  | [] => rfl
  | [x] => by simp [joinT, TL.joinL]
  | x :: y :: l => by
    have := join0 (y :: l)
    unfold joinT at this ⊢
    rw [List.flatten_cons, ← this]
    rfl
theorem flat_sum (l : List Tx) : (l.map (·.length)).sum = l.flatten.length := by rw [List.length_flatten]
theorem last_of {α : Type} {l : List α} (h : l ≠ []) : ∃ i x, l = i ++ [x] := ⟨l.dropLast, l.getLast h, (List.dropLast_concat_getLast h).symm⟩
theorem near_c1 {a : Addr} {x r n : Tx} {m : Nat} {l : List Tx} {k : Nat} {kd : Option D} {m' : Nat} {M0 M : Mu} {D0 : DEnds} (s : SrcTo a M0 M) (hr : Nm r) (hl : Steps l) (hk : (l ++ [m :: n]).length ≤ k) (hk2 : k ≤ 100) (hn : Nm n) (hm : m' = 46 ∨ m' = 94)
    (hQ : ∀ x M', Nd k x → SrcTo a M0 M' → D0.rt (.str x) M') : w_l_near_c1 D0 [some (.ref a), some (.str x), some (.lst ((r :: (l ++ [m :: n])).map D.str)), kd, some (.str (m :: n)), some (.str [m'])] M := by
  unfold w_l_near_c1
  walk_at "dl"
  have e1 : cut ((r :: (l ++ [m :: n])).map D.str) none (some (-1)) = (r :: l).map D.str := by
    rw [show (r :: (l ++ [m :: n])).map D.str = (r :: l).map D.str ++ [D.str (m :: n)] by simp, cut_init]
  simp only [List.map_cons] at e1
  try simp only [e1]
  walk_at "dl"
  try simp only [e1]
  walk_at "dl"
  have e2 : cut (m :: n) (some 1) none = n := cut_from (by decide)
  try simp only [e2]
  walk_at "dl"
  try simp only [e2]
  walk_at "dl"
  have h1 := hl.len
  have h2 := hr.2.1
  have h3 := hn.2.1
  rw [List.length_append] at hk
  have hk3 : l.length + 1 ≤ k := hk
  refine ⟨r :: l, rfl, ?_, ?_⟩
  · rw [flat_sum, List.flatten_cons, List.length_append]
    simp only [Nat.mul_zero]
    omega
  · rw [join0, List.flatten_cons]
    simp only [List.length_append, List.length_cons, List.length_nil]
    refine ⟨by omega, by omega, by omega, ?_⟩
    refine hQ _ M ⟨r, l ++ [m' :: n], hr, by rw [List.length_append]; exact hk, hl.append (Steps.one ⟨m', n, rfl, hm, hn⟩), ?_⟩ s
    simp
theorem near_c2 {a : Addr} {x2 x3 x4 x5 x6 : Option D} {k : Nat} {M0 M : Mu} {D0 : DEnds} (s : SrcTo a M0 M) (hk : 6 ≤ k) (hQ : ∀ x M', Nd k x → SrcTo a M0 M' → D0.rt (.str x) M') : w_l_near_c2 D0 [some (.ref a), x2, x3, x4, x5, x6] M := by
  unfold w_l_near_c2
  walk_at "dl"
  exact ⟨a, rfl, s.1, fun y M2 hy s2 => hQ y M2 (hy.mono hk) (s.trans s2)⟩
def lastP (r : Tx) (l : List Tx) : Tx := l.getLast?.getD r
theorem lastP_cons {r z : Tx} {i : List Tx} : lastP r (i ++ [z]) = z := by simp [lastP]
theorem lastP_at (r : Tx) (l : List Tx) : atI ((r :: l).map D.str) (-1) = some (.str (lastP r l)) := by
  by_cases hn : l = []
  · subst hn; rfl
  · obtain ⟨i, z, rfl⟩ := last_of hn
    rw [show (r :: (i ++ [z])).map D.str = (r :: i).map D.str ++ [D.str z] by simp, atI_m1, lastP_cons]
theorem lastP_len {r : Tx} {l : List Tx} (hr : Nm r) (hl : Steps l) : (lastP r l).length ≤ 9 := by
  by_cases hn : l = []
  · subst hn; have := hr.2.1; show r.length ≤ 9; omega
  · obtain ⟨i, z, rfl⟩ := last_of hn
    rw [lastP_cons]
    exact (hl z (by simp)).len.2
theorem nd_letter {r : Tx} {l : List Tx} {k c : Nat} (hr : Nm r) (hl : Steps l) (hk : l.length ≤ k) (hc : 97 ≤ c ∧ c ≤ 122) (h : (lastP r l).length < 8) : Nd k (r ++ l.flatten ++ [c]) := by
  have addc : ∀ z : Tx, Lett z → Lett (z ++ [c]) := fun z hz d hd => by
    rcases List.mem_append.mp hd with hd | hd
    · exact hz d hd
    · rw [List.mem_singleton.mp hd]; exact hc
  by_cases hn : l = []
  · subst hn
    have h2 : r.length < 8 := h
    exact ⟨r ++ [c], [], ⟨by simp, by simp; omega, addc r hr.2.2⟩, Nat.zero_le _, Steps.nil, by simp⟩
  · obtain ⟨i, z, rfl⟩ := last_of hn
    rw [lastP_cons] at h
    obtain ⟨m, n, rfl, hm, hnm⟩ := hl z (by simp)
    rw [List.length_cons] at h
    refine ⟨r, i ++ [m :: (n ++ [c])], hr, by simpa using hk, ?_, by simp⟩
    intro t ht
    rcases List.mem_append.mp ht with ht | ht
    · exact hl t (by simp [ht])
    · rw [List.mem_singleton.mp ht]
      exact ⟨m, n ++ [c], rfl, hm, by simp, by simp; omega, addc n hnm.2.2⟩
theorem abcz : ∀ c ∈ T "abcz", 97 ≤ c ∧ c ≤ 122 := by decide +kernel
theorem near_c3 {a : Addr} {r : Tx} {l : List Tx} {kd : Int} {k : Nat} {x6 : Option D} {M0 M : Mu} {D0 : DEnds} (s : SrcTo a M0 M) (hr : Nm r) (hl : Steps l) (hlk : l.length ≤ k) (k6 : 6 ≤ k) (k100 : k ≤ 100)
    (hQ : ∀ x M', Nd k x → SrcTo a M0 M' → D0.rt (.str x) M') : w_l_near_c3 D0 [some (.ref a), some (.str (r ++ l.flatten)), some (.lst ((r :: l).map D.str)), some (.int kd), some (.str (lastP r l)), x6] M := by
  have h1 := hl.len
  have h2 := hr.2.1
  have h3 := lastP_len hr hl
  unfold w_l_near_c3
  walk_at "dl"
  split
  · refine ⟨by omega, ?_⟩
    split
    · rename_i h8
      refine pick_ s.1 rfl (by decide +kernel) (by decide +kernel) fun d M2 hd s2 => ?_
      obtain ⟨c, hc, rfl⟩ := List.mem_map.mp hd
      walk_at "dl"
      refine ⟨by rw [List.length_append]; omega, hQ _ M2 (nd_letter hr hl hlk (abcz c hc) (by omega)) (s.trans s2)⟩
    · exact near_c2 s k6 hQ
  · exact near_c2 s k6 hQ
theorem near_c4 {a : Addr} {r : Tx} {l : List Tx} {kd : Int} {k : Nat} {x5 x6 : Option D} {M0 M : Mu} {D0 : DEnds} (s : SrcTo a M0 M) (hr : Nm r) (hl : Steps l) (hlk : l.length ≤ k) (k6 : 6 ≤ k) (k100 : k ≤ 100)
    (hQ : ∀ x M', Nd k x → SrcTo a M0 M' → D0.rt (.str x) M') : w_l_near_c4 D0 [some (.ref a), some (.str (r ++ l.flatten)), some (.lst ((r :: l).map D.str)), some (.int kd), x5, x6] M := by
  have hz := lastP_at r l
  have h3 := near_c3 (D0 := D0) (kd := kd) (x6 := x6) s hr hl hlk k6 k100 hQ
  simp only [List.map_cons] at hz h3
  unfold w_l_near_c4
  walk_at "dl"
  try simp only [hz]
  walk_at "dl"
  try simp only [hz]
  walk_at "dl"
  split
  · split
    · rename_i h1
      have hn : l ≠ [] := fun e => by rw [e] at h1; simp at h1
      obtain ⟨i, z, rfl⟩ := last_of hn
      rw [lastP_cons]
      obtain ⟨m, n, rfl, hm, hnm⟩ := hl z (by simp)
      have hi : Steps i := fun t ht => hl t (by simp [ht])
      have := hnm.2.1
      try simp only []
      walk_at "dl"
      try simp only []
      walk_at "dl"
      refine ⟨by omega, ?_⟩
      have c1 : ∀ m', (m' = 46 ∨ m' = 94) → _ := fun m' hm' => near_c1 (D0 := { D0 with nx := w_l_near_c3 D0 }) (x := r ++ (i ++ [m :: n]).flatten) (kd := some (.int kd)) (m' := m') s hr hi hlk k100 hnm hm' hQ
      simp only [List.map_cons] at c1
      split
      · exact c1 94 (.inr rfl)
      · exact c1 46 (.inl rfl)
    · exact h3
  · exact h3
theorem p_l_near : ∀ ds M Q E, sp_l_near ds M Q E → w_l_near (Ret Q E) (ds.map some ++ List.replicate (6 - 2) none) M := by
  rintro ds M Q E ⟨a, x, k, rfl, ⟨r, l, hr, hlk, hl, rfl⟩, k6, k100, hs, hQ⟩
  have hlen := hl.len
  have hr2 := hr.2.1
  unfold w_l_near
  walk_at "dl"
  refine ⟨_, rfl, by rw [List.length_append]; omega, ?_⟩
  rw [nd_parts hr hl]
  walk_at "dl"
  refine draw_ hs (by decide) (by decide) fun kd M1 d0 d1 s1 => ?_
  walk_at "dl"
  have self : Nd k (r ++ l.flatten) := ⟨r, l, hr, hlk, hl, rfl⟩
  have c4 := near_c4 (D0 := Ret Q E) (kd := kd) (x5 := none) (x6 := none) s1 hr hl hlk k6 k100 hQ
  simp only [List.map_cons] at c4
  split
  · exact hQ _ M1 self s1
  · split
    · simp only [List.length_map]
      refine draw_ s1.1 (by omega) (by omega) fun i M2 i0 i1 s2 => ?_
      walk_at "dl"
      have e1 : cut (D.str r :: l.map D.str) none (some (1 + i)) = (r :: l.take i.toNat).map D.str := by
        rw [cut_to (by omega) (by simp; omega), show (1 + i).toNat = i.toNat + 1 by omega, List.take_succ_cons, List.map_cons, List.map_take]
      try simp only [e1]
      walk_at "dl"
      try simp only [e1]
      walk_at "dl"
      refine ⟨r :: l.take i.toNat, rfl, ?_, ?_⟩
      · have h3 := (hl.take i.toNat).len
        rw [List.length_take] at h3
        rw [flat_sum, List.flatten_cons, List.length_append]
        simp only [Nat.mul_zero]
        omega
      · rw [join0, List.flatten_cons]
        exact hQ _ M2 ⟨r, l.take i.toNat, hr, by rw [List.length_take]; omega, hl.take _, rfl⟩ (s1.trans s2)
    · split
      · split
        · rename_i h7
          refine ⟨a, rfl, s1.1, fun y M2 hy s2 => ?_⟩
          walk_at "dl"
          have := hy.len
          rw [List.length_map] at h7
          refine ⟨by rw [List.length_append]; omega, hQ _ M2 ?_ (s1.trans s2)⟩
          refine ⟨r, l ++ [y], hr, ?_, hl.append (Steps.one hy), by simp⟩
          rw [List.length_append]
          show l.length + 1 ≤ k
          omega
        · exact c4
      · exact c4
end DL
namespace DL
open PySem L2
local macro_rules | `(tactic| walk_at "dl") => `(tactic| try simp (config := { proj := false }) only [↓ex_mk, ↓nx_mk, ↓rt_mk, ↓bk_mk, ↓ct_mk, ↓xc_mk, ↓u_c, ↓u_op, ↓u_un, ↓u_and, ↓u_or, ↓u_not, ↓u_if, ↓u_anil, ↓u_acons, ↓u_lst, ↓u_lstM, ↓u_tup, ↓u_call, ↓u_sl, ↓u_onone, ↓u_cb, ↓u_mt, ↓u_mt0, ↓u_pass, ↓u_seq, ↓u_set, ↓u_asg, ↓u_drop, ↓u_ret, ↓u_retN, ↓u_ifs, ↓u_brk, ↓u_cnt, ↓u_for, ↓u_gname, ↓u_gsub, ↓u_fs, ↓u_fmt, ↓u_js0, ↓u_js, ↓u_em, ↓u_yes, ↓u_never, ↓u_ref, ↓u_forR, ↓u_star, ↓u_dict, ↓u_dict0, ↓u_dp0, ↓u_dp1, ↓u_forK, ↓u_lock, ↓u_kd, ↓u_fld, ↓u_setF, ↓u_make, ↓u_binL, ↓u_binR, ↓u_inO, ↓u_getO, ↓u_setO, ↓u_augO, ↓u_prp, ↓u_inv, ↓u_meth, ↓u_keys, ↓u_try, ↓u_cm, ↓u_makeV, ↓r_enum, ↓r_own, ↓u_raise, ↓u_tryas, ↓u_ca, ↓u_xf, ↓u_idxC, su_mk,
  ↓r_var, ↓r_test, ↓r_andV, ↓r_orV, ↓r_notV, ↓r_tru, ↓r_frz, ↓r_osome, ↓r_any, ↓r_scr, scr_c, ↓r_rng1, ↓r_rng2, ↓r_fz, wipeD,
  onSome_s, onBl_b, onInt_i, onStr_s, onVar_s, onML_l, onML2_l, onML2_d, onDK_d, fmt_s, fmt_i, tru_n, tru_b, tru_i, tru_s, tru_l, tru_t, tru_r, frz_r, sl_s, sl_l, sl_t, sl_r, add_i, add_s, add_l, add_t, add_rl, add_lr, sub_i, mul_i, div_i, mod_i, pow_i, neg_i, cmp_i, eq_i, eq_s, eq_b, eq_n, eq_l, eq_t, eq_rl, eq_lr, eq_ni, eq_in, eq_ns, eq_sn, eq_nb, eq_bn, eq_is, eq_si,
  ix_l, ix_t, ix_s, ix_ri, ix_rs, in_ss, in_l, in_t, in_ir, in_sr, isB_t, isB_f, ltS_s, gtS_s, sorted_l, keyK_s, keyK_i, u_dget, lenOR_r, listOR_r, isn_n, isn_b, isn_i, isn_s, isn_r, isn_l, isn_t, len_s, len_c, len_l, len_t, len_r, int_i, int_b, min_ii, max_ii, list_l, list_t, list_r, list_c, listM_l, listM_c, listM_t, listM_r, isi_, isi_k, ty_n, ty_b, ty_i, ty_s, ty_l, ty_t, it_s, it_l, it_r, itM_l, itM_d, app_r, rev_r, ends_s, ins_r, set_rs, str_i, str_s, ext_l, pop_r, clr_r, star_l, star_t, star_r, onRef_r, onML3_l, onML3_d, onML3_f, onDR_d, onDR_f, onFK_f, join_l, join_t, join_r, starts_s, r_gtup, r_glst, r_gnil, r_gcons, set_r, items_s, items_l, items_t, rng1_i, rng2_i, fz_r, addM_l, addM_rl, onIns_i, onLst_l, isIns_r, isInsM_i, noF_r, noFM_i, rows_r, lenO_r, listO_r, listOM_r, isCK_i, isCK_l, isC_r, isC_s, isC_i, isC_b, isC_n, isC_l, isC_t, putG_0, putG_1, lk_1, onCl_c, onEnum_l, index_l, strO_r, cmpO_r, pop1_r, tuple_l, tuple_t, divmod_i, upper_s, indexT_t, onExc_e, isE_t, isE_c, isE_v, zip_1,
  List.map_cons, List.map_nil, List.cons_append, List.nil_append, List.length_cons, List.length_nil, List.replicate, List.getElem?_cons_zero, List.getElem?_cons_succ, List.set_cons_zero, List.set_cons_succ, id, decide_eq_true_eq, if_true, if_false, Bool.false_eq_true, reduceIte, Bool.not_true, Bool.not_false, true_and, Nat.reduceAdd, Nat.reduceSub, Int.reduceToNat, Int.toNat_natCast, put_same, put_put, atI_0, atI_1, atI_2, atI_3, atI_4, ixN_40, ixN_41, ixN_42, ixN_43])
theorem same_d {d : D} {M : Mu} {Q : DK} {E : DX} (h : pln 8 d = true) (q : Q (.bl true) M) : sp_l_same 8 [d, d] M Q E := by
  refine ⟨_, _, rfl, by rw [vw_pln _ h]; exact h, by rw [vw_pln _ h]; exact h, ?_⟩
  rw [vw_pln _ h, eqD_refl]
  exact q
theorem pln_int {b : Int} : pln 8 (.int b) = true := by unfold pln; rfl
theorem same_int {b : Int} {M : Mu} {Q : DK} {E : DX} (q : Q (.bl true) M) : sp_l_same 8 [.int b, .int b] M Q E := same_d pln_int q
abbrev KV := List (Tx × D)
def kvD (q : Tx × D) : DKey × D := (.inr q.1, q.2)
def getV (nk : KV) (t : Tx) : Option D := (nk.find? fun q => decide (q.1 = t)).map (·.2)
def putV (nk : KV) (t : Tx) (d : D) : KV := if (nk.any fun q => decide (q.1 = t)) = true then nk.map (fun q => if q.1 = t then (q.1, d) else q) else nk ++ [(t, d)]
theorem inr_dec (a t : Tx) : decide ((Sum.inr a : DKey) = .inr t) = decide (a = t) := decide_eq_decide.mpr ⟨fun e => by injection e, fun e => by rw [e]⟩
theorem lookK_kv (nk : KV) (t : Tx) : lookK (nk.map kvD) (.inr t) = getV nk t := by
  unfold lookK getV
  induction nk with
  | nil => rfl
  | cons a r ih =>
    rw [List.map_cons, List.find?_cons, List.find?_cons, show (kvD a).1 = Sum.inr a.1 from rfl, inr_dec]
    cases decide (a.1 = t) with
    | true => rfl
    | false => exact ih
theorem putD_kv (nk : KV) (t : Tx) (d : D) : putD (nk.map kvD) (.inr t) d = (putV nk t d).map kvD := by
  unfold putD putV
  rw [List.any_map]
  have e : ((fun q : DKey × D => decide (q.1 = Sum.inr t)) ∘ kvD) = fun q : Tx × D => decide (q.1 = t) := by funext q; exact inr_dec q.1 t
  rw [e]
  split
  · rw [List.map_map, List.map_map]
    refine List.map_congr_left fun q _ => ?_
    show (if (Sum.inr q.1 : DKey) = .inr t then ((Sum.inr q.1 : DKey), d) else kvD q) = kvD (if q.1 = t then (q.1, d) else q)
    by_cases h : q.1 = t
    · rw [if_pos h, if_pos (by rw [h])]; rfl
    · rw [if_neg h, if_neg (fun z => h (by injection z))]
  · rw [List.map_append]; rfl
theorem keysOf_kv (nk : KV) : keysOf (nk.map kvD) = txs (nk.map (·.1)) := by
  unfold keysOf txs
  rw [List.map_map, List.map_map]; rfl
theorem getV_some {nk : KV} {t : Tx} {d : D} (h : getV nk t = some d) : (t, d) ∈ nk := by
  unfold getV at h
  obtain ⟨q, h1, h2⟩ := Option.map_eq_some_iff.mp h
  have := List.find?_some h1
  have e : q.1 = t := of_decide_eq_true this
  rw [← e, ← h2]
  exact List.mem_of_find?_eq_some h1
theorem getV_none {nk : KV} {t : Tx} (h : getV nk t = none) : t ∉ nk.map (·.1) := by
  unfold getV at h
  rw [Option.map_eq_none_iff, List.find?_eq_none] at h
  intro z
  obtain ⟨q, hq, e⟩ := List.mem_map.mp z
  exact h q hq (decide_eq_true e)
theorem getV_mem {nk : KV} {t : Tx} : t ∈ nk.map (·.1) ↔ (getV nk t).isSome = true := by
  constructor
  · intro h
    cases e : getV nk t with
    | some d => rfl
    | none => exact absurd h (getV_none e)
  · intro h
    obtain ⟨d, e⟩ := Option.isSome_iff_exists.mp h
    exact List.mem_map.mpr ⟨_, getV_some e, rfl⟩
theorem putV_get (nk : KV) (t u : Tx) (d : D) : getV (putV nk t d) u = if u = t then some d else getV nk u := by
  unfold putV
  by_cases ha : (nk.any fun q => decide (q.1 = t)) = true
  · rw [if_pos ha]
    have go : ∀ l : KV, (getV (l.map fun q => if q.1 = t then (q.1, d) else q) u) = if u = t then (if (l.any fun q => decide (q.1 = t)) = true then some d else none) else getV l u := by
      intro l
      induction l with
      | nil => by_cases h : u = t <;> simp [getV, h]
      | cons a r ih =>
        unfold getV at ih ⊢
        rw [List.map_cons, List.find?_cons, List.find?_cons, List.any_cons]
        by_cases h : a.1 = t
        · rw [if_pos h, decide_eq_true h, Bool.true_or]
          by_cases h2 : u = t
          · rw [if_pos h2]
            show Option.map _ (match decide (a.1 = u) with | true => _ | false => _) = _
            rw [decide_eq_true (h.trans h2.symm)]; rfl
          · rw [if_neg h2]
            have n : decide (a.1 = u) = false := decide_eq_false fun z => h2 (z.symm.trans h)
            show Option.map _ (match decide (a.1 = u) with | true => _ | false => _) = Option.map _ (match decide (a.1 = u) with | true => _ | false => _)
            rw [n, ih, if_neg h2]
        · rw [if_neg h, decide_eq_false h, Bool.false_or]
          by_cases h2 : a.1 = u
          · rw [decide_eq_true h2]
            have h3 : u ≠ t := fun z => h (h2.trans z)
            rw [if_neg h3]
          · rw [decide_eq_false h2]
            exact ih
    rw [go nk, if_pos ha]
  · rw [if_neg ha]
    unfold getV
    rw [List.find?_append]
    by_cases h : u = t
    · rw [if_pos h]
      have e : (nk.find? fun q => decide (q.1 = u)) = none := by
        rw [List.find?_eq_none]
        intro q hq z
        exact ha (List.any_eq_true.mpr ⟨q, hq, by rw [← h]; exact z⟩)
      rw [e, Option.none_or, List.find?_cons, h, decide_eq_true rfl]; rfl
    · rw [if_neg h, List.find?_cons, List.find?_nil]
      have n : decide (t = u) = false := decide_eq_false (Ne.symm h)
      rw [n, Option.or_none]
theorem putV_keys (nk : KV) (t : Tx) (d : D) : (putV nk t d).map (·.1) = if t ∈ nk.map (·.1) then nk.map (·.1) else nk.map (·.1) ++ [t] := by
  unfold putV
  by_cases ha : (nk.any fun q => decide (q.1 = t)) = true
  · have hm : t ∈ nk.map (·.1) := by
      obtain ⟨q, hq, e⟩ := List.any_eq_true.mp ha
      exact List.mem_map.mpr ⟨q, hq, of_decide_eq_true e⟩
    rw [if_pos ha, if_pos hm, List.map_map]
    refine List.map_congr_left fun q _ => ?_
    show (if q.1 = t then (q.1, d) else q).1 = q.1
    split <;> rfl
  · have hm : t ∉ nk.map (·.1) := fun z => by
      obtain ⟨q, hq, e⟩ := List.mem_map.mp z
      exact ha (List.any_eq_true.mpr ⟨q, hq, decide_eq_true e⟩)
    rw [if_neg ha, if_neg hm, List.map_append]; rfl
theorem putV_nodup {nk : KV} {t : Tx} {d : D} (h : (nk.map (·.1)).Nodup) : ((putV nk t d).map (·.1)).Nodup := by
  rw [putV_keys]
  split
  · exact h
  · rename_i n
    exact List.nodup_append.mpr ⟨h, List.nodup_cons.mpr ⟨List.not_mem_nil, List.nodup_nil⟩, fun a ha b hb e => n (by rw [List.mem_singleton.mp hb] at e; rw [← e]; exact ha)⟩
theorem putV_len (nk : KV) (t : Tx) (d : D) : (putV nk t d).length ≤ nk.length + 1 := by
  have := congrArg List.length (putV_keys nk t d)
  rw [List.length_map] at this
  rw [this]
  split
  · rw [List.length_map]; omega
  · rw [List.length_append, List.length_map]; exact Nat.le_refl _
theorem lcP_map {i : Nat} {vs : List Nat} {τ : DSt} {p : Addr} {te : DTE} {Nx : Mu → Prop} {M : Mu} {P : Mu → Prop} (f : Tx → D) (hP : ∀ acc, P (put M p (.lst acc))) : ∀ {ts : List Tx} (acc : List D), acc.length + ts.length ≤ 1000000 →
    (∀ t ∈ ts, ∀ acc (N : D → Mu → Prop), N (f t) (put M p (.lst acc)) → te ((wipeD τ vs).set i (some (.str t))) (put M p (.lst acc)) N noX) →
    Nx (put M p (.lst (acc ++ ts.map f))) → wTsP P (dgName i) dYes vs τ (dEm p te) Nx (txs ts) (put M p (.lst acc))
  | [], acc, _, _, h => ⟨hP _, by rw [List.map_nil, List.append_nil] at h; exact h⟩
  | t :: ts, acc, hl, he, h => by
    have hl2 : acc.length + ts.length + 1 ≤ 1000000 := by simpa [Nat.add_assoc] using hl
    refine ⟨hP _, ?_⟩
    refine he t List.mem_cons_self _ _ ⟨_, put_same, by rw [line24]; omega, ?_⟩
    rw [put_put]
    refine lcP_map f hP (acc ++ [f t]) (by rw [List.length_append, List.length_singleton]; omega) (fun u hu => he u (List.mem_cons_of_mem _ hu)) ?_
    rw [List.append_assoc]
    exact h
theorem lt_irr (a : Tx) : ¬ a < a := List.lt_irrefl a
theorem lt_tr {a b c : Tx} (h : a < b) (k : b < c) : a < c := List.lt_trans h k
theorem lt_as {a b : Tx} (h : a < b) : ¬ b < a := fun k => lt_irr a (lt_tr h k)
theorem lt_tri (a b : Tx) : a < b ∨ a = b ∨ b < a := by
  by_cases h : a < b
  · exact .inl h
  · by_cases k : b < a
    · exact .inr (.inr k)
    · exact .inr (.inl (List.le_antisymm (List.not_lt.mp k) (List.not_lt.mp h)))
theorem asc_of : ∀ {us : List Tx}, PyProof.Rows.sortedS (us.map sx) = true → us.Nodup → us.Pairwise fun a b => a < b
  | [], _, _ => List.Pairwise.nil
  | x :: r, h, nd => by
    rw [List.nodup_cons] at nd
    have go : ∀ (r : List Tx) (x : Tx), PyProof.Rows.risingS (sx x) (r.map sx) = true → ∀ y ∈ r, ¬ y < x := by
      intro r
      induction r with
      | nil => intro x _ y hy; cases hy
      | cons z r ih =>
        intro x h y hy
        have h2 : (!PySem.Spec.ltCps z x && PyProof.Rows.risingS (sx z) (r.map sx)) = true := h
        obtain ⟨h3, h4⟩ := ba h2
        rw [PyProof.Rows.ltCps_eq, Bool.not_eq_true', decide_eq_false_iff_not] at h3
        rcases List.mem_cons.mp hy with rfl | hy
        · exact h3
        · intro k
          rcases lt_tri z x with q | rfl | q
          · exact h3 q
          · exact ih z h4 y hy k
          · exact ih z h4 y hy (lt_tr k q)
    have hr : PyProof.Rows.risingS (sx x) (r.map sx) = true := h
    refine List.Pairwise.cons (fun y hy => ?_) (asc_of ?_ nd.2)
    · rcases lt_tri x y with q | rfl | q
      · exact q
      · exact absurd hy nd.1
      · exact absurd q (go r x hr y hy)
    · cases r with
      | nil => rfl
      | cons z r => exact (ba (show (!PySem.Spec.ltCps z x && PyProof.Rows.risingS (sx z) (r.map sx)) = true from hr)).2
def pD (q : Tx × Int) : D := .tup [.str q.1, .int q.2]
structure Rows (f : Tx → Int) (rows : List (Tx × Int)) : Prop where
  asc : rows.Pairwise fun a b => a.1 < b.1
  mem : ∀ t n, (t, n) ∈ rows ↔ n ≠ 0 ∧ f t = n
theorem asc_ext : ∀ {r s : List (Tx × Int)}, (r.Pairwise fun a b => a.1 < b.1) → (s.Pairwise fun a b => a.1 < b.1) → (∀ x, x ∈ r ↔ x ∈ s) → r = s
  | [], [], _, _, _ => rfl
  | [], b :: s, _, _, h => nomatch (h b).mpr List.mem_cons_self
  | a :: r, [], _, _, h => nomatch (h a).mp List.mem_cons_self
  | a :: r, b :: s, h1, h2, h => by
    obtain ⟨a1, a2⟩ := List.pairwise_cons.mp h1
    obtain ⟨b1, b2⟩ := List.pairwise_cons.mp h2
    have e : a = b := by
      rcases List.mem_cons.mp ((h a).mp List.mem_cons_self) with e | ha
      · exact e
      · rcases List.mem_cons.mp ((h b).mpr List.mem_cons_self) with e | hb
        · exact e.symm
        · exact absurd (b1 a ha) (lt_as (a1 b hb))
    subst e
    refine congrArg _ (asc_ext a2 b2 fun x => ⟨fun hx => ?_, fun hx => ?_⟩)
    · rcases List.mem_cons.mp ((h x).mp (List.mem_cons_of_mem _ hx)) with rfl | h3
      · exact absurd (a1 x hx) (lt_irr _)
      · exact h3
    · rcases List.mem_cons.mp ((h x).mpr (List.mem_cons_of_mem _ hx)) with rfl | h3
      · exact absurd (b1 x hx) (lt_irr _)
      · exact h3
theorem Rows.uniq {f : Tx → Int} {r s : List (Tx × Int)} (h : Rows f r) (k : Rows f s) : r = s := asc_ext h.asc k.asc fun ⟨t, n⟩ => (h.mem t n).trans (k.mem t n).symm
def updF (f : Tx → Int) (t : Tx) (n : Int) : Tx → Int := fun u => if u = t then n else f u
def hereR (t : Tx) (n : Int) : List (Tx × Int) := if n ≠ 0 then [(t, n)] else []
def setRw (rows : List (Tx × Int)) (t : Tx) (n : Int) : List (Tx × Int) := rows.filter (fun q => ltT q.1 t) ++ hereR t n ++ rows.filter fun q => ltT t q.1
theorem mem_here {t u : Tx} {n m : Int} : (u, m) ∈ hereR t n ↔ n ≠ 0 ∧ u = t ∧ m = n := by
  unfold hereR
  split
  · rename_i h
    simp [h]
  · rename_i h
    have : n = 0 := by omega
    simp [this]
theorem Rows.set {f : Tx → Int} {rows : List (Tx × Int)} (h : Rows f rows) (t : Tx) (n : Int) : Rows (updF f t n) (setRw rows t n) := by
  have l1 : ∀ q ∈ rows.filter (fun q => ltT q.1 t), q.1 < t := fun q hq => of_decide_eq_true (List.mem_filter.mp hq).2
  have l2 : ∀ q ∈ rows.filter (fun q => ltT t q.1), t < q.1 := fun q hq => of_decide_eq_true (List.mem_filter.mp hq).2
  have l3 : ∀ q ∈ hereR t n, q.1 = t := fun q hq => (mem_here.mp hq).2.1
  constructor
  · unfold setRw
    refine List.pairwise_append.mpr ⟨List.pairwise_append.mpr ⟨h.asc.filter _, ?_, fun a ha b hb => by rw [l3 b hb]; exact l1 a ha⟩, h.asc.filter _, fun a ha b hb => ?_⟩
    · unfold hereR
      split
      · exact List.Pairwise.cons (fun _ h => nomatch h) List.Pairwise.nil
      · exact List.Pairwise.nil
    · rcases List.mem_append.mp ha with ha | ha
      · exact lt_tr (l1 a ha) (l2 b hb)
      · rw [l3 a ha]; exact l2 b hb
  · intro u m
    unfold setRw updF
    rw [List.mem_append, List.mem_append, mem_here, List.mem_filter, List.mem_filter, h.mem]
    show ((m ≠ 0 ∧ f u = m) ∧ decide (u < t) = true ∨ _) ∨ (m ≠ 0 ∧ f u = m) ∧ decide (t < u) = true ↔ _
    rw [decide_eq_true_iff, decide_eq_true_iff]
    by_cases e : u = t
    · subst e
      rw [if_pos rfl]
      constructor
      · rintro ((⟨_, z⟩ | ⟨z1, _, z2⟩) | ⟨_, z⟩)
        · exact absurd z (lt_irr _)
        · exact ⟨by rw [z2]; exact z1, z2.symm⟩
        · exact absurd z (lt_irr _)
      · rintro ⟨z1, z2⟩
        exact .inl (.inr ⟨by rw [z2]; exact z1, rfl, z2.symm⟩)
    · rw [if_neg e]
      constructor
      · rintro ((⟨z, _⟩ | ⟨_, z, _⟩) | ⟨z, _⟩)
        · exact z
        · exact absurd z e
        · exact z
      · intro z
        rcases lt_tri u t with q | q | q
        · exact .inl (.inl ⟨z, q⟩)
        · exact absurd q e
        · exact .inr ⟨z, q⟩
theorem nodup_sub : ∀ {as bs : List Tx}, as.Nodup → (∀ t ∈ as, t ∈ bs) → as.length ≤ bs.length
  | [], _, _, _ => Nat.zero_le _
  | a :: as, bs, nd, h => by
    rw [List.nodup_cons] at nd
    have hb := h a List.mem_cons_self
    have ih := nodup_sub (bs := bs.erase a) nd.2 fun t ht => (List.mem_erase_of_ne (fun e : t = a => nd.1 (by rw [← e]; exact ht))).mpr (h t (List.mem_cons_of_mem _ ht))
    rw [List.length_erase_of_mem hb] at ih
    have : 0 < bs.length := List.length_pos_of_mem hb
    rw [List.length_cons]
    omega
theorem Rows.len {f : Tx → Int} {rows : List (Tx × Int)} {ks : List Tx} (h : Rows f rows) (hk : ∀ t, f t ≠ 0 → t ∈ ks) : rows.length ≤ ks.length := by
  have nd : (rows.map (·.1)).Nodup := by
    have : (rows.map (·.1)).Pairwise (· < ·) := List.pairwise_map.mpr h.asc
    exact this.imp fun {a b} (h : a < b) => (fun e : a = b => lt_irr b (by rw [e] at h; exact h))
  have sub : ∀ t ∈ rows.map (·.1), t ∈ ks := fun t ht => by
    obtain ⟨⟨u, n⟩, hq, rfl⟩ := List.mem_map.mp ht
    have := (h.mem u n).mp hq
    exact hk _ (by rw [this.2]; exact this.1)
  have l := nodup_sub nd sub
  rw [List.length_map] at l
  exact l
theorem pln_pD {rows : List (Tx × Int)} (h : rows.length ≤ 1000000) : pln 8 (.lst (rows.map pD)) = true := by
  unfold pln plnIn
  rw [List.length_map, decide_eq_true h, Bool.true_and]
  refine plns_of fun d hd => ?_
  obtain ⟨q, _, rfl⟩ := List.mem_map.mp hd
  unfold pD pln plnIn
  rw [show decide (([.str q.1, .int q.2] : List D).length ≤ 1000000) = true from rfl, Bool.true_and]
  refine plns_of fun d hd => ?_
  simp only [List.mem_cons, List.not_mem_nil, or_false] at hd
  rcases hd with rfl | rfl <;> (unfold pln; rfl)
def lastF (ps : List (Tx × Int)) : Tx → Int := ps.foldl (fun f q => updF f q.1 q.2) fun _ => 0
theorem lastF_snoc (ps : List (Tx × Int)) (q : Tx × Int) : lastF (ps ++ [q]) = updF (lastF ps) q.1 q.2 := by unfold lastF; rw [List.foldl_append]; rfl
end DL
namespace DL
open PySem L2
local macro_rules | `(tactic| walk_at "dl") => `(tactic| try simp (config := { proj := false }) only [↓ex_mk, ↓nx_mk, ↓rt_mk, ↓bk_mk, ↓ct_mk, ↓xc_mk, ↓u_c, ↓u_op, ↓u_un, ↓u_and, ↓u_or, ↓u_not, ↓u_if, ↓u_anil, ↓u_acons, ↓u_lst, ↓u_lstM, ↓u_tup, ↓u_call, ↓u_sl, ↓u_onone, ↓u_cb, ↓u_mt, ↓u_mt0, ↓u_pass, ↓u_seq, ↓u_set, ↓u_asg, ↓u_drop, ↓u_ret, ↓u_retN, ↓u_ifs, ↓u_brk, ↓u_cnt, ↓u_for, ↓u_gname, ↓u_gsub, ↓u_fs, ↓u_fmt, ↓u_js0, ↓u_js, ↓u_em, ↓u_yes, ↓u_never, ↓u_ref, ↓u_forR, ↓u_star, ↓u_dict, ↓u_dict0, ↓u_dp0, ↓u_dp1, ↓u_forK, ↓u_lock, ↓u_kd, ↓u_fld, ↓u_setF, ↓u_make, ↓u_binL, ↓u_binR, ↓u_inO, ↓u_getO, ↓u_setO, ↓u_augO, ↓u_prp, ↓u_inv, ↓u_meth, ↓u_keys, ↓u_try, ↓u_cm, ↓u_makeV, ↓r_enum, ↓r_own, ↓u_raise, ↓u_tryas, ↓u_ca, ↓u_xf, ↓u_idxC, su_mk,
  ↓r_var, ↓r_test, ↓r_andV, ↓r_orV, ↓r_notV, ↓r_tru, ↓r_frz, ↓r_osome, ↓r_any, ↓r_scr, scr_c, ↓r_rng1, ↓r_rng2, ↓r_fz, wipeD,
  onSome_s, onBl_b, onInt_i, onStr_s, onVar_s, onML_l, onML2_l, onML2_d, onDK_d, fmt_s, fmt_i, tru_n, tru_b, tru_i, tru_s, tru_l, tru_t, tru_r, frz_r, sl_s, sl_l, sl_t, sl_r, add_i, add_s, add_l, add_t, add_rl, add_lr, sub_i, mul_i, div_i, mod_i, pow_i, neg_i, cmp_i, eq_i, eq_s, eq_b, eq_n, eq_l, eq_t, eq_rl, eq_lr, eq_ni, eq_in, eq_ns, eq_sn, eq_nb, eq_bn, eq_is, eq_si,
  ix_l, ix_t, ix_s, ix_ri, ix_rs, in_ss, in_l, in_t, in_ir, in_sr, isB_t, isB_f, ltS_s, gtS_s, sorted_l, keyK_s, keyK_i, u_dget, lenOR_r, listOR_r, isn_n, isn_b, isn_i, isn_s, isn_r, isn_l, isn_t, len_s, len_c, len_l, len_t, len_r, int_i, int_b, min_ii, max_ii, list_l, list_t, list_r, list_c, listM_l, listM_c, listM_t, listM_r, isi_, isi_k, ty_n, ty_b, ty_i, ty_s, ty_l, ty_t, it_s, it_l, it_r, itM_l, itM_d, app_r, rev_r, ends_s, ins_r, set_rs, str_i, str_s, ext_l, pop_r, clr_r, star_l, star_t, star_r, onRef_r, onML3_l, onML3_d, onML3_f, onDR_d, onDR_f, onFK_f, join_l, join_t, join_r, starts_s, r_gtup, r_glst, r_gnil, r_gcons, set_r, items_s, items_l, items_t, rng1_i, rng2_i, fz_r, addM_l, addM_rl, onIns_i, onLst_l, isIns_r, isInsM_i, noF_r, noFM_i, rows_r, lenO_r, listO_r, listOM_r, isCK_i, isCK_l, isC_r, isC_s, isC_i, isC_b, isC_n, isC_l, isC_t, putG_0, putG_1, lk_1, onCl_c, onEnum_l, index_l, strO_r, cmpO_r, pop1_r, tuple_l, tuple_t, divmod_i, upper_s, indexT_t, onExc_e, isE_t, isE_c, isE_v, zip_1,
  List.map_cons, List.map_nil, List.cons_append, List.nil_append, List.length_cons, List.length_nil, List.replicate, List.getElem?_cons_zero, List.getElem?_cons_succ, List.set_cons_zero, List.set_cons_succ, id, decide_eq_true_eq, if_true, if_false, Bool.false_eq_true, reduceIte, Bool.not_true, Bool.not_false, true_and, Nat.reduceAdd, Nat.reduceSub, Int.reduceToNat, Int.toNat_natCast, put_same, put_put, atI_0, atI_1, atI_2, atI_3, atI_4, ixN_40, ixN_41, ixN_42, ixN_43])
structure NumAt (M : Mu) (q : Addr) (f : Tx → Int) (L : Nat) : Prop where
  ex : ∃ nk : KV, M q = some (.dK (nk.map kvD)) ∧ (nk.map (·.1)).Nodup ∧ (∀ t d, getV nk t = some d → d = .int (f t)) ∧ (∀ t, getV nk t = none → f t = 0) ∧ nk.length ≤ L
theorem NumAt.at_ {M M' : Mu} {q : Addr} {f : Tx → Int} {L : Nat} (h : NumAt M q f L) (e : M' q = M q) : NumAt M' q f L := by
  obtain ⟨nk, h1, h2⟩ := h.ex
  exact ⟨nk, e.trans h1, h2⟩
theorem NumAt.xt {M M' : Mu} {q : Addr} {f : Tx → Int} {L : Nat} (h : NumAt M q f L) (x : Xt M M') : NumAt M' q f L := by
  obtain ⟨nk, h1, h2⟩ := h.ex
  exact ⟨nk, x q _ h1, h2⟩
theorem num_nil {M : Mu} {q : Addr} (h : M q = some (.dK [])) : NumAt M q (fun _ => 0) 0 := ⟨[], h, List.nodup_nil, (fun t d e => by simp [getV] at e), (fun _ _ => rfl), Nat.le_refl _⟩
theorem num_put {M : Mu} {q : Addr} {f : Tx → Int} {L : Nat} {nk : KV} (h2 : (nk.map (·.1)).Nodup) (h3 : ∀ t d, getV nk t = some d → d = .int (f t)) (h4 : ∀ t, getV nk t = none → f t = 0) (h5 : nk.length ≤ L) (t : Tx) (n : Int) :
    NumAt (put M q (.dK (putD (nk.map kvD) (.inr t) (.int n)))) q (updF f t n) (L + 1) := by
  rw [putD_kv]
  refine ⟨putV nk t (.int n), put_same, putV_nodup h2, fun u d e => ?_, fun u e => ?_, by have := putV_len nk t (.int n); omega⟩
  · rw [putV_get] at e
    unfold updF
    by_cases k : u = t
    · rw [if_pos k] at e
      rw [if_pos k]
      injection e with e
      exact e.symm
    · rw [if_neg k] at e
      rw [if_neg k]
      exact h3 u d e
  · rw [putV_get] at e
    unfold updF
    by_cases k : u = t
    · rw [if_pos k] at e; cases e
    · rw [if_neg k] at e
      rw [if_neg k]
      exact h4 u e
theorem lastF_keys {f : Tx → Int} : ∀ {ks : List Tx}, ks.Nodup → (∀ t, t ∉ ks → f t = 0) → lastF (ks.map fun t => (t, f t)) = f := by
  have go : ∀ (ks : List Tx) (g : Tx → Int), (ks.map fun t => (t, f t)).foldl (fun f q => updF f q.1 q.2) g = fun u => if u ∈ ks then f u else g u := by
    intro ks
    induction ks with
    | nil => intro g; funext u; simp
    | cons t r ih =>
      intro g
      rw [List.map_cons, List.foldl_cons, ih]
      funext u
      unfold updF
      by_cases h : u ∈ r
      · simp [h]
      · by_cases k : u = t
        · simp [h, k]
        · simp [h, k]
  intro ks nd h
  unfold lastF
  rw [go]
  funext u
  by_cases k : u ∈ ks
  · rw [if_pos k]
  · rw [if_neg k, h u k]
theorem Xt.lock {M M' : Mu} {a : Addr} {kvs : List (DKey × D)} {u : HO} (h : M a = some (.dK kvs)) (x : Xt (DL.put M a (.fK kvs u)) M') : Xt M (DL.put M' a (.dK kvs)) := fun b o e => by
  by_cases z : b = a
  · rw [z, h] at e
    cases e
    rw [z, put_same]
  · rw [put_ne z]
    exact x b o (by rw [put_ne z]; exact e)
def sp_l_ordered : DSp := fun ds M Q _ => ∃ ps : List (Tx × Int), ds = [.lst (ps.map pD)] ∧ ps.length ≤ 100000 ∧ ∀ rows M', Rows (lastF ps) rows → Xt M M' → Q (.lst (rows.map pD)) M'
def w_l_ordered_b1 : DTS := dAsg (dVar 3) (dgSub (dVar 1) (dVar 2) gSetA)
def w_l_ordered_b2 : DTS := dIfS (dTest (dOp gNe (dOp gIx (dVar 1) (dVar 2)) (dC (.int 0)))) (dDrop (dMt "list" gAppend (dVar 4) (daCons (dTup (daCons (dVar 2) (daCons (dOp gIx (dVar 1) (dVar 2)) (daNil)))) (daNil)))) (dPass)
def w_l_ordered_c3 : DTS := dSeq (dSet 4 (dLstM (daNil))) (dSeq (dLock 1 (dFor (diAny (dCB gSorted (daCons (dFrz (dLcP (diKeys (dVar 1)) (dgName 5) (dYes) [5] (dCB gStr1 (daCons (dVar 5) (daNil))))) (daNil)))) (dgName 2) (w_l_ordered_b2))) (dRet (dFrz (dVar 4))))
def w_l_ordered : DTS := dSeq (dSet 1 (dDict0)) (dSeq (dFor (diAny (dVar 0)) (dgTup 2 (dgCons 2 (dgCons 3 (dgNil)))) (w_l_ordered_b1)) (w_l_ordered_c3))
theorem p_l_ordered : ∀ ds M Q E, sp_l_ordered ds M Q E → w_l_ordered (Ret Q E) (ds.map some ++ List.replicate (6 - 1) none) M := by
  rintro ds M Q E ⟨ps, rfl, hl, hQ⟩
  unfold w_l_ordered
  walk_at "dl"
  intro q hq
  walk_at "dl"
  refine wFor_by (fun i τ M' => (∃ x2 x3, τ = [some (.lst (ps.map pD)), some (.ref q), x2, x3, none, none]) ∧ (∀ b, b ≠ q → M' b = M b) ∧ NumAt M' q (lastF (ps.take i)) i) ⟨⟨_, _, rfl⟩, fun b hb => put_ne hb, num_nil put_same⟩ ?_ ?_
  · rintro i d τ M' hd ⟨⟨x2, x3, rfl⟩, hb, hn⟩ nxt hnx
    obtain ⟨⟨t, n⟩, hx, rfl⟩ := map_at hd
    obtain ⟨nk, h1, h2, h3, h4, h5⟩ := hn.ex
    have hi := (List.getElem?_eq_some_iff.mp hx).1
    unfold pD
    walk_at "dl"
    unfold w_l_ordered_b1
    iterate 10 ((try simp only [h1]); walk_at "dl")
    rw [List.length_map]
    refine ⟨by omega, hnx _ _ ⟨⟨_, _, rfl⟩, fun b hb2 => by rw [put_ne hb2, hb b hb2], ?_⟩⟩
    have e : lastF (ps.take (i + 1)) = updF (lastF (ps.take i)) t n := by rw [List.take_succ, hx]; exact lastF_snoc _ _
    rw [e]
    exact num_put h2 h3 h4 h5 t n
  · rintro τ M' ⟨⟨x2, x3, rfl⟩, hb, hn⟩
    rw [List.length_map, List.take_length] at hn
    obtain ⟨nk, h1, h2, h3, h4, h5⟩ := hn.ex
    unfold w_l_ordered_c3
    walk_at "dl"
    refine ⟨by decide, fun r hr => ?_⟩
    have nr : q ≠ r := fun z => by rw [← z, h1] at hr; cases hr
    have hM0 : M r = none := by rw [← hb r (Ne.symm nr)]; exact hr
    iterate 10 ((try simp only [put_ne nr, h1]); walk_at "dl")
    intro u
    try simp only [dLcP, put_same]
    walk_at "dl"
    try simp only [dLcP, put_same]
    walk_at "dl"
    intro v hv
    have nv : q ≠ v := fun z => by rw [z, put_same] at hv; cases hv
    have nrv : r ≠ v := fun z => by rw [z, put_ne (Ne.symm (z ▸ nv)), put_same] at hv; cases hv
    rw [keysOf_kv]
    refine lcP_map (f := fun t => .str t) (fun acc => by rw [put_ne nv]; exact put_same) [] (by rw [List.length_nil, List.length_map]; omega) (fun t ht acc N h => ?_) ?_
    · walk_at "dl"
      exact h
    · iterate 10 ((try simp only [put_same, del_put_new hv, List.nil_append]); walk_at "dl")
      refine ⟨nk.map (·.1), rfl, fun us hp hsort => ?_⟩
      have asc := asc_of hsort (hp.nodup_iff.mpr h2)
      have lus : us.length ≤ 100000 := by rw [hp.length_eq, List.length_map]; omega
      have mus : ∀ t, t ∈ us → (getV nk t) = some (.int (lastF ps t)) := fun t ht => by
        have := getV_mem.mp (hp.mem_iff.mp ht)
        obtain ⟨d, e⟩ := Option.isSome_iff_exists.mp this
        rw [e, h3 t d e]
      refine wFor_by (fun i τ M2 => (∃ x2, τ = [some (.lst (ps.map pD)), some (.ref q), x2, x3, some (.ref r), none]) ∧ (∀ b, b ≠ q → b ≠ r → M2 b = M b) ∧ M2 q = some (.fK (nk.map kvD) u) ∧
        M2 r = some (.lst (((((us.take i).map fun t => (t, lastF ps t)).filter fun q => decide (q.2 ≠ 0)).map pD)))) ⟨⟨_, rfl⟩, fun b h1 h2 => by rw [put_ne h1, put_ne h2, hb b h1], put_same, by rw [put_ne (Ne.symm nr), put_same]; rfl⟩ ?_ ?_
      · rintro i d τ M2 hd ⟨⟨x2, rfl⟩, hb2, hq2, hr2⟩ nxt hnx
        obtain ⟨t, ht, rfl⟩ := map_at hd
        have hg := mus t (List.mem_of_getElem? ht)
        have hi := (List.getElem?_eq_some_iff.mp ht).1
        have ll : (((us.take i).map fun t => (t, lastF ps t)).filter fun q => decide (q.2 ≠ 0)).length ≤ 100000 := Nat.le_trans (List.length_filter_le _ _) (by rw [List.length_map, List.length_take]; omega)
        unfold w_l_ordered_b2
        iterate 10 ((try simp only [hq2, lookK_kv, hg]); walk_at "dl")
        by_cases h0 : lastF ps t = 0
        · rw [if_neg (by simpa using h0)]
          refine hnx _ _ ⟨⟨_, rfl⟩, hb2, hq2, ?_⟩
          rw [hr2, List.take_succ, ht, List.map_append, List.filter_append]
          simp [h0]
        · rw [if_pos (by simpa using h0)]
          iterate 10 ((try simp only [hr2, hq2, lookK_kv, hg]); walk_at "dl")
          simp only [List.length_map]
          refine ⟨by first | omega | decide, by first | omega | decide, hnx _ _ ⟨⟨_, rfl⟩, fun b h1 h2 => by rw [put_ne h2, hb2 b h1 h2], by rw [put_ne nr]; exact hq2, ?_⟩⟩
          rw [put_same, List.take_succ, ht, List.map_append, List.filter_append, List.map_append]
          simp [h0, pD]
      · rintro τ M2 ⟨⟨x2, rfl⟩, hb2, hq2, hr2⟩
        rw [List.length_map, List.take_length] at hr2
        refine ⟨hq2, ?_⟩
        iterate 10 ((try simp only [put_ne (Ne.symm nr), hr2]); walk_at "dl")
        refine hQ _ _ ⟨?_, fun t n => ?_⟩ fun b o e => ?_
        · exact ((List.pairwise_map (f := fun t => (t, lastF ps t))).mpr asc).filter _
        · rw [List.mem_filter, List.mem_map]
          constructor
          · rintro ⟨⟨v, hv, e⟩, z⟩
            cases e
            exact ⟨of_decide_eq_true z, rfl⟩
          · rintro ⟨z, e⟩
            refine ⟨⟨t, ?_, by rw [e]⟩, decide_eq_true z⟩
            refine hp.mem_iff.mpr (getV_mem.mpr ?_)
            cases g : getV nk t with
            | some d => rfl
            | none => exact absurd (e.symm.trans (h4 t g)) z
        · have nb : b ≠ q := fun z => by rw [z, hq] at e; cases e
          have nb2 : b ≠ r := fun z => by rw [z, hM0] at e; cases e
          rw [del_ne nb2, put_ne nb, hb2 b nb nb2]
          exact e
end DL
namespace DL
open PySem L2
local macro_rules | `(tactic| walk_at "dl") => `(tactic| try simp (config := { proj := false }) only [↓ex_mk, ↓nx_mk, ↓rt_mk, ↓bk_mk, ↓ct_mk, ↓xc_mk, ↓u_c, ↓u_op, ↓u_un, ↓u_and, ↓u_or, ↓u_not, ↓u_if, ↓u_anil, ↓u_acons, ↓u_lst, ↓u_lstM, ↓u_tup, ↓u_call, ↓u_sl, ↓u_onone, ↓u_cb, ↓u_mt, ↓u_mt0, ↓u_pass, ↓u_seq, ↓u_set, ↓u_asg, ↓u_drop, ↓u_ret, ↓u_retN, ↓u_ifs, ↓u_brk, ↓u_cnt, ↓u_for, ↓u_gname, ↓u_gsub, ↓u_fs, ↓u_fmt, ↓u_js0, ↓u_js, ↓u_em, ↓u_yes, ↓u_never, ↓u_ref, ↓u_forR, ↓u_star, ↓u_dict, ↓u_dict0, ↓u_dp0, ↓u_dp1, ↓u_forK, ↓u_lock, ↓u_kd, ↓u_fld, ↓u_setF, ↓u_make, ↓u_binL, ↓u_binR, ↓u_inO, ↓u_getO, ↓u_setO, ↓u_augO, ↓u_prp, ↓u_inv, ↓u_meth, ↓u_keys, ↓u_try, ↓u_cm, ↓u_makeV, ↓r_enum, ↓r_own, ↓u_raise, ↓u_tryas, ↓u_ca, ↓u_xf, ↓u_idxC, su_mk,
  ↓r_var, ↓r_test, ↓r_andV, ↓r_orV, ↓r_notV, ↓r_tru, ↓r_frz, ↓r_osome, ↓r_any, ↓r_scr, scr_c, ↓r_rng1, ↓r_rng2, ↓r_fz, wipeD,
  onSome_s, onBl_b, onInt_i, onStr_s, onVar_s, onML_l, onML2_l, onML2_d, onDK_d, fmt_s, fmt_i, tru_n, tru_b, tru_i, tru_s, tru_l, tru_t, tru_r, frz_r, sl_s, sl_l, sl_t, sl_r, add_i, add_s, add_l, add_t, add_rl, add_lr, sub_i, mul_i, div_i, mod_i, pow_i, neg_i, cmp_i, eq_i, eq_s, eq_b, eq_n, eq_l, eq_t, eq_rl, eq_lr, eq_ni, eq_in, eq_ns, eq_sn, eq_nb, eq_bn, eq_is, eq_si,
  ix_l, ix_t, ix_s, ix_ri, ix_rs, in_ss, in_l, in_t, in_ir, in_sr, isB_t, isB_f, ltS_s, gtS_s, sorted_l, keyK_s, keyK_i, u_dget, lenOR_r, listOR_r, isn_n, isn_b, isn_i, isn_s, isn_r, isn_l, isn_t, len_s, len_c, len_l, len_t, len_r, int_i, int_b, min_ii, max_ii, list_l, list_t, list_r, list_c, listM_l, listM_c, listM_t, listM_r, isi_, isi_k, ty_n, ty_b, ty_i, ty_s, ty_l, ty_t, it_s, it_l, it_r, itM_l, itM_d, app_r, rev_r, ends_s, ins_r, set_rs, str_i, str_s, ext_l, pop_r, clr_r, star_l, star_t, star_r, onRef_r, onML3_l, onML3_d, onML3_f, onDR_d, onDR_f, onFK_f, join_l, join_t, join_r, starts_s, r_gtup, r_glst, r_gnil, r_gcons, set_r, items_s, items_l, items_t, rng1_i, rng2_i, fz_r, addM_l, addM_rl, onIns_i, onLst_l, isIns_r, isInsM_i, noF_r, noFM_i, rows_r, lenO_r, listO_r, listOM_r, isCK_i, isCK_l, isC_r, isC_s, isC_i, isC_b, isC_n, isC_l, isC_t, putG_0, putG_1, lk_1, onCl_c, onEnum_l, index_l, strO_r, cmpO_r, pop1_r, tuple_l, tuple_t, divmod_i, upper_s, indexT_t, onExc_e, isE_t, isE_c, isE_v, zip_1,
  List.map_cons, List.map_nil, List.cons_append, List.nil_append, List.length_cons, List.length_nil, List.replicate, List.getElem?_cons_zero, List.getElem?_cons_succ, List.set_cons_zero, List.set_cons_succ, id, decide_eq_true_eq, if_true, if_false, Bool.false_eq_true, reduceIte, Bool.not_true, Bool.not_false, true_and, Nat.reduceAdd, Nat.reduceSub, Int.reduceToNat, Int.toNat_natCast, put_same, put_put, atI_0, atI_1, atI_2, atI_3, atI_4, ixN_40, ixN_41, ixN_42, ixN_43])
def headM (x : Tx) : Bool := match x with
  | c :: _ => isM c
  | [] => false
def beneath (i o : Tx) : Bool := decide (o.length < i.length) && (o.isPrefixOf i && headM (i.drop o.length))
def sp_lies_beneath : DSp := fun ds M Q _ => ∃ i o, ds = [.str i, .str o] ∧ i.length ≤ 1000000 ∧ o.length ≤ 1000000 ∧ Q (.bl (beneath i o)) M
def headC (x : Tx) : Bool := match x with
  | c :: _ => c == 94
  | [] => false
def relW (m t rest : List Tx) (w : Tx) : Tx := if m.take (min m.length t.length) ≠ t.take (min m.length t.length) ∨ rest = [] then T "apart" else if rest.any headC = true then w ++ T "box" else w
def relL (x y : Tx) : Tx := if partsF x = partsF y then T "same" else if (partsF y).length < (partsF x).length then relW (partsF x) (partsF y) ((partsF x).drop (partsF y).length) (T "over") else relW (partsF x) (partsF y) ((partsF y).drop (partsF x).length) (T "under")
def sp_l_relation : DSp := fun ds M Q _ => ∃ x y, ds = [.str x, .str y] ∧ x.length ≤ 1000000 ∧ y.length ≤ 1000000 ∧ okT x ∧ okT y ∧ Q (.str (relL x y)) M
def w_lies_beneath : DTS := dRet (dAndV (dOp gGt (dCB gLen (daCons (dVar 0) (daNil))) (dCB gLen (daCons (dVar 1) (daNil)))) (dAndV (dMt "str" gStarts (dVar 0) (daCons (dVar 1) (daNil))) (dOp gIn (dOp gIx (dVar 0) (dCB gLen (daCons (dVar 1) (daNil)))) (dC (.str [46, 94])))))
def w_l_relation_b1 : DTS := dIfS (dTest (dOp gEq (dOp gIx (dVar 7) (dC (.int 0))) (dC (.str [94])))) (dRet (dOp gAdd (dVar 4) (dC (.str (T "box"))))) (dPass)
def w_l_relation_c2 : DTS := dSeq (dFor (diAny (dVar 5)) (dgName 7) (w_l_relation_b1)) (dRet (dVar 4))
def w_l_relation_c3 : DTS := dSeq (dSet 6 (dCB gMin2 (daCons (dCB gLen (daCons (dVar 2) (daNil))) (daCons (dCB gLen (daCons (dVar 3) (daNil))) (daNil))))) (dSeq (dIfS (dOr (dTest (dOp gNe (dSl (dVar 2) (doNone) (doSome (dVar 6))) (dSl (dVar 3) (doNone) (doSome (dVar 6))))) (dTest (dOp gEq (dVar 5) (dLst (daNil))))) (dRet (dC (.str (T "apart")))) (dPass)) (w_l_relation_c2))
def w_l_relation : DTS := dSeq (dSet 2 (dCall sp_l_parts (daCons (dVar 0) (daNil)))) (dSeq (dSet 3 (dCall sp_l_parts (daCons (dVar 1) (daNil)))) (dSeq (dSet 4 (dC (.str (T "under")))) (dSeq (dSet 5 (dSl (dVar 3) (doSome (dCB gLen (daCons (dVar 2) (daNil)))) (doNone))) (dSeq (dIfS (dTest (dOp gEq (dVar 2) (dVar 3))) (dRet (dC (.str (T "same")))) (dPass)) (dSeq (dIfS (dTest (dOp gGt (dCB gLen (daCons (dVar 2) (daNil))) (dCB gLen (daCons (dVar 3) (daNil))))) (dSeq (dSet 4 (dC (.str (T "over")))) (dSet 5 (dSl (dVar 2) (doSome (dCB gLen (daCons (dVar 3) (daNil)))) (doNone)))) (dPass)) (w_l_relation_c3))))))
theorem p_lies_beneath : ∀ ds M Q E, sp_lies_beneath ds M Q E → w_lies_beneath (Ret Q E) (ds.map some ++ List.replicate (2 - 2) none) M := by
  rintro ds M Q E ⟨i, o, rfl, hi, ho, hQ⟩
  unfold w_lies_beneath
  walk_at "dl"
  refine ⟨by omega, by omega, ?_⟩
  unfold beneath at hQ
  by_cases h : o.length < i.length
  · have h2 : (o.length : Int) < i.length := by omega
    rw [if_pos h2]
    rw [decide_eq_true h, Bool.true_and] at hQ
    cases hp : o.isPrefixOf i with
    | false =>
      rw [hp] at hQ
      try simp only []
      walk_at "dl"
      try simp only []
      walk_at "dl"
      exact hQ
    | true =>
      rw [hp, Bool.true_and] at hQ
      try simp only []
      walk_at "dl"
      try simp only []
      walk_at "dl"
      refine ⟨by omega, by omega, ?_⟩
      rw [atI_nat h]
      try simp only []
      walk_at "dl"
      try simp only []
      walk_at "dl"
      have e : i.drop o.length = i[o.length] :: i.drop (o.length + 1) := List.drop_eq_getElem_cons h
      rw [e] at hQ
      have e2 : decide (i[o.length] ∈ ([46, 94] : List Nat)) = isM i[o.length] := by rw [Bool.eq_iff_iff, decide_eq_true_iff]; exact mem_marks
      rw [e2]
      exact hQ
  · have h2 : ¬ (o.length : Int) < i.length := by omega
    rw [if_neg h2]
    rw [decide_eq_false h] at hQ
    exact hQ
theorem T_over : (T "over").length = 4 := by decide +kernel
theorem T_under : (T "under").length = 5 := by decide +kernel
theorem T_box : (T "box").length = 3 := by decide +kernel
theorem parts_ok {x : Tx} (h : okT x) : ∀ t ∈ partsF x, okT t := by
  obtain ⟨r, l, e, h1, h2, h3⟩ := parts_is x
  intro t ht c hc
  rw [e] at ht
  apply h
  rw [h3]
  rcases List.mem_cons.mp ht with rfl | ht
  · exact List.mem_append_left _ hc
  · exact List.mem_append_right _ (List.mem_flatten.mpr ⟨t, ht, hc⟩)
theorem parts_lens {x : Tx} : ∀ t ∈ partsF x, t.length ≤ x.length := by
  obtain ⟨r, l, e, h1, h2, h3⟩ := parts_is x
  intro t ht
  rw [e] at ht
  rw [h3, List.length_append]
  rcases List.mem_cons.mp ht with rfl | ht
  · omega
  · have : t.length ≤ l.flatten.length := by
      rw [List.length_flatten]
      obtain ⟨l1, l2, rfl⟩ := List.append_of_mem ht
      simp
      omega
    omega
theorem parts_len {x : Tx} : (partsF x).length ≤ x.length + 1 := by
  unfold partsF
  rw [List.length_append]
  have := (pst_len x).1
  show _ + 1 ≤ _
  omega
theorem map_cut {xs : List Tx} {lo hi : Option Int} : cut (xs.map D.str) lo hi = (cut xs lo hi).map D.str := by
  unfold cut
  rw [List.length_map, ← List.map_drop, ← List.map_take]
theorem rel_loop {w : Tx} {x0 x1 x2 x3 x5 x6 : Option D} {M : Mu} {D0 : DEnds} (hw : w.length ≤ 10) (hn : ∀ x7, D0.nx [x0, x1, x2, x3, some (.str w), x5, x6, x7] M = D0.rt (.str w) M) : ∀ {rest : List Tx} {x7 : Option D}, (∀ t ∈ rest, t ≠ [] ∧ t.length ≤ 1000000) → D0.rt (.str (if rest.any headC = true then w ++ T "box" else w)) M →
    wFor (dgName 7) w_l_relation_b1 D0 (rest.map D.str) [x0, x1, x2, x3, some (.str w), x5, x6, x7] M
  | [], x7, _, hQ => by
    refine wFor_nil ?_
    rw [hn]
    exact hQ
  | t :: rest, x7, h, hQ => by
    refine wFor_cons ?_
    obtain ⟨h1, h2⟩ := h t (List.mem_cons_self ..)
    unfold w_l_relation_b1
    cases t with
    | nil => exact absurd rfl h1
    | cons c t =>
      walk_at "dl"
      rw [List.length_cons] at h2
      refine ⟨by omega, ?_⟩
      by_cases hc : c = 94
      · subst hc
        rw [if_pos rfl, T_box]
        refine ⟨by omega, ?_⟩
        rw [List.any_cons, show headC (94 :: t) = true from rfl, Bool.true_or] at hQ
        exact hQ
      · rw [if_neg (fun z => hc (by simpa using z))]
        rw [List.any_cons, show headC (c :: t) = false from beq_eq_false_iff_ne.mpr hc, Bool.false_or] at hQ
        exact rel_loop hw hn (fun t ht => h t (List.mem_cons_of_mem _ ht)) hQ
theorem rel_c3 {w : Tx} {m t rest : List Tx} {x0 x1 x6 x7 : Option D} {M : Mu} {Q : DK} {E : DX} (hw : w.length ≤ 10) (hm : ∀ z ∈ m, okT z) (ht : ∀ z ∈ t, okT z) (hr : ∀ z ∈ rest, z ≠ [] ∧ z.length ≤ 1000000) (hro : ∀ z ∈ rest, okT z)
    (hQ : Q (.str (relW m t rest w)) M) :
    w_l_relation_c3 (Ret Q E) [x0, x1, some (.lst (m.map D.str)), some (.lst (t.map D.str)), some (.str w), some (.lst (rest.map D.str)), x6, x7] M := by
  unfold relW at hQ
  unfold w_l_relation_c3
  walk_at "dl"
  have hmin : (if ((t.map D.str).length : Int) < (m.map D.str).length then ((t.map D.str).length : Int) else ((m.map D.str).length : Int)) = ((min m.length t.length : Nat) : Int) := by
    rw [List.length_map, List.length_map]
    split <;> omega
  rw [hmin, map_cut, map_cut, cut_to (by omega) (by omega), cut_to (by omega) (by omega), Int.toNat_natCast]
  refine ⟨eqOk_strs fun z hz => hm z (List.mem_of_mem_take hz), eqOk_strs fun z hz => ht z (List.mem_of_mem_take hz), ?_⟩
  rw [eqvL_strs]
  by_cases h1 : m.take (min m.length t.length) = t.take (min m.length t.length)
  · rw [decide_eq_true h1]
    try simp only [Bool.not_true]
    walk_at "dl"
    try simp only [Bool.not_true]
    walk_at "dl"
    refine ⟨by decide, eqOk_strs hro, eqOk_strs (xs := []) (fun _ h => nomatch h), ?_⟩
    rw [show PyData.list (pds []) = PyData.list (pds (([] : List Tx).map D.str)) from rfl, eqvL_strs]
    by_cases h2 : rest = []
    · rw [decide_eq_true h2]
      try simp only []
      walk_at "dl"
      try simp only []
      walk_at "dl"
      rw [if_pos (.inr h2)] at hQ
      exact hQ
    · rw [decide_eq_false h2]
      try simp only []
      walk_at "dl"
      try simp only []
      walk_at "dl"
      unfold w_l_relation_c2
      rw [if_neg (fun z => z.elim (fun q => q h1) h2)] at hQ
      walk_at "dl"
      refine rel_loop hw (fun x7 => ?_) hr ?_
      · rfl
      · exact hQ
  · rw [decide_eq_false h1, Bool.not_false, if_pos rfl]
    rw [if_pos (.inl h1)] at hQ
    exact hQ
theorem part_ne {t : Tx} (h : Part t) : t ≠ [] := by
  obtain ⟨m, n, rfl, _⟩ := h
  simp
theorem rest_ok {x : Tx} {n : Nat} (hn : 0 < n) (hx : x.length ≤ 1000000) : ∀ z ∈ (partsF x).drop n, z ≠ [] ∧ z.length ≤ 1000000 := by
  intro z hz
  refine ⟨?_, Nat.le_trans (parts_lens z (List.mem_of_mem_drop hz)) hx⟩
  obtain ⟨r, l, e, h1, h2, h3⟩ := parts_is x
  rw [e] at hz
  cases n with
  | zero => exact absurd hn (by decide)
  | succ n =>
    rw [List.drop_succ_cons] at hz
    exact part_ne (h1 z (List.mem_of_mem_drop hz))
theorem parts_pos (x : Tx) : 0 < (partsF x).length := by
  unfold partsF
  rw [List.length_append]
  show 0 < _ + 1
  omega
theorem p_l_relation : ∀ ds M Q E, sp_l_relation ds M Q E → w_l_relation (Ret Q E) (ds.map some ++ List.replicate (8 - 2) none) M := by
  rintro ds M Q E ⟨x, y, rfl, hx, hy, ox, oy, hQ⟩
  have lx := parts_len (x := x)
  have ly := parts_len (x := y)
  unfold relL at hQ
  unfold w_l_relation
  walk_at "dl"
  refine ⟨x, rfl, hx, ?_⟩
  refine ⟨y, rfl, hy, ?_⟩
  try simp only [List.length_map, map_cut, cut_nat]
  walk_at "dl"
  try simp only [List.length_map, map_cut, cut_nat]
  walk_at "dl"
  refine ⟨eqOk_strs (parts_ok ox), eqOk_strs (parts_ok oy), ?_⟩
  rw [eqvL_strs]
  by_cases h1 : partsF x = partsF y
  · rw [decide_eq_true h1]
    try simp only []
    walk_at "dl"
    try simp only []
    walk_at "dl"
    rw [if_pos h1] at hQ
    exact hQ
  · rw [decide_eq_false h1]
    rw [if_neg h1] at hQ
    try simp only [List.length_map]
    walk_at "dl"
    try simp only [List.length_map]
    walk_at "dl"
    by_cases h2 : (partsF y).length < (partsF x).length
    · rw [if_pos (by omega)]
      rw [if_pos h2] at hQ
      have l4 : (T "over").length ≤ 10 := by rw [T_over]; decide
      first | rw [map_cut, cut_nat] | rw [← List.map_drop]
      refine rel_c3 (w := T "over") (m := partsF x) (t := partsF y) (rest := (partsF x).drop (partsF y).length) l4 (parts_ok ox) (parts_ok oy) (rest_ok (parts_pos y) hx) (fun z hz => parts_ok ox z (List.mem_of_mem_drop hz)) hQ
    · rw [if_neg (by omega)]
      rw [if_neg h2] at hQ
      have l5 : (T "under").length ≤ 10 := by rw [T_under]; decide
      first | rw [map_cut, cut_nat] | rw [← List.map_drop] | skip
      refine rel_c3 (w := T "under") (m := partsF x) (t := partsF y) (rest := (partsF y).drop (partsF x).length) l5 (parts_ok ox) (parts_ok oy) (rest_ok (parts_pos x) hy) (fun z hz => parts_ok oy z (List.mem_of_mem_drop hz)) hQ
theorem head_parts {z : Tx} (h : headM z = true) : ∃ l, l ≠ [] ∧ (∀ t ∈ l, Part t) ∧ l.flatten = z := by
  obtain ⟨r, l, e, h1, h2, h3⟩ := parts_is z
  have hr : r = [] := by
    cases r with
    | nil => rfl
    | cons c r =>
      rw [h3] at h
      have : isM c = true := h
      rw [h2 c (List.mem_cons_self ..)] at this
      cases this
  subst hr
  refine ⟨l, ?_, h1, by rw [h3]; rfl⟩
  intro e2
  subst e2
  rw [h3] at h
  cases h
theorem beneath_parts {x y : Tx} : beneath x y = true ↔ ∃ l, l ≠ [] ∧ (∀ t ∈ l, Part t) ∧ x = y ++ l.flatten := by
  unfold beneath
  rw [Bool.and_eq_true, Bool.and_eq_true, decide_eq_true_iff, List.isPrefixOf_iff_prefix]
  constructor
  · rintro ⟨_, ⟨z, rfl⟩, h⟩
    rw [List.drop_left] at h
    obtain ⟨l, h1, h2, h3⟩ := head_parts h
    exact ⟨l, h1, h2, by rw [h3]⟩
  · rintro ⟨l, h1, h2, rfl⟩
    cases l with
    | nil => exact absurd rfl h1
    | cons t l =>
      obtain ⟨m, n, rfl, hm, hn⟩ := h2 t (List.mem_cons_self ..)
      refine ⟨by rw [List.length_append, List.flatten_cons, List.length_append, List.length_cons]; omega, List.prefix_append .., ?_⟩
      rw [List.drop_left]
      exact hm
end DL
namespace DL
open PySem L2
local macro_rules | `(tactic| walk_at "dl") => `(tactic| try simp (config := { proj := false }) only [↓ex_mk, ↓nx_mk, ↓rt_mk, ↓bk_mk, ↓ct_mk, ↓xc_mk, ↓u_c, ↓u_op, ↓u_un, ↓u_and, ↓u_or, ↓u_not, ↓u_if, ↓u_anil, ↓u_acons, ↓u_lst, ↓u_lstM, ↓u_tup, ↓u_call, ↓u_sl, ↓u_onone, ↓u_cb, ↓u_mt, ↓u_mt0, ↓u_pass, ↓u_seq, ↓u_set, ↓u_asg, ↓u_drop, ↓u_ret, ↓u_retN, ↓u_ifs, ↓u_brk, ↓u_cnt, ↓u_for, ↓u_gname, ↓u_gsub, ↓u_fs, ↓u_fmt, ↓u_js0, ↓u_js, ↓u_em, ↓u_yes, ↓u_never, ↓u_ref, ↓u_forR, ↓u_star, ↓u_dict, ↓u_dict0, ↓u_dp0, ↓u_dp1, ↓u_forK, ↓u_lock, ↓u_kd, ↓u_fld, ↓u_setF, ↓u_make, ↓u_binL, ↓u_binR, ↓u_inO, ↓u_getO, ↓u_setO, ↓u_augO, ↓u_prp, ↓u_inv, ↓u_meth, ↓u_keys, ↓u_try, ↓u_cm, ↓u_makeV, ↓r_enum, ↓r_own, ↓u_raise, ↓u_tryas, ↓u_ca, ↓u_xf, ↓u_idxC, su_mk,
  ↓r_var, ↓r_test, ↓r_andV, ↓r_orV, ↓r_notV, ↓r_tru, ↓r_frz, ↓r_osome, ↓r_any, ↓r_scr, scr_c, ↓r_rng1, ↓r_rng2, ↓r_fz, wipeD,
  onSome_s, onBl_b, onInt_i, onStr_s, onVar_s, onML_l, onML2_l, onML2_d, onDK_d, fmt_s, fmt_i, tru_n, tru_b, tru_i, tru_s, tru_l, tru_t, tru_r, frz_r, sl_s, sl_l, sl_t, sl_r, add_i, add_s, add_l, add_t, add_rl, add_lr, sub_i, mul_i, div_i, mod_i, pow_i, neg_i, cmp_i, eq_i, eq_s, eq_b, eq_n, eq_l, eq_t, eq_rl, eq_lr, eq_ni, eq_in, eq_ns, eq_sn, eq_nb, eq_bn, eq_is, eq_si,
  ix_l, ix_t, ix_s, ix_ri, ix_rs, in_ss, in_l, in_t, in_ir, in_sr, isB_t, isB_f, ltS_s, gtS_s, sorted_l, keyK_s, keyK_i, u_dget, lenOR_r, listOR_r, isn_n, isn_b, isn_i, isn_s, isn_r, isn_l, isn_t, len_s, len_c, len_l, len_t, len_r, int_i, int_b, min_ii, max_ii, list_l, list_t, list_r, list_c, listM_l, listM_c, listM_t, listM_r, isi_, isi_k, ty_n, ty_b, ty_i, ty_s, ty_l, ty_t, it_s, it_l, it_r, itM_l, itM_d, app_r, rev_r, ends_s, ins_r, set_rs, str_i, str_s, ext_l, pop_r, clr_r, star_l, star_t, star_r, onRef_r, onML3_l, onML3_d, onML3_f, onDR_d, onDR_f, onFK_f, join_l, join_t, join_r, starts_s, r_gtup, r_glst, r_gnil, r_gcons, set_r, items_s, items_l, items_t, rng1_i, rng2_i, fz_r, addM_l, addM_rl, onIns_i, onLst_l, isIns_r, isInsM_i, noF_r, noFM_i, rows_r, lenO_r, listO_r, listOM_r, isCK_i, isCK_l, isC_r, isC_s, isC_i, isC_b, isC_n, isC_l, isC_t, putG_0, putG_1, lk_1, onCl_c, onEnum_l, index_l, strO_r, cmpO_r, pop1_r, tuple_l, tuple_t, divmod_i, upper_s, indexT_t, onExc_e, isE_t, isE_c, isE_v, zip_1,
  List.map_cons, List.map_nil, List.cons_append, List.nil_append, List.length_cons, List.length_nil, List.replicate, List.getElem?_cons_zero, List.getElem?_cons_succ, List.set_cons_zero, List.set_cons_succ, id, decide_eq_true_eq, if_true, if_false, Bool.false_eq_true, reduceIte, Bool.not_true, Bool.not_false, true_and, Nat.reduceAdd, Nat.reduceSub, Int.reduceToNat, Int.toNat_natCast, put_same, put_put, atI_0, atI_1, atI_2, atI_3, atI_4, ixN_40, ixN_41, ixN_42, ixN_43])
def isNm (n : Tx) : Bool := !decide (n = []) && decide (n.length ≤ 8) && n.all fun c => decide (97 ≤ c ∧ c ≤ 122)
def endN (x : Tx) (k : Nat) : Nat := k + ((x.drop k).takeWhile fun c => !isM c).length
theorem take_while_at {x : Tx} {i : Nat} (h : ∀ j c, j < i → x[j]? = some c → isM c = false) (hi : i ≤ x.length) (hm : ∀ c, x[i]? = some c → isM c = true) : (x.takeWhile fun c => !isM c).length = i := by
  induction x generalizing i with
  | nil => simp at hi; subst hi; rfl
  | cons a r ih =>
    cases i with
    | zero =>
      have := hm a rfl
      rw [List.takeWhile_cons, this]; rfl
    | succ i =>
      have := h 0 a (Nat.succ_pos _) rfl
      rw [List.takeWhile_cons, this]
      show _ + 1 = _
      rw [ih (fun j c hj hc => h (j + 1) c (Nat.succ_lt_succ hj) hc) (Nat.le_of_succ_le_succ hi) (fun c hc => hm c hc)]
theorem endN_at {x : Tx} {k i : Nat} (h : ∀ j c, j < i → x[k + j]? = some c → isM c = false) (hi : k + i ≤ x.length) (hm : ∀ c, x[k + i]? = some c → isM c = true) : endN x k = k + i := by
  unfold endN
  rw [take_while_at (fun j c hj hc => h j c hj (by rw [List.getElem?_drop] at hc; exact hc)) (by rw [List.length_drop]; omega) (fun c hc => hm c (by rw [List.getElem?_drop] at hc; exact hc))]
def sp_end_of_name : DSp := fun ds M Q _ => ∃ (x : Tx) (k : Nat), ds = [.str x, .int (k : Int)] ∧ x.length ≤ 1000000 ∧ k ≤ x.length ∧ Q (.int (endN x k : Nat)) M
def w_end_of_name_b1 : DTS := dIfS (dTest (dOp gIn (dOp gIx (dVar 0) (dVar 2)) (dC (.str [46, 94])))) (dRet (dVar 2)) (dPass)
def w_end_of_name_c2 : DTS := dRet (dCB gLen (daCons (dVar 0) (daNil)))
def w_end_of_name : DTS := dSeq (dFor (diRng2 (daCons (dVar 1) (daCons (dCB gLen (daCons (dVar 0) (daNil))) (daNil)))) (dgName 2) (w_end_of_name_b1)) (w_end_of_name_c2)
theorem p_end_of_name : ∀ ds M Q E, sp_end_of_name ds M Q E → w_end_of_name (Ret Q E) (ds.map some ++ List.replicate (3 - 2) none) M := by
  rintro ds M Q E ⟨x, k, rfl, hl, hk, hQ⟩
  unfold w_end_of_name
  walk_at "dl"
  refine ⟨by omega, ⟨by omega, by omega, by omega, by omega⟩, ?_⟩
  refine wFor_by (fun i τ M' => (∃ y, τ = [some (.str x), some (.int (k : Int)), y]) ∧ M' = M ∧ ∀ j c, j < i → x[k + j]? = some c → isM c = false) ⟨⟨_, rfl⟩, rfl, fun j c h => nomatch h⟩ ?_ ?_
  · rintro i d τ M' hd ⟨⟨y, rfl⟩, rfl, hj⟩ nxt hn
    obtain ⟨rfl, hi⟩ := upTo_at hd
    have hlt : k + i < x.length := by omega
    obtain ⟨c, hc⟩ : ∃ c, x[k + i]? = some c := ⟨_, List.getElem?_eq_getElem hlt⟩
    have ec : atI x ((k : Int) + (i : Int)) = some c := by
      have e : ixN x.length ((k : Int) + (i : Int)) = some (k + i) := by rw [← Int.natCast_add]; exact ixN_nat hlt
      unfold atI
      rw [e]
      exact hc
    unfold w_end_of_name_b1
    iterate 10 ((try simp only [ec]); walk_at "dl")
    refine ⟨by omega, ?_⟩
    by_cases hm : isM c = true
    · rw [if_pos (mem_marks.mpr hm)]
      have e := endN_at (x := x) hj (by omega) (fun c' h => by rw [hc] at h; cases h; exact hm)
      rw [e] at hQ
      rw [← Int.natCast_add]
      exact hQ
    · rw [if_neg (fun z => hm (mem_marks.mp z))]
      refine hn _ _ ⟨⟨_, rfl⟩, rfl, fun j c' hj2 h => ?_⟩
      rcases Nat.lt_succ_iff_lt_or_eq.mp hj2 with h2 | rfl
      · exact hj j c' h2 h
      · rw [hc] at h; cases h
        simpa using hm
  · rintro τ M' ⟨⟨y, rfl⟩, rfl, hj⟩
    unfold w_end_of_name_c2
    walk_at "dl"
    have e : endN x k = x.length := by
      have := endN_at (x := x) (k := k) (i := x.length - k) (fun j c h => hj j c (by rw [upTo_len]; omega)) (by omega) (fun c hc => by rw [show k + (x.length - k) = x.length by omega, List.getElem?_eq_none (Nat.le_refl _)] at hc; cases hc)
      omega
    rw [e] at hQ
    exact ⟨by omega, hQ⟩
theorem abc_mem {c : Nat} : c ∈ T "abcdefghijklmnopqrstuvwxyz" ↔ 97 ≤ c ∧ c ≤ 122 := by
  have e : T "abcdefghijklmnopqrstuvwxyz" = (List.range 26).map (97 + ·) := by decide +kernel
  rw [e, List.mem_map]
  constructor
  · rintro ⟨i, hi, rfl⟩
    have := List.mem_range.mp hi
    omega
  · intro h
    exact ⟨c - 97, List.mem_range.mpr (by omega), by omega⟩
theorem abc_dec {c : Nat} : decide (c ∈ T "abcdefghijklmnopqrstuvwxyz") = decide (97 ≤ c ∧ c ≤ 122) := decide_eq_decide.mpr abc_mem
def sp_is_name : DSp := fun ds M Q _ => ∃ x : Tx, ds = [.str x] ∧ x.length ≤ 1000000 ∧ Q (.bl (isNm x)) M
def w_is_name_c1 : DTS := dRet (dCB gAll (daCons (dFrz (dLcM (diAny (dVar 0)) (dgName 1) (dYes) [1] [] (dOp gIn (dVar 1) (dC (.str (T "abcdefghijklmnopqrstuvwxyz")))))) (daNil)))
def w_is_name : DTS := dSeq (dIfS (dOr (dTest (dOp gEq (dVar 0) (dC (.str [])))) (dTest (dOp gGt (dCB gLen (daCons (dVar 0) (daNil))) (dC (.int 8))))) (dRet (dC (.bl false))) (dPass)) (w_is_name_c1)
theorem p_is_name : ∀ ds M Q E, sp_is_name ds M Q E → w_is_name (Ret Q E) (ds.map some ++ List.replicate (2 - 1) none) M := by
  rintro ds M Q E ⟨x, rfl, hl, hQ⟩
  unfold w_is_name
  walk_at "dl"
  by_cases h0 : x = []
  · rw [if_pos h0]
    have e : isNm x = false := by unfold isNm; rw [decide_eq_true h0]; rfl
    rw [e] at hQ
    exact hQ
  · rw [if_neg h0]
    refine ⟨by omega, ?_⟩
    by_cases h8 : 8 < (x.length : Int)
    · rw [if_pos h8]
      have e : isNm x = false := by unfold isNm; rw [decide_eq_false (p := x.length ≤ 8) (by omega), Bool.and_false]; rfl
      rw [e] at hQ
      exact hQ
    · rw [if_neg h8]
      have e : isNm x = x.all fun c => decide (97 ≤ c ∧ c ≤ 122) := by unfold isNm; rw [decide_eq_false h0, decide_eq_true (p := x.length ≤ 8) (by omega)]; rfl
      rw [e] at hQ
      unfold w_is_name_c1
      try simp only [dLcM]
      walk_at "dl"
      try simp only [dLcM]
      walk_at "dl"
      intro q hq
      refine lc_map (ds := x.map fun c => D.str [c]) (f := fun d => match d with
        | .str [c] => .bl (decide (97 ≤ c ∧ c ≤ 122))
        | _ => .non) (by rw [List.length_map]; omega) ?_ ?_
      · intro d hd acc N h
        obtain ⟨c, hc, rfl⟩ := List.mem_map.mp hd
        walk_at "dl"
        rw [abc_dec]
        exact h
      · try simp only [put_same, del_put_new hq]
        walk_at "dl"
        try simp only [put_same, del_put_new hq]
        walk_at "dl"
        refine ⟨x.map fun c => decide (97 ≤ c ∧ c ≤ 122), by rw [List.map_map, List.map_map]; rfl, ?_⟩
        have eb : (x.map fun c => decide (97 ≤ c ∧ c ≤ 122)).all id = x.all fun c => decide (97 ≤ c ∧ c ≤ 122) := by rw [List.all_map]; rfl
        walk_at "dl"
        rw [eb]
        exact hQ
structure Cut (x r : Tx) (l : List Tx) : Prop where
  rt : ∀ c ∈ r, isM c = false
  pt : ∀ t ∈ l, Part t
  eq : x = r ++ l.flatten
theorem Part.pos {t : Tx} (h : Part t) : 0 < t.length := by
  obtain ⟨m, n, rfl, _⟩ := h
  exact Nat.succ_pos _
theorem len_flat : ∀ {l : List Tx}, (∀ t ∈ l, Part t) → l.length ≤ l.flatten.length
  | [], _ => Nat.le_refl _
  | t :: l, h => by
    have := len_flat fun u hu => h u (List.mem_cons_of_mem _ hu)
    have := (h t List.mem_cons_self).pos
    rw [List.flatten_cons, List.length_append, List.length_cons]
    omega
theorem head_flat {l : List Tx} (h : ∀ t ∈ l, Part t) : ∀ c, l.flatten[0]? = some c → isM c = true := by
  cases l with
  | nil => intro c hc; cases hc
  | cons t l =>
    intro c hc
    obtain ⟨m, n, rfl, hm, _⟩ := h t List.mem_cons_self
    cases hc
    exact hm
theorem endN_root {x r : Tx} {l : List Tx} (h : Cut x r l) : endN x 0 = r.length := by
  have := endN_at (x := x) (k := 0) (i := r.length) (fun j c hj hc => by
    rw [h.eq, Nat.zero_add, List.getElem?_append_left hj] at hc
    exact h.rt c (List.mem_of_getElem? hc)) (by rw [h.eq, List.length_append]; omega) (fun c hc => by
    rw [h.eq, Nat.zero_add, List.getElem?_append_right (Nat.le_refl _), Nat.sub_self] at hc
    exact head_flat h.pt c hc)
  omega
theorem cut_upto {α : Type} {xs : List α} {n : Nat} : cut xs none (some (n : Int)) = xs.take n := by
  unfold cut
  rw [HT.sIx_none, HT.sIx_nat, List.drop_zero, Nat.sub_zero]
  by_cases h : n ≤ xs.length
  · rw [Nat.min_eq_left h]
  · rw [Nat.min_eq_right (by omega), List.take_length, List.take_of_length_le (by omega)]
theorem cut_mid {α : Type} {u v w : List α} {a b : Nat} (ha : a = u.length) (hb : b = u.length + v.length) : cut (u ++ (v ++ w)) (some (a : Int)) (some (b : Int)) = v := by
  unfold cut
  rw [HT.sIx_nat, HT.sIx_nat, List.length_append, List.length_append, Nat.min_eq_left (by omega), Nat.min_eq_left (by omega), ha, List.drop_left, hb, List.take_left' (by omega)]
def sp_root_of : DSp := fun ds M Q _ => ∃ x r l, ds = [.str x] ∧ x.length ≤ 1000000 ∧ Cut x r l ∧ Q (.str r) M
def w_root_of : DTS := dRet (dSl (dVar 0) (doNone) (doSome (dCall sp_end_of_name (daCons (dVar 0) (daCons (dC (.int 0)) (daNil))))))
theorem p_root_of : ∀ ds M Q E, sp_root_of ds M Q E → w_root_of (Ret Q E) (ds.map some ++ List.replicate (1 - 1) none) M := by
  rintro ds M Q E ⟨x, r, l, rfl, hl, hc, hQ⟩
  unfold w_root_of
  walk_at "dl"
  refine ⟨x, 0, rfl, hl, Nat.zero_le _, ?_⟩
  rw [endN_root hc]
  walk_at "dl"
  rw [cut_upto, hc.eq, List.take_left']
  · exact ⟨by rw [← hc.eq]; omega, hQ⟩
  · rfl
def sp_steps_of : DSp := fun ds M Q _ => ∃ l : List Tx, ds = [.str l.flatten] ∧ l.flatten.length ≤ 1000000 ∧ (∀ t ∈ l, Part t) ∧ ∀ M', Xt M M' → Q (if (l.all fun t => isNm (t.drop 1)) = true then .lst (txs l) else .non) M'
def w_steps_of_c1 : DTS := dSeq (dDrop (dMt "list" gAppend (dVar 1) (daCons (dSl (dVar 0) (doSome (dVar 2)) (doSome (dVar 3))) (daNil)))) (dSet 2 (dVar 3))
def w_steps_of_b2 : DTS := dSeq (dSet 3 (dCall sp_end_of_name (daCons (dVar 0) (daCons (dOp gAdd (dVar 2) (dC (.int 1))) (daNil))))) (dSeq (dIfS (dOr (dTest (dOp gNotIn (dOp gIx (dVar 0) (dVar 2)) (dC (.str [46, 94])))) (dNot (dTru (dCall sp_is_name (daCons (dSl (dVar 0) (doSome (dOp gAdd (dVar 2) (dC (.int 1)))) (doSome (dVar 3))) (daNil)))))) (dRet (dC .non)) (dPass)) (w_steps_of_c1))
def w_steps_of : DTS := dSeq (dSet 1 (dLstM (daNil))) (dSeq (dSet 2 (dC (.int 0))) (dSeq (dWhile (dTest (dOp gLt (dVar 2) (dCB gLen (daCons (dVar 0) (daNil))))) (w_steps_of_b2)) (dRet (dFrz (dVar 1)))))
theorem p_steps_of : ∀ ds M Q E, sp_steps_of ds M Q E → w_steps_of (Ret Q E) (ds.map some ++ List.replicate (4 - 1) none) M := by
  rintro ds M Q E ⟨l, rfl, hl, hp, hQ⟩
  unfold w_steps_of
  walk_at "dl"
  refine ⟨by decide, fun p hp0 => ?_⟩
  walk_at "dl"
  refine ⟨fun n τ M' => ∃ i y, n = l.length - i ∧ i ≤ l.length ∧ τ = [some (.str l.flatten), some (.ref p), some (.int ((l.take i).flatten.length : Nat)), y] ∧ M' = put M p (.lst (txs (l.take i))) ∧ ((l.take i).all fun t => isNm (t.drop 1)) = true, ⟨_, 0, _, rfl, Nat.zero_le _, rfl, rfl, rfl⟩, ?_⟩
  rintro n τ M' ⟨i, y, rfl, hi, rfl, rfl, ha⟩
  walk_at "dl"
  refine ⟨by omega, ?_⟩
  by_cases hlt : i < l.length
  · obtain ⟨t, ht⟩ : ∃ t, l[i]? = some t := ⟨_, List.getElem?_eq_getElem hlt⟩
    obtain ⟨m, n0, rfl, hm, hn0⟩ := hp t (List.mem_of_getElem? ht)
    have e1 : l.flatten = (l.take i).flatten ++ ((m :: n0) ++ (l.drop (i + 1)).flatten) := by
      have e2 : l = l.take i ++ ((m :: n0) :: l.drop (i + 1)) := by
        have := List.take_append_drop i l
        rw [List.drop_eq_getElem_cons hlt] at this
        rw [List.getElem?_eq_getElem hlt] at ht
        rw [Option.some.inj ht] at this
        exact this.symm
      conv => lhs; rw [e2]
      rw [List.flatten_append, List.flatten_cons]
    have e3 : l.take (i + 1) = l.take i ++ [m :: n0] := by rw [List.take_succ, ht]; rfl
    generalize hA : (l.take i).flatten = A at e1 ⊢
    generalize hB : (l.drop (i + 1)).flatten = B at e1
    have lt : l.flatten.length = A.length + (n0.length + 1 + B.length) := by rw [e1]; simp; omega
    rw [if_pos (by omega)]
    have hend : endN l.flatten (A.length + 1) = A.length + 1 + n0.length := by
      refine endN_at (fun j c hj hc => ?_) (by omega) (fun c hc => ?_)
      · rw [e1, List.getElem?_append_right (by omega), List.getElem?_append_left (by simp; omega)] at hc
        rw [show A.length + 1 + j - A.length = j + 1 by omega, List.getElem?_cons_succ] at hc
        exact hn0 c (List.mem_of_getElem? hc)
      · rw [e1, List.getElem?_append_right (by omega), List.getElem?_append_right (by simp; omega)] at hc
        have e0 : A.length + 1 + n0.length - A.length - (m :: n0).length = 0 := by simp; omega
        rw [e0, ← hB] at hc
        exact head_flat (fun t ht => hp t (List.mem_of_mem_drop ht)) c hc
    unfold w_steps_of_b2
    walk_at "dl"
    refine ⟨l.flatten, A.length + 1, rfl, hl, by omega, ?_⟩
    rw [hend]
    have ea : atI l.flatten ((A.length : Nat) : Int) = some m := by
      have e : ixN l.flatten.length ((A.length : Nat) : Int) = some A.length := ixN_nat (by omega)
      unfold atI
      rw [e]
      show l.flatten[A.length]? = _
      rw [e1, List.getElem?_append_right (Nat.le_refl _), Nat.sub_self]
      rfl
    iterate 10 ((try simp only [ea]); walk_at "dl")
    have ec : cut l.flatten (some ((A.length : Int) + 1)) (some ((A.length + 1 + n0.length : Nat) : Int)) = n0 := by
      rw [e1, show A ++ (m :: n0 ++ B) = (A ++ [m]) ++ (n0 ++ B) by simp, ← Int.natCast_succ]
      exact cut_mid (by simp) (by simp)
    rw [decide_eq_true (mem_marks.mpr hm), if_neg (by decide), ec]
    refine ⟨by omega, by omega, n0, rfl, by omega, ?_⟩
    cases hn : isNm n0 with
    | false =>
      walk_at "dl"
      have e : (l.all fun t => isNm (t.drop 1)) = false := by
        rw [Bool.eq_false_iff]
        intro z
        have := List.all_eq_true.mp z _ (List.mem_of_getElem? ht)
        rw [show (m :: n0).drop 1 = n0 from rfl, hn] at this
        cases this
      rw [e] at hQ
      exact hQ _ (Xt.new hp0)
    | true =>
      walk_at "dl"
      unfold w_steps_of_c1
      walk_at "dl"
      have ec2 : cut l.flatten (some ((A.length : Nat) : Int)) (some ((A.length + 1 + n0.length : Nat) : Int)) = m :: n0 := by
        rw [e1]
        exact cut_mid rfl (by simp; omega)
      rw [ec2]
      have lf := len_flat hp
      have e5 : (l.take (i + 1)).flatten.length = A.length + 1 + n0.length := by rw [e3, List.flatten_append, hA]; simp; omega
      refine ⟨by omega, by rw [txs, List.length_map, List.length_take]; omega, l.length - (i + 1), by omega, i + 1, _, rfl, hlt, by rw [e5], by rw [e3, txs_app]; rfl, ?_⟩
      rw [e3, List.all_append, ha]
      show (true && (isNm n0 && true)) = true
      rw [hn]; rfl
  · have e : i = l.length := by omega
    subst e
    rw [List.take_length] at ha ⊢
    rw [if_neg (by omega)]
    rw [ha, if_pos rfl] at hQ
    walk_at "dl"
    rw [del_put_new hp0]
    exact hQ _ (Xt.refl _)
end DL
namespace DL
open PySem L2
theorem lookT_put (kvs : List (TKey × D)) (k u : TKey) (d : D) : lookT (putT kvs k d) u = if u = k then some d else lookT kvs u := by
  have rep : ∀ l : List (TKey × D), ((l.map fun q => if q.1 = k then (q.1, d) else q).find? fun q => decide (q.1 = u)).map (·.2) = if u = k then ((l.find? fun q => decide (q.1 = u)).map fun _ => d) else (l.find? fun q => decide (q.1 = u)).map (·.2) := by
    intro l
    induction l with
    | nil => simp
    | cons q r ih =>
      rw [List.map_cons, List.find?_cons, List.find?_cons]
      by_cases h1 : q.1 = k
      · rw [if_pos h1]
        by_cases h2 : q.1 = u
        · simp only [h2, decide_true]
          have : u = k := by rw [← h2, h1]
          rw [if_pos this]
          rfl
        · simp only [h2, decide_false]
          exact ih
      · rw [if_neg h1]
        by_cases h2 : q.1 = u
        · simp only [h2, decide_true]
          have : ¬ u = k := fun z => h1 (by rw [h2, z])
          rw [if_neg this]
        · simp only [h2, decide_false]
          exact ih
  unfold lookT putT
  split
  · rename_i h
    rw [rep]
    by_cases e : u = k
    · rw [if_pos e, if_pos e]
      obtain ⟨q, hq, hk⟩ := List.any_eq_true.mp h
      cases z : kvs.find? fun q => decide (q.1 = u) with
      | some y => rfl
      | none => exact absurd (List.find?_eq_none.mp z q hq) (by rw [e]; simpa using hk)
    · rw [if_neg e, if_neg e]
  · rename_i h
    rw [List.find?_append]
    by_cases e : u = k
    · rw [if_pos e]
      have z : kvs.find? (fun q => decide (q.1 = u)) = none := List.find?_eq_none.mpr fun q hq hk => h (List.any_eq_true.mpr ⟨q, hq, by rw [← e]; simpa using hk⟩)
      rw [z]
      simp [e]
    · rw [if_neg e]
      have : ¬ k = u := fun z => e z.symm
      cases z : kvs.find? fun q => decide (q.1 = u) with
      | some y => rfl
      | none => simp [this]
def isHop (s : Tx) : Bool := s.head? == some 94
def hmL (l : List Tx) : List Tx := (l.reverse.dropWhile fun s => !isHop s).reverse
def inL (l : List Tx) : List Tx := (l.reverse.takeWhile fun s => !isHop s).reverse
theorem hm_in (l : List Tx) : hmL l ++ inL l = l := by
  unfold hmL inL
  rw [← List.reverse_append, List.takeWhile_append_dropWhile, List.reverse_reverse]
theorem hm_dot {l : List Tx} {s : Tx} (h : isHop s = false) : hmL (l ++ [s]) = hmL l ∧ inL (l ++ [s]) = inL l ++ [s] := by
  unfold hmL inL
  rw [List.reverse_append]
  show (List.dropWhile _ (s :: l.reverse)).reverse = _ ∧ (List.takeWhile _ (s :: l.reverse)).reverse = _
  rw [List.dropWhile_cons, List.takeWhile_cons, h]
  simp
theorem hm_hop {l : List Tx} {s : Tx} (h : isHop s = true) : hmL (l ++ [s]) = l ++ [s] ∧ inL (l ++ [s]) = [] := by
  unfold hmL inL
  rw [List.reverse_append]
  show (List.dropWhile _ (s :: l.reverse)).reverse = _ ∧ (List.takeWhile _ (s :: l.reverse)).reverse = _
  rw [List.dropWhile_cons, List.takeWhile_cons, h]
  simp
theorem in_dots {l : List Tx} : ∀ s ∈ inL l, isHop s = false := fun s hs => by
  unfold inL at hs
  have go : ∀ m : List Tx, s ∈ m.takeWhile (fun s => !isHop s) → isHop s = false := by
    intro m
    induction m with
    | nil => intro h; cases h
    | cons x r ih =>
      intro h
      rw [List.takeWhile_cons] at h
      cases e : isHop x with
      | true => rw [e] at h; cases h
      | false =>
        rw [e] at h
        rcases List.mem_cons.mp h with rfl | h
        · exact e
        · exact ih h
  exact go _ (List.mem_reverse.mp hs)
theorem steps_inj : ∀ {a b : List Tx}, Steps a → Steps b → a.flatten = b.flatten → a = b := by
  intro a b ha hb h
  have r : Nm [97] := by unfold Nm Lett; decide
  have e : partsF ([97] ++ a.flatten) = partsF ([97] ++ b.flatten) := by rw [h]
  rw [nd_parts r ha, nd_parts r hb] at e
  injection e
def HmT (t : List Tx) : Prop := ∃ r l, t = r :: l ∧ hmL l = l
theorem hmL_dots {l : List Tx} : ∀ {L : List Tx}, (∀ u ∈ L, isHop u = false) → hmL (l ++ L) = hmL l := by
  have go : ∀ R : List Tx, (∀ u ∈ R.reverse, isHop u = false) → hmL (l ++ R.reverse) = hmL l := by
    intro R
    induction R with
    | nil => intro _; simp
    | cons s R ih =>
      intro h
      rw [List.reverse_cons] at h ⊢
      rw [← List.append_assoc, (hm_dot (h s (by simp))).1]
      exact ih fun u hu => h u (List.mem_append_left _ hu)
  intro L h
  have := go L.reverse (by rw [List.reverse_reverse]; exact h)
  rwa [List.reverse_reverse] at this
theorem dec_uniq {H G L L2 : List Tx} {s s2 : Tx} (hH : HmT H) (hG : HmT G) (h1 : ∀ u ∈ L, isHop u = false) (h2 : ∀ u ∈ L2, isHop u = false) (e : H ++ L ++ [s] = G ++ L2 ++ [s2]) : H = G ∧ L = L2 ∧ s = s2 := by
  obtain ⟨e1, e2⟩ := List.append_inj' e rfl
  obtain ⟨r, l, rfl, hl⟩ := hH
  obtain ⟨r2, l2, rfl, hl2⟩ := hG
  rw [List.cons_append, List.cons_append] at e1
  injection e1 with e3 e4
  have q := congrArg hmL e4
  rw [hmL_dots h1, hmL_dots h2, hl, hl2] at q
  subst q
  have e5 := List.append_cancel_left e4
  injection e2 with e2
  exact ⟨by rw [e3], e5, e2⟩
theorem hmT_hop {H L : List Tx} {s : Tx} (hH : HmT H) (hs : isHop s = true) : HmT (H ++ L ++ [s]) := by
  obtain ⟨r, l, rfl, hl⟩ := hH
  refine ⟨r, l ++ L ++ [s], rfl, (hm_hop hs).1⟩
structure Hm (h : Nat → Option (List Tx)) (k : Nat) : Prop where
  sh : ∀ b t, h b = some t → HmT t
  cl : ∀ b G L s, h b = some (G ++ L ++ [s]) → HmT G → (∀ u ∈ L, isHop u = false) → isHop s = true → ∃ c, h c = some G
  inj : ∀ b c t, h b = some t → h c = some t → b = c
  le : ∀ b t, h b = some t → 1 ≤ b ∧ b ≤ k
def addH (h : Nat → Option (List Tx)) (k : Nat) (t : List Tx) : Nat → Option (List Tx) := fun b => if b = k then some t else h b
theorem addH_some {h : Nat → Option (List Tx)} {k b : Nat} {t u : List Tx} (hb : addH h k t b = some u) : (b = k ∧ u = t) ∨ (b ≠ k ∧ h b = some u) := by
  unfold addH at hb
  split at hb
  · rename_i e
    injection hb with hb
    exact .inl ⟨e, hb.symm⟩
  · rename_i e
    exact .inr ⟨e, hb⟩
theorem addH_old {h : Nat → Option (List Tx)} {k b : Nat} {t u : List Tx} (H : Hm h k) (hb : h b = some u) : addH h (k + 1) t b = some u := by
  have := H.le b u hb
  unfold addH
  rw [if_neg (by omega)]
  exact hb
theorem Hm.add {h : Nat → Option (List Tx)} {k b : Nat} {H L : List Tx} {s : Tx} (hk : Hm h k) (h0 : h b = some H) (hd : ∀ u ∈ L, isHop u = false) (hs : isHop s = true) (n : ∀ b, h b ≠ some (H ++ L ++ [s])) : Hm (addH h (k + 1) (H ++ L ++ [s])) (k + 1) := by
  refine ⟨fun c u hc => ?_, fun c G L2 s2 hc hG h2 hs2 => ?_, fun c e u hc he => ?_, fun c u hc => ?_⟩
  · rcases addH_some hc with ⟨_, e⟩ | ⟨_, e⟩
    · rw [e]; exact hmT_hop (hk.sh _ _ h0) hs
    · exact hk.sh _ _ e
  · rcases addH_some hc with ⟨_, e⟩ | ⟨_, e⟩
    · obtain ⟨e1, _, _⟩ := dec_uniq hG (hk.sh _ _ h0) h2 hd e
      exact ⟨b, by rw [e1]; exact addH_old hk h0⟩
    · obtain ⟨d, hd2⟩ := hk.cl _ _ _ _ e hG h2 hs2
      exact ⟨d, addH_old hk hd2⟩
  · rcases addH_some hc with ⟨c1, e1⟩ | ⟨c1, e1⟩ <;> rcases addH_some he with ⟨c2, e2⟩ | ⟨c2, e2⟩
    · rw [c1, c2]
    · rw [e1] at e2; exact absurd e2 (n _)
    · rw [e2] at e1; exact absurd e1 (n _)
    · exact hk.inj _ _ _ e1 e2
  · rcases addH_some hc with ⟨e, _⟩ | ⟨_, e⟩
    · omega
    · have := hk.le _ _ e; omega
end DL
namespace DL
open PySem L2
def BoxOk (bv : List (TKey × D)) (h : Nat → Option (List Tx)) (k : Nat) : Prop := bv.length ≤ k ∧ (∀ c : Nat, k < c → ∀ z, lookT bv [.inl (c : Int), .inr z] = none) ∧ ∀ b H, h b = some H → ∀ L s, Steps (L ++ [s]) → (∀ u ∈ L, isHop u = false) → isHop s = true →
  match lookT bv [.inl (b : Int), .inr ((L ++ [s]).flatten)] with
  | some d => ∃ c : Nat, d = .int c ∧ h c = some (H ++ L ++ [s])
  | none => ∀ c, h c ≠ some (H ++ L ++ [s])
theorem putT_len (kvs : List (TKey × D)) (k : TKey) (d : D) : (putT kvs k d).length ≤ kvs.length + 1 := by
  unfold putT
  split
  · rw [List.length_map]; omega
  · rw [List.length_append]; exact Nat.le_refl _
theorem BoxOk.add {h : Nat → Option (List Tx)} {k : Nat} {bv : List (TKey × D)} (hk : Hm h k) (hx : BoxOk bv h k)
    {b : Nat} {H L : List Tx} {s : Tx} (h0 : h b = some H) (st : Steps (L ++ [s])) (hd : ∀ u ∈ L, isHop u = false) (hs : isHop s = true) (nw : ∀ c, h c ≠ some (H ++ L ++ [s])) :
    BoxOk (putT bv [.inl (b : Int), .inr ((L ++ [s]).flatten)] (.int ((k + 1 : Nat) : Int))) (addH h (k + 1) (H ++ L ++ [s])) (k + 1) := by
  obtain ⟨hl, hz, hb⟩ := hx
  have hbk := hk.le _ _ h0
  refine ⟨Nat.le_trans (putT_len _ _ _) (by omega), fun c hc z => ?_, fun c G hc L2 s2 st2 hd2 hs2 => ?_⟩
  · rw [lookT_put, if_neg fun e => ?_]
    · exact hz c (by omega) z
    · injection e with e1 _
      injection e1 with e1
      omega
  · rw [lookT_put]
    rcases addH_some hc with ⟨hk1, hG⟩ | ⟨hk1, hc2⟩
    · subst hk1
      rw [if_neg fun e => ?_]
      · rw [hz (k + 1) (by omega)]
        intro c2 h2
        rcases addH_some h2 with ⟨_, e⟩ | ⟨_, e⟩
        · have := congrArg List.length e
          rw [hG] at this
          simp only [List.length_append, List.length_singleton] at this
          omega
        · obtain ⟨d, q⟩ := hk.cl _ _ _ _ e (by rw [hG]; exact hmT_hop (hk.sh _ _ h0) hs) hd2 hs2
          rw [hG] at q
          exact nw d q
      · injection e with e1 _
        injection e1 with e1
        omega
    · by_cases e : ([.inl (c : Int), .inr ((L2 ++ [s2]).flatten)] : TKey) = [.inl (b : Int), .inr ((L ++ [s]).flatten)]
      · rw [if_pos e]
        injection e with e1 e2
        injection e1 with e1
        injection e2 with e2
        injection e2 with e2
        have e3 := steps_inj st2 st e2
        have e4 : c = b := by omega
        subst e4
        rw [h0] at hc2
        injection hc2 with hc2
        subst hc2
        refine ⟨k + 1, rfl, ?_⟩
        unfold addH
        rw [if_pos rfl, List.append_assoc, List.append_assoc, e3]
      · rw [if_neg e]
        have q := hb c G hc2 L2 s2 st2 hd2 hs2
        cases z : lookT bv [.inl (c : Int), .inr ((L2 ++ [s2]).flatten)] with
        | some d =>
          rw [z] at q
          obtain ⟨c2, q1, q2⟩ := q
          exact ⟨c2, q1, addH_old hk q2⟩
        | none =>
          rw [z] at q
          intro c2 h2
          rcases addH_some h2 with ⟨_, h2⟩ | ⟨_, h2⟩
          · obtain ⟨e1, e2, e3⟩ := dec_uniq (hk.sh _ _ hc2) (hk.sh _ _ h0) hd2 hd h2
            have e4 := hk.inj _ _ _ hc2 (by rw [e1]; exact h0)
            exact e (by rw [e4, e2, e3])
          · exact q c2 h2
def RootsOk (rv : KV) (h : Nat → Option (List Tx)) (k : Nat) : Prop := rv.length ≤ k ∧ ∀ r, match getV rv r with
  | some d => ∃ c : Nat, d = .int c ∧ h c = some [r]
  | none => ∀ c, h c ≠ some [r]
theorem RootsOk.mono {rv : KV} {h h' : Nat → Option (List Tx)} {k k' : Nat} (x : RootsOk rv h k) (a : ∀ c t, h c = some t → h' c = some t) (b : ∀ c r, h' c = some [r] → h c = some [r]) (l : k ≤ k') : RootsOk rv h' k' := by
  refine ⟨Nat.le_trans x.1 l, fun r => ?_⟩
  have q := x.2 r
  cases z : getV rv r with
  | some d =>
    rw [z] at q
    obtain ⟨c, e1, e2⟩ := q
    exact ⟨c, e1, a _ _ e2⟩
  | none =>
    rw [z] at q
    exact fun c e => q c (b _ _ e)
theorem one_no {G L : List Tx} {s r : Tx} (hG : HmT G) (e : ([r] : List Tx) = G ++ L ++ [s]) : False := by
  obtain ⟨r2, l, rfl, _⟩ := hG
  have := congrArg List.length e
  simp only [List.length_append, List.length_cons, List.length_nil] at this
  omega
theorem Hm.addR {h : Nat → Option (List Tx)} {k : Nat} {r : Tx} (hk : Hm h k) (n : ∀ b, h b ≠ some [r]) : Hm (addH h (k + 1) [r]) (k + 1) := by
  refine ⟨fun c u hc => ?_, fun c G L2 s2 hc hG h2 hs2 => ?_, fun c e u hc he => ?_, fun c u hc => ?_⟩
  · rcases addH_some hc with ⟨_, e⟩ | ⟨_, e⟩
    · rw [e]; exact ⟨r, [], rfl, rfl⟩
    · exact hk.sh _ _ e
  · rcases addH_some hc with ⟨_, e⟩ | ⟨_, e⟩
    · exact (one_no hG e.symm).elim
    · obtain ⟨d, hd2⟩ := hk.cl _ _ _ _ e hG h2 hs2
      exact ⟨d, addH_old hk hd2⟩
  · rcases addH_some hc with ⟨c1, e1⟩ | ⟨c1, e1⟩ <;> rcases addH_some he with ⟨c2, e2⟩ | ⟨c2, e2⟩
    · rw [c1, c2]
    · rw [e1] at e2; exact absurd e2 (n _)
    · rw [e2] at e1; exact absurd e1 (n _)
    · exact hk.inj _ _ _ e1 e2
  · rcases addH_some hc with ⟨e, _⟩ | ⟨_, e⟩
    · omega
    · have := hk.le _ _ e; omega
theorem BoxOk.addR {h : Nat → Option (List Tx)} {k : Nat} {bv : List (TKey × D)} {r : Tx} (hk : Hm h k) (hx : BoxOk bv h k) (n : ∀ b, h b ≠ some [r]) : BoxOk bv (addH h (k + 1) [r]) (k + 1) := by
  obtain ⟨hl, hz, hb⟩ := hx
  refine ⟨by omega, fun c hc z => hz c (by omega) z, fun c G hc L2 s2 st2 hd2 hs2 => ?_⟩
  rcases addH_some hc with ⟨hk1, hG⟩ | ⟨hk1, hc2⟩
  · subst hk1
    rw [hz (k + 1) (by omega)]
    intro c2 h2
    rcases addH_some h2 with ⟨_, e⟩ | ⟨_, e⟩
    · rw [hG] at e
      exact (one_no (G := [r]) ⟨r, [], rfl, rfl⟩ e.symm).elim
    · rw [hG] at e
      obtain ⟨d, q⟩ := hk.cl _ _ _ _ e ⟨r, [], rfl, rfl⟩ hd2 hs2
      exact n d q
  · have q := hb c G hc2 L2 s2 st2 hd2 hs2
    cases z : lookT bv [.inl (c : Int), .inr ((L2 ++ [s2]).flatten)] with
    | some d =>
      rw [z] at q
      obtain ⟨c2, q1, q2⟩ := q
      exact ⟨c2, q1, addH_old hk q2⟩
    | none =>
      rw [z] at q
      intro c2 h2
      rcases addH_some h2 with ⟨_, h2⟩ | ⟨_, h2⟩
      · exact one_no (hk.sh _ _ hc2) h2.symm
      · exact q c2 h2
theorem RootsOk.add {h : Nat → Option (List Tx)} {k : Nat} {rv : KV} {r : Tx} (hk : Hm h k) (x : RootsOk rv h k) : RootsOk (putV rv r (.int ((k + 1 : Nat) : Int))) (addH h (k + 1) [r]) (k + 1) := by
  refine ⟨by have := putV_len rv r (.int ((k + 1 : Nat) : Int)); have := x.1; omega, fun u => ?_⟩
  rw [putV_get]
  by_cases e : u = r
  · rw [if_pos e]
    exact ⟨k + 1, rfl, by unfold addH; rw [if_pos rfl, e]⟩
  · rw [if_neg e]
    have q := x.2 u
    cases z : getV rv u with
    | some d =>
      rw [z] at q
      obtain ⟨c, q1, q2⟩ := q
      exact ⟨c, q1, addH_old hk q2⟩
    | none =>
      rw [z] at q
      intro c hc
      rcases addH_some hc with ⟨_, e2⟩ | ⟨_, e2⟩
      · injection e2 with e2
        exact e e2
      · exact q c e2
def GoneOk (gv : List (DKey × D)) (h : Nat → Option (List Tx)) : Prop := ∀ b t, h b = some t → lookK gv (.inl (b : Int)) = none
def NumsOk (nv : List (TKey × D)) (h : Nat → Option (List Tx)) (f : List Tx → Int) : Prop := ∀ b H, h b = some H → ∀ L, Steps L → (∀ u ∈ L, isHop u = false) → (lookT nv [.inl (b : Int), .inr L.flatten]).getD (.int 0) = .int (f (H ++ L))
def updP (f : List Tx → Int) (t : List Tx) (n : Int) : List Tx → Int := fun u => if u = t then n else f u
theorem dec_uniq0 {H G L L2 : List Tx} (hH : HmT H) (hG : HmT G) (h1 : ∀ u ∈ L, isHop u = false) (h2 : ∀ u ∈ L2, isHop u = false) (e : H ++ L = G ++ L2) : H = G ∧ L = L2 := by
  obtain ⟨r, l, rfl, hl⟩ := hH
  obtain ⟨r2, l2, rfl, hl2⟩ := hG
  rw [List.cons_append, List.cons_append] at e
  injection e with e3 e4
  have q := congrArg hmL e4
  rw [hmL_dots h1, hmL_dots h2, hl, hl2] at q
  subst q
  exact ⟨by rw [e3], List.append_cancel_left e4⟩
theorem NumsOk.set {nv : List (TKey × D)} {h : Nat → Option (List Tx)} {f : List Tx → Int} {k b : Nat} {H L : List Tx} {n : Int} (x : NumsOk nv h f) (hk : Hm h k) (h0 : h b = some H) (hL : Steps L) (hd : ∀ u ∈ L, isHop u = false) :
    NumsOk (putT nv [.inl (b : Int), .inr L.flatten] (.int n)) h (updP f (H ++ L) n) := by
  intro c G hc L2 hL2 hd2
  rw [lookT_put]
  by_cases e : ([.inl (c : Int), .inr L2.flatten] : TKey) = [.inl (b : Int), .inr L.flatten]
  · rw [if_pos e]
    injection e with e1 e2
    injection e1 with e1
    injection e2 with e2
    injection e2 with e2
    have e3 := steps_inj hL2 hL e2
    have e4 : c = b := by omega
    subst e4
    rw [h0] at hc
    injection hc with hc
    subst hc
    unfold updP
    rw [e3, if_pos rfl]
    rfl
  · rw [if_neg e, x c G hc L2 hL2 hd2]
    unfold updP
    rw [if_neg fun z => ?_]
    obtain ⟨e1, e2⟩ := dec_uniq0 (hk.sh _ _ hc) (hk.sh _ _ h0) hd2 hd z
    have e4 := hk.inj _ _ _ hc (by rw [e1]; exact h0)
    exact e (by rw [e4, e2])
theorem putT_nodup {kvs : List (TKey × D)} {k : TKey} {d : D} (h : (kvs.map (·.1)).Nodup) : ((putT kvs k d).map (·.1)).Nodup := by
  unfold putT
  by_cases ha : (kvs.any fun q => decide (q.1 = k)) = true
  · rw [if_pos ha, List.map_map]
    have e : kvs.map ((·.1) ∘ fun q : TKey × D => if q.1 = k then (q.1, d) else q) = kvs.map (·.1) := List.map_congr_left fun q _ => by
      show (if q.1 = k then (q.1, d) else q).1 = q.1
      split <;> rfl
    rw [e]
    exact h
  · have hm : k ∉ kvs.map (·.1) := fun z => by
      obtain ⟨q, hq, e⟩ := List.mem_map.mp z
      exact ha (List.any_eq_true.mpr ⟨q, hq, decide_eq_true e⟩)
    rw [if_neg ha, List.map_append]
    exact List.nodup_append.mpr ⟨h, List.nodup_cons.mpr ⟨List.not_mem_nil, List.nodup_nil⟩, fun a ha b hb e => hm (by rw [List.mem_singleton.mp hb] at e; have e : a = k := e; rw [← e]; exact ha)⟩
theorem putT_mem {kvs : List (TKey × D)} {k : TKey} {d : D} {q : TKey × D} (h : q ∈ putT kvs k d) : q = (k, d) ∨ q ∈ kvs := by
  unfold putT at h
  split at h
  · obtain ⟨p, hp, e⟩ := List.mem_map.mp h
    split at e
    · rename_i z
      left; rw [← e, z]
    · right; rw [← e]; exact hp
  · rcases List.mem_append.mp h with h | h
    · exact .inr h
    · exact .inl (List.mem_singleton.mp h)
theorem lookT_some {kvs : List (TKey × D)} {k : TKey} {d : D} (h : lookT kvs k = some d) : (k, d) ∈ kvs := by
  unfold lookT at h
  obtain ⟨q, h1, h2⟩ := Option.map_eq_some_iff.mp h
  have e0 := List.find?_some h1
  have e : q.1 = k := of_decide_eq_true e0
  rw [← e, ← h2]
  exact List.mem_of_find?_eq_some h1
theorem lookT_mem {kvs : List (TKey × D)} (nd : (kvs.map (·.1)).Nodup) {k : TKey} {d : D} (h : (k, d) ∈ kvs) : lookT kvs k = some d := by
  unfold lookT
  induction kvs with
  | nil => cases h
  | cons a r ih =>
    rw [List.map_cons, List.nodup_cons] at nd
    rw [List.find?_cons]
    rcases List.mem_cons.mp h with e | h
    · rw [← e]; simp
    · have n : a.1 ≠ k := fun e => nd.1 (by rw [e]; exact List.mem_map.mpr ⟨_, h, rfl⟩)
      rw [decide_eq_false n]
      exact ih nd.2 h
theorem lookT_none {kvs : List (TKey × D)} {k : TKey} (h : k ∉ kvs.map (·.1)) : lookT kvs k = none := by
  cases e : lookT kvs k with
  | none => rfl
  | some d => exact absurd (List.mem_map.mpr ⟨_, lookT_some e, rfl⟩) h
abbrev Nohop (L : List Tx) : Prop := ∀ u ∈ L, isHop u = false
def VNode (t : List Tx) : Prop := ∃ r l, t = r :: l ∧ Nm r ∧ Steps l
theorem vnode_inj {a b : List Tx} (ha : VNode a) (hb : VNode b) (e : a.flatten = b.flatten) : a = b := by
  obtain ⟨r, l, rfl, hr, hl⟩ := ha
  obtain ⟨r2, l2, rfl, hr2, hl2⟩ := hb
  rw [List.flatten_cons, List.flatten_cons] at e
  rw [← nd_parts hr hl, ← nd_parts hr2 hl2, e]
theorem VNode.app {a L : List Tx} (ha : VNode a) (hL : Steps L) : VNode (a ++ L) := by
  obtain ⟨r, l, rfl, hr, hl⟩ := ha
  exact ⟨r, l ++ L, rfl, hr, hl.append hL⟩
structure MPl (rv : KV) (bv nv : List (TKey × D)) (gv : List (DKey × D)) (h : Nat → Option (List Tx)) (k : Nat) (f : Tx → Int) (KS : List Tx) : Prop where
  hm : Hm h k
  hv : ∀ b t, h b = some t → VNode t ∧ t.length ≤ 100
  bx : BoxOk bv h k
  bk : ∀ q ∈ bv, ∃ (b : Nat) (H L : List Tx) (s : Tx), h b = some H ∧ Steps (L ++ [s]) ∧ Nohop L ∧ isHop s = true ∧ q.1 = [.inl (b : Int), .inr (L ++ [s]).flatten]
  bn : (bv.map (·.1)).Nodup
  rt : RootsOk rv h k
  rn : (rv.map (·.1)).Nodup
  gn : GoneOk gv h
  gl : gv.length ≤ k ∧ ∀ b : Nat, k < b → lookK gv (.inl (b : Int)) = none
  gd : ∀ b : Nat, 1 ≤ b → b ≤ k → h b = none → (lookK gv (.inl (b : Int))).isSome = true
  nm : NumsOk nv h (fun t => f t.flatten)
  nk : ∀ q ∈ nv, ∃ (b : Nat) (H L : List Tx) (n : Int), h b = some H ∧ Steps L ∧ Nohop L ∧ L.length ≤ 100 ∧ (H ++ L).flatten ∈ KS ∧ q = ([.inl (b : Int), .inr L.flatten], .int n)
  nn : (nv.map (·.1)).Nodup
  nl : nv.length ≤ KS.length
  cv : ∀ t, f t ≠ 0 → ∃ (b : Nat) (H L : List Tx), h b = some H ∧ Steps L ∧ Nohop L ∧ t = (H ++ L).flatten
theorem NumsOk.congr {nv : List (TKey × D)} {h : Nat → Option (List Tx)} {f g : List Tx → Int} (x : NumsOk nv h f) (e : ∀ b H L, h b = some H → Steps L → Nohop L → f (H ++ L) = g (H ++ L)) : NumsOk nv h g := fun b H hb L hL hd => by
  rw [x b H hb L hL hd, e b H L hb hL hd]
section
variable {rv : KV} {bv nv : List (TKey × D)} {gv : List (DKey × D)} {h : Nat → Option (List Tx)} {k : Nat} {f : Tx → Int} {KS : List Tx}
theorem MPl.grow (x : MPl rv bv nv gv h k f KS) {t : List Tx} {rv' : KV} {bv' : List (TKey × D)} (ht : HmT t) (vt : VNode t) (lt : t.length ≤ 100) (n : ∀ c, h c ≠ some t)
    (hm : Hm (addH h (k + 1) t) (k + 1)) (bx : BoxOk bv' (addH h (k + 1) t) (k + 1)) (bk : ∀ q ∈ bv', ∃ (b : Nat) (H L : List Tx) (s : Tx), addH h (k + 1) t b = some H ∧ Steps (L ++ [s]) ∧ Nohop L ∧ isHop s = true ∧ q.1 = [.inl (b : Int), .inr (L ++ [s]).flatten])
    (bn : (bv'.map (·.1)).Nodup) (rt : RootsOk rv' (addH h (k + 1) t) (k + 1)) (rn : (rv'.map (·.1)).Nodup) : MPl rv' bv' nv gv (addH h (k + 1) t) (k + 1) f KS := by
  have old : ∀ {b u}, h b = some u → addH h (k + 1) t b = some u := fun e => addH_old x.hm e
  refine ⟨hm, fun b u hb => ?_, bx, bk, bn, rt, rn, fun b u hb => ?_, ⟨by have := x.gl.1; omega, fun b hb => x.gl.2 b (by omega)⟩, fun b h1 h2 hn => x.gd b h1 (by
    unfold addH at hn
    split at hn
    · cases hn
    · omega) (by
    unfold addH at hn
    split at hn
    · cases hn
    · exact hn), fun b H hb L hL hd => ?_, fun q hq => ?_, x.nn, x.nl, fun u hu => ?_⟩
  · rcases addH_some hb with ⟨_, e⟩ | ⟨_, e⟩
    · rw [e]; exact ⟨vt, lt⟩
    · exact x.hv _ _ e
  · rcases addH_some hb with ⟨e, _⟩ | ⟨_, e⟩
    · rw [e]; exact x.gl.2 _ (by omega)
    · exact x.gn _ _ e
  · rcases addH_some hb with ⟨e1, e⟩ | ⟨_, e⟩
    · subst e1 e
      have z : lookT nv [.inl ((k + 1 : Nat) : Int), .inr L.flatten] = none := lookT_none fun m => by
        obtain ⟨q, hq, e⟩ := List.mem_map.mp m
        obtain ⟨b, H2, L2, n2, h1, _, _, _, _, rfl⟩ := x.nk q hq
        injection e with e _
        injection e with e
        have := x.hm.le _ _ h1
        omega
      rw [z]
      show D.int 0 = D.int (f (H ++ L).flatten)
      by_cases e0 : f (H ++ L).flatten = 0
      · rw [e0]
      · obtain ⟨b, H2, L2, h1, h2, h3, e⟩ := x.cv _ e0
        have e2 := vnode_inj (vt.app hL) ((x.hv _ _ h1).1.app h2) e
        obtain ⟨e3, _⟩ := dec_uniq0 ht (x.hm.sh _ _ h1) hd h3 e2
        exact absurd (by rw [e3]; exact h1) (n b)
    · exact x.nm _ _ e L hL hd
  · obtain ⟨b, H2, L2, n2, h1, h2⟩ := x.nk q hq
    exact ⟨b, H2, L2, n2, old h1, h2⟩
  · obtain ⟨b, H2, L2, h1, h2⟩ := x.cv u hu
    exact ⟨b, H2, L2, old h1, h2⟩
theorem MPl.hop (x : MPl rv bv nv gv h k f KS) {b : Nat} {H L : List Tx} {s : Tx} (h0 : h b = some H) (st : Steps (L ++ [s])) (hd : Nohop L) (hs : isHop s = true) (n : ∀ c, h c ≠ some (H ++ L ++ [s])) (ln : (H ++ L ++ [s]).length ≤ 100) :
    MPl rv (putT bv [.inl (b : Int), .inr ((L ++ [s]).flatten)] (.int ((k + 1 : Nat) : Int))) nv gv (addH h (k + 1) (H ++ L ++ [s])) (k + 1) f KS := by
  have old : ∀ {b u}, h b = some u → addH h (k + 1) (H ++ L ++ [s]) b = some u := fun e => addH_old x.hm e
  refine x.grow (hmT_hop (x.hm.sh _ _ h0) hs) (by rw [List.append_assoc]; exact (x.hv _ _ h0).1.app st) ln n (x.hm.add h0 hd hs n) (x.bx.add x.hm h0 st hd hs n) (fun q hq => ?_) (putT_nodup x.bn) (x.rt.mono (fun c t e => old e) (fun c r e => ?_) (Nat.le_succ _)) x.rn
  · rcases putT_mem hq with rfl | hq
    · exact ⟨b, H, L, s, old h0, st, hd, hs, rfl⟩
    · obtain ⟨c, H2, L2, s2, h1, h2⟩ := x.bk q hq
      exact ⟨c, H2, L2, s2, old h1, h2⟩
  · rcases addH_some e with ⟨_, e⟩ | ⟨_, e⟩
    · obtain ⟨z1, z2, z3, _⟩ := x.hm.sh _ _ h0
      have := congrArg List.length e
      rw [z3] at this
      simp only [List.length_append, List.length_cons, List.length_nil] at this
      omega
    · exact e
theorem MPl.root (x : MPl rv bv nv gv h k f KS) {r : Tx} (hr : Nm r) (n : ∀ c, h c ≠ some [r]) : MPl (putV rv r (.int ((k + 1 : Nat) : Int))) bv nv gv (addH h (k + 1) [r]) (k + 1) f KS := by
  refine x.grow ⟨r, [], rfl, rfl⟩ ⟨r, [], rfl, hr, Steps.nil⟩ (by simp) n (x.hm.addR n) (x.bx.addR x.hm n) (fun q hq => ?_) x.bn (x.rt.add x.hm) (putV_nodup x.rn)
  obtain ⟨c, H2, L2, s2, h1, h2⟩ := x.bk q hq
  exact ⟨c, H2, L2, s2, addH_old x.hm h1, h2⟩
theorem MPl.set (x : MPl rv bv nv gv h k f KS) {b : Nat} {H L : List Tx} {n : Int} (h0 : h b = some H) (hL : Steps L) (hd : Nohop L) (ll : L.length ≤ 100) :
    MPl rv bv (putT nv [.inl (b : Int), .inr L.flatten] (.int n)) gv h k (updF f (H ++ L).flatten n) (KS ++ [(H ++ L).flatten]) := by
  have vn : ∀ {c G M}, h c = some G → Steps M → VNode (G ++ M) := fun e s => (x.hv _ _ e).1.app s
  refine ⟨x.hm, x.hv, x.bx, x.bk, x.bn, x.rt, x.rn, x.gn, x.gl, x.gd, ?_, fun q hq => ?_, putT_nodup x.nn, ?_, fun u hu => ?_⟩
  · refine (x.nm.set x.hm h0 hL hd (n := n)).congr fun c G M hc hM _ => ?_
    unfold updP updF
    by_cases e : G ++ M = H ++ L
    · rw [if_pos e, if_pos (by rw [e])]
    · rw [if_neg e, if_neg fun z => e (vnode_inj (vn hc hM) (vn h0 hL) z)]
  · rcases putT_mem hq with rfl | hq
    · exact ⟨b, H, L, n, h0, hL, hd, ll, List.mem_append_right _ List.mem_cons_self, rfl⟩
    · obtain ⟨c, G, M, m, h1, h2, h3, h4, h5, h6⟩ := x.nk q hq
      exact ⟨c, G, M, m, h1, h2, h3, h4, List.mem_append_left _ h5, h6⟩
  · have := putT_len nv [.inl (b : Int), .inr L.flatten] (.int n)
    have := x.nl
    rw [List.length_append, List.length_singleton]
    omega
  · unfold updF at hu
    split at hu
    · rename_i e
      exact ⟨b, H, L, h0, hL, hd, e⟩
    · exact x.cv u hu
theorem MPl.look (x : MPl rv bv nv gv h k f KS) {b : Nat} {H L : List Tx} (h0 : h b = some H) (hL : Steps L) (hd : Nohop L) : (lookT nv [.inl (b : Int), .inr L.flatten]).getD (.int 0) = .int (f (H ++ L).flatten) := x.nm b H h0 L hL hd
theorem MPl.empty : MPl [] [] [] [] (fun _ => none) 0 (fun _ => 0) [] :=
  ⟨⟨(fun _ _ e => nomatch e), (fun _ _ _ _ e => nomatch e), (fun _ _ _ e => nomatch e), (fun _ _ e => nomatch e)⟩, (fun _ _ e => nomatch e), ⟨Nat.le_refl _, (fun _ _ _ => rfl), (fun _ _ e => nomatch e)⟩, (fun _ h => nomatch h), List.nodup_nil, ⟨Nat.le_refl _, fun _ _ e => nomatch e⟩, List.nodup_nil, (fun _ _ e => nomatch e),
    ⟨Nat.le_refl _, fun _ _ => rfl⟩, (fun b h1 h2 _ => by omega), (fun _ _ e => nomatch e), (fun _ h => nomatch h), List.nodup_nil, Nat.le_refl _, fun _ e => absurd rfl e⟩
theorem MPl.sup (x : MPl rv bv nv gv h k f KS) {t : Tx} (e : f t ≠ 0) : t ∈ KS := by
  obtain ⟨b, H, L, h1, h2, h3, rfl⟩ := x.cv t e
  have k1 := x.look h1 h2 h3
  cases z : lookT nv [.inl (b : Int), .inr L.flatten] with
  | none =>
    rw [z] at k1
    injection k1 with k1
    exact absurd k1.symm e
  | some d =>
    obtain ⟨c, G, M, m, a1, a2, a3, a4, a5, a6⟩ := x.nk _ (lookT_some z)
    injection a6 with a6 _
    injection a6 with b1 b2
    injection b1 with b1
    injection b2 with b2
    injection b2 with b2
    have b1 : b = c := by omega
    subst b1
    rw [h1] at a1
    injection a1 with a1
    subst a1
    rw [steps_inj h2 a2 b2]
    exact a5
end
end DL
namespace DL
open PySem L2
local macro_rules | `(tactic| walk_at "dl") => `(tactic| try simp (config := { proj := false }) only [↓ex_mk, ↓nx_mk, ↓rt_mk, ↓bk_mk, ↓ct_mk, ↓xc_mk, ↓u_c, ↓u_op, ↓u_un, ↓u_and, ↓u_or, ↓u_not, ↓u_if, ↓u_anil, ↓u_acons, ↓u_lst, ↓u_lstM, ↓u_tup, ↓u_call, ↓u_sl, ↓u_onone, ↓u_cb, ↓u_mt, ↓u_mt0, ↓u_pass, ↓u_seq, ↓u_set, ↓u_asg, ↓u_drop, ↓u_ret, ↓u_retN, ↓u_ifs, ↓u_brk, ↓u_cnt, ↓u_for, ↓u_gname, ↓u_gsub, ↓u_fs, ↓u_fmt, ↓u_js0, ↓u_js, ↓u_em, ↓u_yes, ↓u_never, ↓u_ref, ↓u_forR, ↓u_star, ↓u_dict, ↓u_dict0, ↓u_dp0, ↓u_dp1, ↓u_forK, ↓u_lock, ↓u_kd, ↓u_fld, ↓u_setF, ↓u_make, ↓u_binL, ↓u_binR, ↓u_inO, ↓u_getO, ↓u_setO, ↓u_augO, ↓u_prp, ↓u_inv, ↓u_meth, ↓u_keys, ↓u_try, ↓u_cm, ↓u_makeV, ↓r_enum, ↓r_own, ↓u_raise, ↓u_tryas, ↓u_ca, ↓u_xf, ↓u_idxC, su_mk,
  ↓r_var, ↓r_test, ↓r_andV, ↓r_orV, ↓r_notV, ↓r_tru, ↓r_frz, ↓r_osome, ↓r_any, ↓r_scr, scr_c, ↓r_rng1, ↓r_rng2, ↓r_fz, wipeD,
  onSome_s, onBl_b, onInt_i, onStr_s, onVar_s, onML_l, onML2_l, onML2_d, onDK_d, fmt_s, fmt_i, tru_n, tru_b, tru_i, tru_s, tru_l, tru_t, tru_r, frz_r, sl_s, sl_l, sl_t, sl_r, add_i, add_s, add_l, add_t, add_rl, add_lr, sub_i, mul_i, div_i, mod_i, pow_i, neg_i, cmp_i, eq_i, eq_s, eq_b, eq_n, eq_l, eq_t, eq_rl, eq_lr, eq_ni, eq_in, eq_ns, eq_sn, eq_nb, eq_bn, eq_is, eq_si,
  ix_l, ix_t, ix_s, ix_ri, ix_rs, in_ss, in_l, in_t, in_ir, in_sr, isB_t, isB_f, ltS_s, gtS_s, sorted_l, keyK_s, keyK_i, u_dget, lenOR_r, listOR_r, isn_n, isn_b, isn_i, isn_s, isn_r, isn_l, isn_t, len_s, len_c, len_l, len_t, len_r, int_i, int_b, min_ii, max_ii, list_l, list_t, list_r, list_c, listM_l, listM_c, listM_t, listM_r, isi_, isi_k, ty_n, ty_b, ty_i, ty_s, ty_l, ty_t, it_s, it_l, it_r, itM_l, itM_d, app_r, rev_r, ends_s, ins_r, set_rs, str_i, str_s, ext_l, pop_r, clr_r, star_l, star_t, star_r, onRef_r, onML3_l, onML3_d, onML3_f, onDR_d, onDR_f, onFK_f, join_l, join_t, join_r, starts_s, r_gtup, r_glst, r_gnil, r_gcons, set_r, items_s, items_l, items_t, rng1_i, rng2_i, fz_r, addM_l, addM_rl, onIns_i, onLst_l, isIns_r, isInsM_i, noF_r, noFM_i, rows_r, lenO_r, listO_r, listOM_r, isCK_i, isCK_l, isC_r, isC_s, isC_i, isC_b, isC_n, isC_l, isC_t, putG_0, putG_1, lk_1, onCl_c, onEnum_l, index_l, strO_r, cmpO_r, pop1_r, tuple_l, tuple_t, divmod_i, upper_s, indexT_t, onExc_e, isE_t, isE_c, isE_v, zip_1,
  List.map_cons, List.map_nil, List.cons_append, List.nil_append, List.length_cons, List.length_nil, List.replicate, List.getElem?_cons_zero, List.getElem?_cons_succ, List.set_cons_zero, List.set_cons_succ, id, decide_eq_true_eq, if_true, if_false, Bool.false_eq_true, reduceIte, Bool.not_true, Bool.not_false, true_and, Nat.reduceAdd, Nat.reduceSub, Int.reduceToNat, Int.toNat_natCast, put_same, put_put, atI_0, atI_1, atI_2, atI_3, atI_4, ixN_40, ixN_41, ixN_42, ixN_43])
structure MAd where
  m : Addr
  r : Addr
  x : Addr
  n : Addr
  g : Addr
abbrev memM (A : MAd) (k : Int) : MO := .ins "Memory" [("_roots", .ref A.r), ("_boxes", .ref A.x), ("_numbers", .ref A.n), ("_gone", .ref A.g), ("_made", .int k)]
theorem mm_r {a b c d e : D} : List.lookup (Str.ofString "_roots") [(Str.ofString "_roots", a), (Str.ofString "_boxes", b), (Str.ofString "_numbers", c), (Str.ofString "_gone", d), (Str.ofString "_made", e)] = some a := rfl
theorem mm_x {a b c d e : D} : List.lookup (Str.ofString "_boxes") [(Str.ofString "_roots", a), (Str.ofString "_boxes", b), (Str.ofString "_numbers", c), (Str.ofString "_gone", d), (Str.ofString "_made", e)] = some b := rfl
theorem mm_n {a b c d e : D} : List.lookup (Str.ofString "_numbers") [(Str.ofString "_roots", a), (Str.ofString "_boxes", b), (Str.ofString "_numbers", c), (Str.ofString "_gone", d), (Str.ofString "_made", e)] = some c := rfl
theorem mm_g {a b c d e : D} : List.lookup (Str.ofString "_gone") [(Str.ofString "_roots", a), (Str.ofString "_boxes", b), (Str.ofString "_numbers", c), (Str.ofString "_gone", d), (Str.ofString "_made", e)] = some d := rfl
theorem mm_m {a b c d e : D} : List.lookup (Str.ofString "_made") [(Str.ofString "_roots", a), (Str.ofString "_boxes", b), (Str.ofString "_numbers", c), (Str.ofString "_gone", d), (Str.ofString "_made", e)] = some e := rfl
theorem pm_m {a b c d e z : D} : putG (Str.ofString "_made") z [(Str.ofString "_roots", a), (Str.ofString "_boxes", b), (Str.ofString "_numbers", c), (Str.ofString "_gone", d), (Str.ofString "_made", e)] = [(Str.ofString "_roots", a), (Str.ofString "_boxes", b), (Str.ofString "_numbers", c), (Str.ofString "_gone", d), (Str.ofString "_made", z)] := rfl
theorem nm_isN {x : Tx} (h : Nm x) : isNm x = true := by
  unfold isNm
  obtain ⟨h1, h2, h3⟩ := h
  have h0 : x ≠ [] := fun z => by rw [z] at h1; cases h1
  first
    | (rw [decide_eq_false h0, decide_eq_true h2]; simp; exact h3)
    | (simp [h0, h2]; exact h3)
    | (simp [h0, h2]; intro c hc; exact h3 c hc)
def sp_Memory__new_block : DSp := fun ds M Q _ => ∃ (A : MAd) (k : Int), ds = [.ref A.m] ∧ M A.m = some (memM A k) ∧ Q (.int (k + 1)) (put M A.m (memM A (k + 1)))
def w_Memory__new_block : DTS := dSeq (dAugF "Memory" "_made" gIAdd (dVar 0) (dC (.int 1))) (dRet (dFld "Memory" "_made" (dVar 0)))
theorem p_Memory__new_block : ∀ ds M Q E, sp_Memory__new_block ds M Q E → w_Memory__new_block (Ret Q E) (ds.map some ++ List.replicate (1 - 1) none) M := by
  rintro ds M Q E ⟨A, k, rfl, h, hQ⟩
  unfold w_Memory__new_block
  iterate 10 ((try simp only [u_augF, h, mm_m, iadd_i, pm_m, put_same]); walk_at "dl")
  exact ⟨by decide, hQ⟩
def sp_Memory_alive : DSp := fun ds M Q _ => ∃ (A : MAd) (k : Int) (b : Int) (i : Tx) (gv : List (DKey × D)), ds = [.ref A.m, .tup [.int b, .str i]] ∧ M A.m = some (memM A k) ∧ M A.g = some (.dK gv) ∧ Q (.bl !(lookK gv (.inl b)).isSome) M
def w_Memory_alive : DTS := dRet (dOp gNotIn (dOp gIx (dVar 1) (dC (.int 0))) (dFld "Memory" "_gone" (dVar 0)))
theorem p_Memory_alive : ∀ ds M Q E, sp_Memory_alive ds M Q E → w_Memory_alive (Ret Q E) (ds.map some ++ List.replicate (2 - 2) none) M := by
  rintro ds M Q E ⟨A, k, b, i, gv, rfl, h, hg, hQ⟩
  unfold w_Memory_alive
  iterate 10 ((try simp only [h, mm_g, hg, atI_0]); walk_at "dl")
  exact hQ
structure MemOk (M : Mu) (A : MAd) (h : Nat → Option (List Tx)) (k : Nat) (f : Tx → Int) (KS : List Tx) : Prop where
  ex : ∃ (rv : KV) (bv nv : List (TKey × D)) (gv : List (DKey × D)), M A.m = some (memM A (k : Nat)) ∧ M A.r = some (.dK (rv.map kvD)) ∧ M A.x = some (.dT bv) ∧ M A.n = some (.dT nv) ∧ M A.g = some (.dK gv) ∧ A.x ≠ A.n ∧ A.r ≠ A.g ∧ MPl rv bv nv gv h k f KS
def OffM (A : MAd) (M M' : Mu) : Prop := ∀ a o, a ≠ A.m → a ≠ A.r → a ≠ A.x → a ≠ A.n → a ≠ A.g → M a = some o → M' a = some o
theorem OffM.refl (A : MAd) (M : Mu) : OffM A M M := fun _ _ _ _ _ _ _ e => e
theorem OffM.trans {A : MAd} {M M1 M2 : Mu} (a : OffM A M M1) (b : OffM A M1 M2) : OffM A M M2 := fun x o h1 h2 h3 h4 h5 e => b x o h1 h2 h3 h4 h5 (a x o h1 h2 h3 h4 h5 e)
theorem OffM.xt {A : MAd} {M M1 : Mu} (a : Xt M M1) : OffM A M M1 := fun x o _ _ _ _ _ e => a x o e
structure GrowH (h h' : Nat → Option (List Tx)) (k k' : Nat) : Prop where
  up : ∀ c t, h c = some t → h' c = some t
  nw : ∀ c t, h' c = some t → h c = some t ∨ k < c
  le : k ≤ k'
theorem GrowH.refl (h : Nat → Option (List Tx)) (k : Nat) : GrowH h h k k := ⟨fun _ _ e => e, fun _ _ e => .inl e, Nat.le_refl _⟩
theorem GrowH.trans {h h1 h2 : Nat → Option (List Tx)} {k k1 k2 : Nat} (a : GrowH h h1 k k1) (b : GrowH h1 h2 k1 k2) : GrowH h h2 k k2 := ⟨fun c t e => b.up c t (a.up c t e), fun c t e => (b.nw c t e).elim (a.nw c t) fun l => .inr (Nat.lt_of_le_of_lt a.le l), Nat.le_trans a.le b.le⟩
theorem GrowH.add {h : Nat → Option (List Tx)} {k : Nat} {t : List Tx} (hk : Hm h k) : GrowH h (addH h (k + 1) t) k (k + 1) := ⟨fun c u e => addH_old hk e, fun c u e => by
  rcases addH_some e with ⟨e, _⟩ | ⟨_, e⟩
  · right; omega
  · exact .inl e, Nat.le_succ _⟩
def sp_Memory__walk : DSp := fun ds M Q _ => ∃ (A : MAd) (h : Nat → Option (List Tx)) (k : Nat) (f : Tx → Int) (KS : List Tx) (b : Nat) (H L l : List Tx), ds = [.ref A.m, .tup [.int b, .str L.flatten], .str l.flatten] ∧ MemOk M A h k f KS ∧ h b = some H ∧ Steps L ∧ Nohop L ∧ Steps l ∧ (H ++ L ++ l).length ≤ 100 ∧ k + l.length ≤ 900000 ∧
  ∀ (h' : Nat → Option (List Tx)) (k' b' : Nat) (H' L' : List Tx) M', GrowH h h' k k' → k' ≤ k + l.length → MemOk M' A h' k' f KS → h' b' = some H' → Steps L' → Nohop L' → H' ++ L' = H ++ L ++ l → OffM A M M' → Q (.tup [.int b', .str L'.flatten]) M'
def w_Memory__walk_c1 : DTS := dSeq (dSet 3 (dOp gIxT (dFld "Memory" "_boxes" (dVar 0)) (dVar 6))) (dSet 4 (dC (.str [])))
def w_Memory__walk_b2 : DTS := dSeq (dAugN 4 gIAdd (dVar 5)) (dIfS (dTest (dOp gEq (dOp gIx (dVar 5) (dC (.int 0))) (dC (.str [94])))) (dSeq (dSet 6 (dTup (daCons (dVar 3) (daCons (dVar 4) (daNil))))) (dSeq (dIfS (dTest (dOp gNotInT (dVar 6) (dFld "Memory" "_boxes" (dVar 0)))) (dAsg (dMeth "Memory" "_new_block" sp_Memory__new_block (dVar 0) daNil) (dgSub (dFld "Memory" "_boxes" (dVar 0)) (dVar 6) gSetT)) (dPass)) (w_Memory__walk_c1))) (dPass))
def w_Memory__walk_c3 : DTS := dRet (dTup (daCons (dVar 3) (daCons (dVar 4) (daNil))))
def w_Memory__walk : DTS := dSeq (dAsg (dVar 1) (dgTup 2 (dgCons 3 (dgCons 4 (dgNil))))) (dSeq (dFor (diAny (dCall sp_steps_of (daCons (dVar 2) (daNil)))) (dgName 5) (w_Memory__walk_b2)) (w_Memory__walk_c3))
theorem p_Memory__walk : ∀ ds M Q E, sp_Memory__walk ds M Q E → w_Memory__walk (Ret Q E) (ds.map some ++ List.replicate (7 - 3) none) M := by
  rintro ds M Q E ⟨A, h, k, f, KS, b, H, L, l, rfl, ⟨rv, bv, nv, gv, hm, hr, hx, hn, hg, nxn, nrg, mp⟩, h0, hL, hd, hl, hlen, hkk, hQ⟩
  have nmx : A.m ≠ A.x := fun z => by rw [z, hx] at hm; cases hm
  have nrx : A.r ≠ A.x := fun z => by rw [z, hx] at hr; cases hr
  have nrm : A.r ≠ A.m := fun z => by rw [z, hm] at hr; cases hr
  have nnm : A.n ≠ A.m := fun z => by rw [z, hm] at hn; cases hn
  have ngm : A.g ≠ A.m := fun z => by rw [z, hm] at hg; cases hg
  have ngx : A.g ≠ A.x := fun z => by rw [z, hx] at hg; cases hg
  unfold w_Memory__walk
  walk_at "dl"
  have lfl := hl.len
  simp only [List.length_append] at hlen
  refine ⟨l, rfl, by omega, fun t ht => (hl t ht).part, fun M0 x0 => ?_⟩
  have hall : (l.all fun t => isNm (t.drop 1)) = true := List.all_eq_true.mpr fun t ht => by
    obtain ⟨c, r, rfl, _, hr⟩ := hl t ht
    exact nm_isN hr
  rw [if_pos hall]
  replace hm := x0 _ _ hm
  replace hx := x0 _ _ hx
  replace hr := x0 _ _ hr
  replace hn := x0 _ _ hn
  replace hg := x0 _ _ hg
  replace hQ := fun h' k' b' H' L' M' a1 a2 a3 a4 a5 a6 a7 (a8 : OffM A M0 M') => hQ h' k' b' H' L' M' a1 a2 a3 a4 a5 a6 a7 ((OffM.xt x0).trans a8)
  clear x0
  generalize M0 = M at hm hx hr hn hg hQ ⊢
  walk_at "dl"
  refine wFor_by (fun j τ M' => ∃ (h' : Nat → Option (List Tx)) (k' b' : Nat) (H' L' : List Tx) (bv' : List (TKey × D)) (x5 x6 : Option D), τ = [some (.ref A.m), some (.tup [.int b, .str L.flatten]), some (.str l.flatten), some (.int b'), some (.str L'.flatten), x5, x6] ∧ GrowH h h' k k' ∧ k' ≤ k + j ∧ M' A.m = some (memM A (k' : Nat)) ∧ M' A.x = some (.dT bv') ∧ MPl rv bv' nv gv h' k' f KS ∧ h' b' = some H' ∧ Steps L' ∧ Nohop L' ∧ H' ++ L' = H ++ L ++ l.take j ∧ ∀ a, a ≠ A.m → a ≠ A.x → M' a = M a)
    ⟨h, k, b, H, L, bv, _, _, rfl, GrowH.refl _ _, Nat.le_refl _, hm, hx, mp, h0, hL, hd, by simp, fun _ _ _ => rfl⟩ ?_ ?_
  · rintro j d τ M' hdj ⟨h', k', b', H', L', bv', x5, x6, rfl, gh, hkj, hm', hx', mp', h0', hL', hd', he, hf⟩ nxt hnx
    obtain ⟨s, hs, rfl⟩ := map_at hdj
    have hj := (List.getElem?_eq_some_iff.mp hs).1
    have hsS := hl s (List.mem_of_getElem? hs)
    have lf := hL'.len
    have ls := hsS.len
    have etk : l.take (j + 1) = l.take j ++ [s] := by rw [List.take_succ, hs]; rfl
    have hlen2 := congrArg List.length he
    simp only [List.length_append, List.length_take] at hlen2
    have eS : Steps (L' ++ [s]) := hL'.append (Steps.one hsS)
    have eF : L'.flatten ++ s = (L' ++ [s]).flatten := by rw [List.flatten_append, List.flatten_singleton]
    obtain ⟨c, r, rfl, hc, _⟩ := hsS
    rw [List.length_cons] at ls
    walk_at "dl"
    unfold w_Memory__walk_b2
    iterate 10 ((try simp only [u_augN, iadd_s, atI_0]); walk_at "dl")
    refine ⟨by omega, by omega, ?_⟩
    rw [eF]
    by_cases h94 : c = 94
    · subst h94
      have hop : isHop (94 :: r) = true := rfl
      rw [if_pos rfl]
      iterate 10 ((try simp only [hm', mm_x, ninT_r]); walk_at "dl")
      refine ⟨by decide, onTK_is hx' ?_⟩
      have q := mp'.bx.2.2 b' H' h0' L' _ eS hd' hop
      have go : ∀ (M3 : Mu) (h3 : Nat → Option (List Tx)) (k3 c : Nat) (bv3 : List (TKey × D)) (x5 : Option D), GrowH h h3 k k3 → k3 ≤ k + (j + 1) → M3 A.m = some (memM A (k3 : Nat)) → M3 A.x = some (.dT bv3) → MPl rv bv3 nv gv h3 k3 f KS → h3 c = some (H' ++ L' ++ [94 :: r]) → lookT bv3 [.inl (b' : Int), .inr ((L' ++ [94 :: r]).flatten)] = some (.int c) → (∀ a, a ≠ A.m → a ≠ A.x → M3 a = M a) →
          w_Memory__walk_c1 { nx := nxt, rt := Q, bk := w_Memory__walk_c3 (Ret Q E), ct := nxt, xc := fun x x_1 M' => E x M' } [some (.ref A.m), some (.tup [.int b, .str L.flatten]), some (.str l.flatten), some (.int b'), some (.str (L' ++ [94 :: r]).flatten), x5, some (.tup [.int b', .str (L' ++ [94 :: r]).flatten])] M3 := fun M3 h3 k3 c bv3 x5 g1 g3 g4 g5 g6 g7 g8 g9 => by
        unfold w_Memory__walk_c1
        iterate 10 ((try simp only [g4, mm_x, ixT_r]); walk_at "dl")
        refine onTK_is g5 ⟨_, g8, ?_⟩
        walk_at "dl"
        exact hnx _ _ ⟨h3, k3, c, H' ++ L' ++ [94 :: r], [], bv3, _, _, rfl, g1, g3, g4, g5, g6, g7, Steps.nil, (fun u hu => nomatch hu), by rw [List.append_nil, etk, ← List.append_assoc, he], g9⟩
      cases z : lookT bv' [.inl (b' : Int), .inr ((L' ++ [94 :: r]).flatten)] with
      | some d =>
        rw [z] at q
        obtain ⟨c, rfl, hc2⟩ := q
        walk_at "dl"
        exact go M' h' k' c bv' _ gh (by omega) hm' hx' mp' hc2 z hf
      | none =>
        rw [z] at q
        iterate 10 ((try simp only [hm']); walk_at "dl")
        refine ⟨by decide, A, k', rfl, hm', ?_⟩
        iterate 10 ((try simp only [put_same, mm_x, setT_r]); walk_at "dl")
        have hbl := mp'.bx.1
        refine ⟨A.x, bv', _, [.inl (b' : Int), .inr ((L' ++ [94 :: r]).flatten)], rfl, rfl, by rw [put_ne (Ne.symm nmx)]; exact hx', rfl, rfl, by omega, ?_⟩
        rw [show ((k' : Nat) : Int) + 1 = ((k' + 1 : Nat) : Int) from rfl]
        refine go _ (addH h' (k' + 1) (H' ++ L' ++ [94 :: r])) (k' + 1) (k' + 1) _ _ (gh.trans (GrowH.add mp'.hm)) (by omega) ?_ put_same (mp'.hop h0' eS hd' hop q (by simp only [List.length_append, List.length_singleton]; omega)) ?_ ?_ fun a a1 a2 => by rw [put_ne a2, put_ne a1, hf a a1 a2]
        · rw [put_ne nmx, put_same]
        · unfold addH; rw [if_pos rfl]
        · rw [lookT_put, if_pos rfl]
    · rw [if_neg (by simpa using h94)]
      have hop : isHop (c :: r) = false := by unfold isHop; simpa using h94
      refine hnx _ _ ⟨h', k', b', H', L' ++ [c :: r], bv', _, _, rfl, gh, by omega, hm', hx', mp', h0', eS, fun u hu => ?_, by rw [etk, ← List.append_assoc, he, ← List.append_assoc], hf⟩
      rcases List.mem_append.mp hu with hu | hu
      · exact hd' u hu
      · rw [List.mem_singleton.mp hu]; exact hop
  · rintro τ M' ⟨h', k', b', H', L', bv', x5, x6, rfl, gh, hkj, hm', hx', mp', h0', hL', hd', he, hf⟩
    rw [txs, List.length_map] at hkj he
    rw [List.take_length] at he
    unfold w_Memory__walk_c3
    walk_at "dl"
    refine ⟨by decide, hQ h' k' b' H' L' M' gh hkj ⟨rv, bv', nv, gv, hm', ?_, hx', ?_, ?_, nxn, nrg, mp'⟩ h0' hL' hd' he fun a o n1 n2 n3 n4 n5 e => by rw [hf a n1 n3]; exact e⟩
    · rw [hf _ nrm nrx]; exact hr
    · rw [hf _ nnm (Ne.symm nxn)]; exact hn
    · rw [hf _ ngm ngx]; exact hg
def sp_Memory_locate : DSp := fun ds M Q _ => ∃ (A : MAd) (h : Nat → Option (List Tx)) (k : Nat) (f : Tx → Int) (KS : List Tx) (r : Tx) (l : List Tx), ds = [.ref A.m, .str (r ++ l.flatten)] ∧ MemOk M A h k f KS ∧ Nm r ∧ Steps l ∧ l.length ≤ 90 ∧ k + l.length ≤ 800000 ∧
  ∀ (h' : Nat → Option (List Tx)) (k' b' : Nat) (H' L' : List Tx) M', GrowH h h' k k' → k' ≤ k + l.length + 1 → MemOk M' A h' k' f KS → h' b' = some H' → Steps L' → Nohop L' → H' ++ L' = r :: l → OffM A M M' → Q (.tup [.int b', .str L'.flatten]) M'
def w_Memory_locate_c1 : DTS := dRet (dMeth "Memory" "_walk" sp_Memory__walk (dVar 0) (daCons (dTup (daCons (dOp gIx (dFld "Memory" "_roots" (dVar 0)) (dVar 2)) (daCons (dC (.str [])) (daNil)))) (daCons (dSl (dVar 1) (doSome (dCB gLen (daCons (dVar 2) (daNil)))) (doNone)) (daNil))))
def w_Memory_locate : DTS := dSeq (dSet 2 (dCall sp_root_of (daCons (dVar 1) (daNil)))) (dSeq (dIfS (dTest (dOp gNotIn (dVar 2) (dFld "Memory" "_roots" (dVar 0)))) (dAsg (dMeth "Memory" "_new_block" sp_Memory__new_block (dVar 0) daNil) (dgSub (dFld "Memory" "_roots" (dVar 0)) (dVar 2) gSetA)) (dPass)) (w_Memory_locate_c1))
theorem p_Memory_locate : ∀ ds M Q E, sp_Memory_locate ds M Q E → w_Memory_locate (Ret Q E) (ds.map some ++ List.replicate (3 - 2) none) M := by
  rintro ds M Q E ⟨A, h, k, f, KS, r, l, rfl, ⟨rv, bv, nv, gv, hm, hr, hx, hn, hg, nxn, nrg, mp⟩, nr, hl, hn', hkk, hQ⟩
  have lfl := hl.len
  have lr := nr.2.1
  have nmr : A.m ≠ A.r := fun z => by rw [z, hr] at hm; cases hm
  have nxr : A.x ≠ A.r := fun z => by rw [z, hr] at hx; cases hx
  have nnr : A.n ≠ A.r := fun z => by rw [z, hr] at hn; cases hn
  have nmx : A.x ≠ A.m := fun z => by rw [z, hm] at hx; cases hx
  have nnm : A.n ≠ A.m := fun z => by rw [z, hm] at hn; cases hn
  have ngm : A.g ≠ A.m := fun z => by rw [z, hm] at hg; cases hg
  unfold w_Memory_locate
  walk_at "dl"
  refine ⟨r ++ l.flatten, r, l, rfl, by rw [List.length_append]; omega, ?_, ?_⟩
  · exact ⟨lett_plain nr.2.2, fun t ht => (hl t ht).part, rfl⟩
  · have go : ∀ (M3 : Mu) (h3 : Nat → Option (List Tx)) (k3 c : Nat) (rv3 : KV), GrowH h h3 k k3 → k3 ≤ k + 1 → M3 A.m = some (memM A (k3 : Nat)) → M3 A.r = some (.dK (rv3.map kvD)) → MPl rv3 bv nv gv h3 k3 f KS → getV rv3 r = some (.int c) → h3 c = some [r] → (∀ a, a ≠ A.m → a ≠ A.r → M3 a = M a) →
        w_Memory_locate_c1 (Ret Q E) [some (.ref A.m), some (.str (r ++ l.flatten)), some (.str r)] M3 := fun M3 h3 k3 c rv3 g1 g3 g4 g6 g7 g9 g10 g11 => by
      unfold w_Memory_locate_c1
      iterate 10 ((try simp only [g4, mm_r, g6, lookK_kv, g9, cut_nat]); walk_at "dl")
      rw [List.drop_left]
      refine ⟨by decide, by decide, by omega, by rw [List.length_append]; omega, A, h3, k3, f, KS, c, [r], [], l, rfl, ⟨rv3, bv, nv, gv, g4, g6, ?_, ?_, ?_, nxn, nrg, g7⟩, g10, Steps.nil, (fun u hu => nomatch hu), hl, by simp only [List.length_append, List.length_nil, List.length_singleton]; omega, by omega, fun h' k' b' H' L' M' a1 a2 a3 a4 a5 a6 a7 a8 => ?_⟩
      · rw [g11 _ nmx nxr]; exact hx
      · rw [g11 _ nnm nnr]; exact hn
      · rw [g11 _ ngm (Ne.symm nrg)]; exact hg
      walk_at "dl"
      exact hQ h' k' b' H' L' M' (g1.trans a1) (by omega) a3 a4 a5 a6 (by rw [a7]; rfl) fun a o n1 n2 n3 n4 n5 e => a8 a o n1 n2 n3 n4 n5 (by rw [g11 a n1 n2]; exact e)
    iterate 10 ((try simp only [hm, mm_r, hr, lookK_kv]); walk_at "dl")
    have q := mp.rt.2 r
    cases z : getV rv r with
    | some d =>
      rw [z] at q
      obtain ⟨c, rfl, hc⟩ := q
      walk_at "dl"
      exact go M h k c rv (GrowH.refl _ _) (by omega) hm hr mp z hc fun _ _ _ => rfl
    | none =>
      rw [z] at q
      have hrl := mp.rt.1
      iterate 10 ((try simp only [hm]); walk_at "dl")
      refine ⟨by decide, A, k, rfl, hm, ?_⟩
      have e1 : put M A.m (memM A ((k : Int) + 1)) A.r = some (.dK (rv.map kvD)) := by rw [put_ne (Ne.symm nmr)]; exact hr
      iterate 10 ((try simp only [put_same, mm_r, e1]); walk_at "dl")
      rw [putD_kv, show ((k : Nat) : Int) + 1 = ((k + 1 : Nat) : Int) from rfl]
      refine ⟨by rw [List.length_map]; omega, ?_⟩
      refine go _ (addH h (k + 1) [r]) (k + 1) (k + 1) (putV rv r (.int ((k + 1 : Nat) : Int))) (GrowH.add mp.hm) (Nat.le_refl _) ?_ put_same (mp.root nr q) ?_ ?_ fun a n1 n2 => by rw [put_ne n2, put_ne n1]
      · rw [put_ne nmr, put_same]
      · rw [putV_get, if_pos rfl]
      · unfold addH; rw [if_pos rfl]
def s0_Memory__check : DSp := fun ds M Q _ => ∃ (A : MAd) (k : Int) (b : Int) (i : Tx) (gv : List (DKey × D)), ds = [.ref A.m, .tup [.int b, .str i]] ∧ M A.m = some (memM A k) ∧ M A.g = some (.dK gv) ∧ lookK gv (.inl b) = none ∧ Q .non M
def StlX (M : Mu) (A : MAd) (b : Int) (i : Tx) : Prop := ∃ (k : Int) (gv : List (DKey × D)), M A.m = some (memM A k) ∧ M A.g = some (.dK gv) ∧ (lookK gv (.inl b)).isSome = true
def sp_Memory__check : DSp := fun ds M Q E => s0_Memory__check ds M Q E ∨ ∃ (A : MAd) (b : Int) (i : Tx), ds = [.ref A.m, .tup [.int b, .str i]] ∧ StlX M A b i ∧ E ⟨"Stale", [("address", .tup [.int b, .str i])]⟩ M
theorem check_ok {ds : List D} {M : Mu} {Q : DK} {E : DX} (h : s0_Memory__check ds M Q E) : sp_Memory__check ds M Q E := .inl h
def w_Memory__check : DTS := dIfS (dNot (dTru (dMeth "Memory" "alive" sp_Memory_alive (dVar 0) (daCons (dVar 1) (daNil))))) (dRaise "Stale" "address" (dVar 1)) (dPass)
theorem q_Memory__check : ∀ ds M Q E, s0_Memory__check ds M Q E → w_Memory__check (Ret Q E) (ds.map some ++ List.replicate (2 - 2) none) M := by
  rintro ds M Q E ⟨A, k, b, i, gv, rfl, h, hg, hz, hQ⟩
  unfold w_Memory__check
  iterate 10 ((try simp only [h]); walk_at "dl")
  refine ⟨by decide, A, k, b, i, gv, rfl, h, hg, ?_⟩
  rw [hz]
  walk_at "dl"
  exact hQ
theorem p_Memory__check : ∀ ds M Q E, sp_Memory__check ds M Q E → w_Memory__check (Ret Q E) (ds.map some ++ List.replicate (2 - 2) none) M := by
  rintro ds M Q E (h | ⟨A, b, i, rfl, ⟨k, gv, h, hg, hz⟩, hE⟩)
  · exact q_Memory__check ds M Q E h
  · unfold w_Memory__check
    iterate 10 ((try simp only [h]); walk_at "dl")
    refine ⟨by decide, A, k, b, i, gv, rfl, h, hg, ?_⟩
    rw [hz]
    walk_at "dl"
    exact hE
theorem MemOk.stl {M : Mu} {A : MAd} {h : Nat → Option (List Tx)} {k : Nat} {f : Tx → Int} {KS : List Tx} (m : MemOk M A h k f KS) {b : Nat} (b1 : 1 ≤ b) (bk : b ≤ k) (e : h b = none) (i : Tx) : StlX M A b i := by
  obtain ⟨rv, bv, nv, gv, hm, hr, hx, hn, hg, nxn, nrg, mp⟩ := m
  exact ⟨_, gv, hm, hg, mp.gd b b1 bk e⟩
def s0_Memory_number : DSp := fun ds M Q _ => ∃ (A : MAd) (h : Nat → Option (List Tx)) (k : Nat) (f : Tx → Int) (KS : List Tx) (b : Nat) (H L l : List Tx), ds = [.ref A.m, .tup [.int b, .str L.flatten], .str l.flatten] ∧ MemOk M A h k f KS ∧ h b = some H ∧ Steps L ∧ Nohop L ∧ Steps l ∧ (H ++ L ++ l).length ≤ 100 ∧ k + l.length ≤ 900000 ∧
  ∀ (h' : Nat → Option (List Tx)) (k' : Nat) M', GrowH h h' k k' → k' ≤ k + l.length → MemOk M' A h' k' f KS → OffM A M M' → Q (.int (f (H ++ L ++ l).flatten)) M'
def sp_Memory_number : DSp := fun ds M Q E => s0_Memory_number ds M Q E ∨ ∃ (A : MAd) (b : Int) (i : Tx) (x0 : D), ds = [.ref A.m, .tup [.int b, .str i], x0] ∧ StlX M A b i ∧ E ⟨"Stale", [("address", .tup [.int b, .str i])]⟩ M
theorem number_ok {ds : List D} {M : Mu} {Q : DK} {E : DX} (h : s0_Memory_number ds M Q E) : sp_Memory_number ds M Q E := .inl h
def w_Memory_number : DTS := dSeq (dDrop (dMeth "Memory" "_check" sp_Memory__check (dVar 0) (daCons (dVar 1) (daNil)))) (dRet (dDGetT (dFld "Memory" "_numbers" (dVar 0)) (dMeth "Memory" "_walk" sp_Memory__walk (dVar 0) (daCons (dVar 1) (daCons (dVar 2) (daNil)))) (dC (.int 0))))
theorem q_Memory_number : ∀ ds M Q E, s0_Memory_number ds M Q E → w_Memory_number (Ret Q E) (ds.map some ++ List.replicate (3 - 3) none) M := by
  rintro ds M Q E ⟨A, h, k, f, KS, b, H, L, l, rfl, mo, h0, hL, hd, hl, hlen, hkk, hQ⟩
  obtain ⟨rv, bv, nv, gv, hm, hr, hx, hn, hg, nxn, nrg, mp⟩ := id mo
  unfold w_Memory_number
  iterate 10 ((try simp only [hm]); walk_at "dl")
  refine ⟨by decide, check_ok ⟨A, k, b, _, gv, rfl, hm, hg, mp.gn _ _ h0, ?_⟩⟩
  iterate 10 ((try simp only [u_dgetT, hm, mm_n]); walk_at "dl")
  refine ⟨A.n, _, nv, rfl, hn, rfl, by decide, A, h, k, f, KS, b, H, L, l, rfl, mo, h0, hL, hd, hl, hlen, hkk, fun h' k' b' H' L' M' a1 a2 a3 a4 a5 a6 a7 a8 => ?_⟩
  walk_at "dl"
  obtain ⟨rv2, bv2, nv2, gv2, hm2, hr2, hx2, hn2, hg2, _, _, mp2⟩ := id a3
  refine onTK_is hn2 ?_
  rw [mp2.look a4 a5 a6, a7]
  exact hQ h' k' M' a1 a2 a3 a8
theorem p_Memory_number : ∀ ds M Q E, sp_Memory_number ds M Q E → w_Memory_number (Ret Q E) (ds.map some ++ List.replicate (3 - 3) none) M := by
  rintro ds M Q E (h | ⟨A, b, i, x0, rfl, ⟨k, gv, h, hg, hz⟩, hE⟩)
  · exact q_Memory_number ds M Q E h
  · unfold w_Memory_number
    iterate 10 ((try simp only [h]); walk_at "dl")
    refine ⟨by decide, .inr ⟨A, b, i, rfl, ⟨k, gv, h, hg, hz⟩, ?_⟩⟩
    walk_at "dl"
    exact hE
def s0_Memory_set_number : DSp := fun ds M Q _ => ∃ (A : MAd) (h : Nat → Option (List Tx)) (k : Nat) (f : Tx → Int) (KS : List Tx) (b : Nat) (H L l : List Tx) (n : Int), ds = [.ref A.m, .tup [.int b, .str L.flatten], .str l.flatten, .int n] ∧ MemOk M A h k f KS ∧ KS.length ≤ 900000 ∧ h b = some H ∧ Steps L ∧ Nohop L ∧ Steps l ∧ (H ++ L ++ l).length ≤ 100 ∧ k + l.length ≤ 900000 ∧
  ∀ (h' : Nat → Option (List Tx)) (k' : Nat) M', GrowH h h' k k' → k' ≤ k + l.length → MemOk M' A h' k' (updF f (H ++ L ++ l).flatten n) (KS ++ [(H ++ L ++ l).flatten]) → OffM A M M' → Q .non M'
def sp_Memory_set_number : DSp := fun ds M Q E => s0_Memory_set_number ds M Q E ∨ ∃ (A : MAd) (b : Int) (i : Tx) (x0 : D) (x1 : D), ds = [.ref A.m, .tup [.int b, .str i], x0, x1] ∧ StlX M A b i ∧ E ⟨"Stale", [("address", .tup [.int b, .str i])]⟩ M
theorem set_number_ok {ds : List D} {M : Mu} {Q : DK} {E : DX} (h : s0_Memory_set_number ds M Q E) : sp_Memory_set_number ds M Q E := .inl h
def w_Memory_set_number : DTS := dSeq (dDrop (dMeth "Memory" "_check" sp_Memory__check (dVar 0) (daCons (dVar 1) (daNil)))) (dAsg (dVar 3) (dgSub (dFld "Memory" "_numbers" (dVar 0)) (dMeth "Memory" "_walk" sp_Memory__walk (dVar 0) (daCons (dVar 1) (daCons (dVar 2) (daNil)))) gSetT))
theorem q_Memory_set_number : ∀ ds M Q E, s0_Memory_set_number ds M Q E → w_Memory_set_number (Ret Q E) (ds.map some ++ List.replicate (4 - 4) none) M := by
  rintro ds M Q E ⟨A, h, k, f, KS, b, H, L, l, n, rfl, mo, lN, h0, hL, hd, hl, hlen, hkk, hQ⟩
  obtain ⟨rv, bv, nv, gv, hm, hr, hx, hn, hg, nxn, nrg, mp⟩ := id mo
  unfold w_Memory_set_number
  iterate 10 ((try simp only [hm]); walk_at "dl")
  refine ⟨by decide, check_ok ⟨A, k, b, _, gv, rfl, hm, hg, mp.gn _ _ h0, ?_⟩⟩
  iterate 10 ((try simp only [hm, mm_n]); walk_at "dl")
  refine ⟨by decide, A, h, k, f, KS, b, H, L, l, rfl, mo, h0, hL, hd, hl, hlen, hkk, fun h' k' b' H' L' M' a1 a2 a3 a4 a5 a6 a7 a8 => ?_⟩
  obtain ⟨rv2, bv2, nv2, gv2, hm2, hr2, hx2, hn2, hg2, nxn2, nrg2, mp2⟩ := id a3
  have hl2 := mp2.nl
  have hlen2 := congrArg List.length a7
  rw [List.length_append] at hlen2
  iterate 10 ((try simp only [setT_r]); walk_at "dl")
  refine ⟨A.n, nv2, _, [.inl (b' : Int), .inr L'.flatten], rfl, rfl, hn2, rfl, rfl, by omega, ?_⟩
  have mp3 := mp2.set (n := n) a4 a5 a6 (by omega)
  rw [a7] at mp3
  refine hQ h' k' _ a1 a2 ⟨rv2, bv2, _, gv2, ?_, ?_, ?_, put_same, ?_, nxn2, nrg2, mp3⟩ fun a o n1 n2 n3 n4 n5 e => by rw [put_ne n4]; exact a8 a o n1 n2 n3 n4 n5 e
  · rw [put_ne fun z => by rw [← z, hm2] at hn2; cases hn2]; exact hm2
  · rw [put_ne fun z => by rw [← z, hr2] at hn2; cases hn2]; exact hr2
  · rw [put_ne nxn2]; exact hx2
  · rw [put_ne fun z => by rw [← z, hg2] at hn2; cases hn2]; exact hg2
theorem p_Memory_set_number : ∀ ds M Q E, sp_Memory_set_number ds M Q E → w_Memory_set_number (Ret Q E) (ds.map some ++ List.replicate (4 - 4) none) M := by
  rintro ds M Q E (h | ⟨A, b, i, x0, x1, rfl, ⟨k, gv, h, hg, hz⟩, hE⟩)
  · exact q_Memory_set_number ds M Q E h
  · unfold w_Memory_set_number
    iterate 10 ((try simp only [h]); walk_at "dl")
    refine ⟨by decide, .inr ⟨A, b, i, rfl, ⟨k, gv, h, hg, hz⟩, ?_⟩⟩
    walk_at "dl"
    exact hE
end DL
namespace DL
open PySem L2
theorem key_at {L' L : List Tx} (h1 : Steps L') (h2 : Steps L) : beneath L'.flatten L.flatten = true ↔ ∃ U, U ≠ [] ∧ Steps U ∧ L' = L ++ U := by
  rw [beneath_parts]
  have r : ∀ c ∈ ([97] : Tx), isM c = false := by decide
  constructor
  · rintro ⟨l, n, hp, e⟩
    have e2 : partsF ([97] ++ L'.flatten) = partsF ([97] ++ (L ++ l).flatten) := by rw [e, List.flatten_append]
    rw [parts_of r fun t ht => (h1 t ht).part, parts_of r fun t ht => (List.mem_append.mp ht).elim (fun z => (h2 t z).part) (hp t)] at e2
    injection e2 with _ e2
    exact ⟨l, n, fun t ht => h1 t (by rw [e2]; exact List.mem_append_right _ ht), e2⟩
  · rintro ⟨U, n, hU, rfl⟩
    exact ⟨U, n, fun t ht => (hU t ht).part, by rw [List.flatten_append]⟩
theorem key_is {L' L : List Tx} (h1 : Steps L') (h2 : Steps L) : (decide (L'.flatten = L.flatten) || beneath L'.flatten L.flatten) = true ↔ ∃ U, Steps U ∧ L' = L ++ U := by
  rw [Bool.or_eq_true, decide_eq_true_iff, key_at h1 h2]
  constructor
  · rintro (e | ⟨U, _, hU, e⟩)
    · exact ⟨[], Steps.nil, by rw [steps_inj h1 h2 e, List.append_nil]⟩
    · exact ⟨U, hU, e⟩
  · rintro ⟨U, hU, e⟩
    cases U with
    | nil => exact .inl (by rw [e, List.append_nil])
    | cons a r => exact .inr ⟨a :: r, by simp, hU, e⟩
theorem hmL_snoc {l : List Tx} (h : hmL l = l) (n : l ≠ []) : ∃ l0 s, l = l0 ++ [s] ∧ isHop s = true := by
  have e : l = l.dropLast ++ [l.getLast n] := (List.dropLast_concat_getLast n).symm
  refine ⟨l.dropLast, l.getLast n, e, ?_⟩
  cases z : isHop (l.getLast n) with
  | true => rfl
  | false =>
    have e2 := (hm_dot (l := l.dropLast) z).1
    rw [← e, h] at e2
    have h3 := hm_in l.dropLast
    rw [← e2] at h3
    have := congrArg List.length h3
    have e4 := congrArg List.length e
    simp only [List.length_append, List.length_singleton] at this e4
    omega
theorem hmL_app {a l : List Tx} (h : hmL l = l) (n : l ≠ []) : hmL (a ++ l) = a ++ l := by
  obtain ⟨l0, s, rfl, hs⟩ := hmL_snoc h n
  rw [← List.append_assoc]
  exact (hm_hop hs).1
theorem decU {V V' U U' : List Tx} {s s' : Tx} (h1 : hmL V = V) (h2 : hmL V' = V') (n1 : Nohop U) (n2 : Nohop U') (e : V ++ U ++ [s] = V' ++ U' ++ [s']) : V = V' ∧ U = U' := by
  obtain ⟨e1, _⟩ := List.append_inj' e rfl
  have q := congrArg hmL e1
  rw [hmL_dots n1, hmL_dots n2, h1, h2] at q
  subst q
  exact ⟨rfl, List.append_cancel_left e1⟩
theorem nodup_subG {α : Type} [DecidableEq α] : ∀ {as bs : List α}, as.Nodup → (∀ t ∈ as, t ∈ bs) → as.length ≤ bs.length
  | [], _, _, _ => Nat.zero_le _
  | a :: as, bs, nd, h => by
    rw [List.nodup_cons] at nd
    have hb := h a List.mem_cons_self
    have ih := nodup_subG (bs := bs.erase a) nd.2 fun t ht => (List.mem_erase_of_ne (fun e : t = a => nd.1 (by rw [← e]; exact ht))).mpr (h t (List.mem_cons_of_mem _ ht))
    rw [List.length_erase_of_mem hb] at ih
    have : 0 < bs.length := List.length_pos_of_mem hb
    rw [List.length_cons]
    omega
theorem Hm.rooted {h : Nat → Option (List Tx)} {k : Nat} (hk : Hm h k) : ∀ (n : Nat) {l : List Tx} {r : Tx} {b : Nat}, l.length ≤ n → h b = some (r :: l) → ∃ c, h c = some [r] := by
  intro n
  induction n with
  | zero =>
    intro l r b hl e
    have : l = [] := by cases l with
      | nil => rfl
      | cons a r => simp at hl
    exact ⟨b, by rw [e, this]⟩
  | succ n ih =>
    intro l r b hl e
    by_cases e0 : l = []
    · exact ⟨b, by rw [e, e0]⟩
    · obtain ⟨r2, l2, e1, hm⟩ := hk.sh _ _ e
      injection e1 with _ e1
      rw [← e1] at hm
      obtain ⟨l0, s, rfl, hs⟩ := hmL_snoc hm e0
      have d := hm_in l0
      have hm2 : hmL (hmL l0) = hmL l0 := by
        have := congrArg hmL d
        rw [hmL_dots in_dots] at this
        exact this
      obtain ⟨c, hc⟩ := hk.cl b (r :: hmL l0) (inL l0) s (by rw [e, List.cons_append, List.cons_append, d]) ⟨r, _, rfl, hm2⟩ in_dots hs
      refine ih (b := c) ?_ hc
      have := congrArg List.length d
      simp only [List.length_append, List.length_singleton] at this hl
      omega
abbrev WI := Nat × List Tx × List Tx
def wI (st : Tx) (w : WI) : D := .tup [.tup [.int (w.1 : Nat), .str w.2.1.flatten], .str (st ++ w.2.2.flatten)]
structure WtOk (h : Nat → Option (List Tx)) (X : List Tx) (w : WI) : Prop where
  ex : ∃ H, h w.1 = some H ∧ H ++ w.2.1 = X ++ w.2.2
  s1 : Steps w.2.1
  n1 : Nohop w.2.1
  s2 : Steps w.2.2
  hm : hmL w.2.2 = w.2.2
  l1 : w.2.1.length ≤ 100 ∧ w.2.2.length ≤ 200
structure Coll (h : Nat → Option (List Tx)) (X : List Tx) (st : Tx) (f : Tx → Int) (K : Nat) (KS : List Tx) (fv : KV) (done : List (List Tx)) (wait : List WI) : Prop where
  wt : ∀ w ∈ wait, WtOk h X w
  nd : (done ++ wait.map (·.2.2)).Nodup
  s0 : [] ∈ done ++ wait.map (·.2.2)
  pr : ∀ V ∈ done ++ wait.map (·.2.2), V = [] ∨ ∃ V' ∈ done, ∃ U s, Nohop U ∧ isHop s = true ∧ V = V' ++ U ++ [s]
  dn : ∀ V ∈ done, hmL V = V
  ho : ∀ V ∈ done ++ wait.map (·.2.2), X ++ V ∈ X :: (List.range (K + 1)).filterMap h
  cl : ∀ V ∈ done, ∀ U s c, Steps (U ++ [s]) → Nohop U → isHop s = true → h c = some (X ++ V ++ U ++ [s]) → V ++ U ++ [s] ∈ done ++ wait.map (·.2.2)
  fa : ∀ t d, getV fv t = some d → ∃ U, Steps U ∧ t = st ++ U.flatten ∧ (X ++ U).flatten ∈ KS ∧ d = .int (f (X ++ U).flatten)
  fb : ∀ V ∈ done, ∀ U, Steps U → Nohop U → f (X ++ V ++ U).flatten ≠ 0 → (getV fv (st ++ (V ++ U).flatten)).isSome = true
  fn : (fv.map (·.1)).Nodup
section
variable {h : Nat → Option (List Tx)} {X : List Tx} {st : Tx} {f : Tx → Int} {K : Nat} {KS : List Tx} {fv : KV} {done : List (List Tx)} {wait : List WI}
theorem Coll.len (c : Coll h X st f K KS fv done wait) : done.length + wait.length ≤ K + 2 := by
  have nd : ((done ++ wait.map (·.2.2)).map (X ++ ·)).Nodup := by
    rw [List.nodup_iff_pairwise_ne, List.pairwise_map]
    exact (List.nodup_iff_pairwise_ne.mp c.nd).imp fun {a b} n e => n (List.append_cancel_left e)
  have := nodup_subG nd (bs := X :: (List.range (K + 1)).filterMap h) fun t ht => by
    obtain ⟨V, hV, rfl⟩ := List.mem_map.mp ht
    exact c.ho V hV
  rw [List.length_map, List.length_append, List.length_map, List.length_cons] at this
  have l2 := List.length_filterMap_le h (List.range (K + 1))
  rw [List.length_range] at l2
  omega
theorem Coll.begin {b : Nat} {H L : List Tx} (h0 : h b = some H) (hL : Steps L) (hd : Nohop L) (ll : L.length ≤ 100) : Coll h (H ++ L) st f K KS [] [] [(b, L, [])] :=
  ⟨fun w hw => by rw [List.mem_singleton.mp hw]; exact ⟨⟨H, h0, (List.append_nil _).symm⟩, hL, hd, Steps.nil, rfl, ll, Nat.zero_le _⟩, by simp, by simp, fun V hV => by simp at hV; exact .inl hV, (fun V hV => nomatch hV), fun V hV => by simp at hV; simp [hV], (fun V hV => nomatch hV),
    (fun t d e => by simp [getV] at e), (fun V hV => nomatch hV), List.nodup_nil⟩
structure CollF (X V : List Tx) (st : Tx) (f : Tx → Int) (KS : List Tx) (fv fv' : KV) : Prop where
  fa : ∀ t d, getV fv' t = some d → ∃ U, Steps U ∧ t = st ++ U.flatten ∧ (X ++ U).flatten ∈ KS ∧ d = .int (f (X ++ U).flatten)
  kp : ∀ t, (getV fv t).isSome = true → (getV fv' t).isSome = true
  hit : ∀ U, Steps U → Nohop U → f (X ++ V ++ U).flatten ≠ 0 → (getV fv' (st ++ (V ++ U).flatten)).isSome = true
  fn : (fv'.map (·.1)).Nodup
structure CollC (h : Nat → Option (List Tx)) (X V : List Tx) (ch : List WI) : Prop where
  ce : ∀ w ∈ ch, ∃ U s, Steps (U ++ [s]) ∧ Nohop U ∧ isHop s = true ∧ h w.1 = some (X ++ V ++ U ++ [s]) ∧ w.2.1 = [] ∧ w.2.2 = V ++ U ++ [s]
  nd : (ch.map (·.2.2)).Nodup
  cl : ∀ U s c, Steps (U ++ [s]) → Nohop U → isHop s = true → h c = some (X ++ V ++ U ++ [s]) → V ++ U ++ [s] ∈ ch.map (·.2.2)
theorem Coll.step {w : WI} {fv' : KV} {ch : List WI} (c : Coll h X st f K KS fv done (wait ++ [w])) (hk : Hm h K) (hv : ∀ b t, h b = some t → t.length ≤ 100) (F : CollF X w.2.2 st f KS fv fv') (C : CollC h X w.2.2 ch) : Coll h X st f K KS fv' (done ++ [w.2.2]) (wait ++ ch) := by
  obtain ⟨wb, wL, V⟩ := w
  have hV : WtOk h X (wb, wL, V) := c.wt _ (List.mem_append_right _ List.mem_cons_self)
  have nd := c.nd
  rw [List.map_append, ← List.append_assoc] at nd
  have pe : List.Perm (done ++ wait.map (·.2.2) ++ [V]) (done ++ [V] ++ wait.map (·.2.2)) := by
    rw [List.append_assoc, List.append_assoc]
    exact List.Perm.append_left _ List.perm_append_comm
  have memo : ∀ {Y}, Y ∈ done ++ (wait ++ [(wb, wL, V)]).map (·.2.2) → Y ∈ done ++ [V] ++ (wait ++ ch).map (·.2.2) := fun {Y} hY => by
    rw [List.map_append, List.mem_append, List.mem_append] at hY
    rw [List.map_append, List.mem_append, List.mem_append, List.mem_append]
    rcases hY with a | a | a
    · exact .inl (.inl a)
    · exact .inr (.inl a)
    · exact .inl (.inr a)
  have memb : ∀ {Y}, Y ∈ done ++ [V] ++ (wait ++ ch).map (·.2.2) → Y ∈ done ++ (wait ++ [(wb, wL, V)]).map (·.2.2) ∨ Y ∈ ch.map (·.2.2) := fun {Y} hY => by
    rw [List.map_append, List.mem_append, List.mem_append, List.mem_append] at hY
    rw [List.map_append, List.mem_append, List.mem_append]
    rcases hY with (a | a) | a | a
    · exact .inl (.inl a)
    · exact .inl (.inr (.inr a))
    · exact .inl (.inr (.inl a))
    · exact .inr a
  have nV : V ∉ done := fun z => by
    have := (List.nodup_append.mp nd).2.2 V (List.mem_append_left _ z) V List.mem_cons_self
    exact this rfl
  have newC : ∀ Y ∈ ch.map (·.2.2), Y ∉ done ++ (wait ++ [(wb, wL, V)]).map (·.2.2) := fun Y hY hm => by
    obtain ⟨w', hw, rfl⟩ := List.mem_map.mp hY
    obtain ⟨U, s, hs, hn, hp, _, _, e⟩ := C.ce w' hw
    rcases c.pr _ hm with z | ⟨V', hV', U', s', n', p', e'⟩
    · rw [e] at z
      have := congrArg List.length z
      simp at this
    · rw [e] at e'
      obtain ⟨z, _⟩ := decU hV.hm (c.dn V' hV') hn n' e'
      exact nV (by rw [show V = V' from z]; exact hV')
  refine ⟨fun w hw => ?_, ?_, memo c.s0, fun Y hY => ?_, fun Y hY => ?_, fun Y hY => ?_, fun Y hY U s b a1 a2 a3 a4 => ?_, F.fa, fun Y hY U a1 a2 a3 => ?_, F.fn⟩
  · rcases List.mem_append.mp hw with hw | hw
    · exact c.wt w (List.mem_append_left _ hw)
    · obtain ⟨U, s, hs, hn, hp, e1, e2, e3⟩ := C.ce w hw
      have e3 : w.2.2 = V ++ U ++ [s] := e3
      have ln := hv _ _ e1
      simp only [List.length_append] at ln
      refine ⟨⟨_, e1, by rw [e2, List.append_nil]; show _ = X ++ w.2.2; rw [e3]; simp only [List.append_assoc]⟩, by rw [e2]; exact Steps.nil, (by rw [e2]; exact fun u hu => nomatch hu), ?_, by rw [e3]; exact (hm_hop hp).1, by rw [e2]; exact Nat.zero_le _, ?_⟩
      · rw [e3, List.append_assoc]; exact hV.s2.append hs
      · show w.2.2.length ≤ 200
        rw [e3]; simp only [List.length_append]; omega
  · rw [List.map_append, ← List.append_assoc]
    refine List.nodup_append.mpr ⟨pe.nodup_iff.mp nd, C.nd, fun a ha b hb e => newC b hb ?_⟩
    rw [← e, List.map_append, ← List.append_assoc]
    exact pe.mem_iff.mpr ha
  · rcases memb hY with hY | hY
    · rcases c.pr Y hY with z | ⟨V', hV', r⟩
      · exact .inl z
      · exact .inr ⟨V', List.mem_append_left _ hV', r⟩
    · obtain ⟨w', hw, rfl⟩ := List.mem_map.mp hY
      obtain ⟨U, s, hs, hn, hp, _, _, e⟩ := C.ce w' hw
      exact .inr ⟨V, List.mem_append_right _ List.mem_cons_self, U, s, hn, hp, e⟩
  · rcases List.mem_append.mp hY with hY | hY
    · exact c.dn Y hY
    · rw [List.mem_singleton.mp hY]; exact hV.hm
  · rcases memb hY with hY | hY
    · exact c.ho Y hY
    · obtain ⟨w', hw, rfl⟩ := List.mem_map.mp hY
      obtain ⟨U, s, hs, hn, hp, e1, _, e⟩ := C.ce w' hw
      refine List.mem_cons_of_mem _ (List.mem_filterMap.mpr ⟨w'.1, List.mem_range.mpr ?_, ?_⟩)
      · have := (hk.le _ _ e1).2; omega
      · rw [e1, e]; simp only [List.append_assoc]
  · rcases List.mem_append.mp hY with hY | hY
    · exact memo (c.cl Y hY U s b a1 a2 a3 a4)
    · rw [List.mem_singleton.mp hY] at a4 ⊢
      rw [List.map_append]
      exact List.mem_append_right _ (List.mem_append_right _ (C.cl U s b a1 a2 a3 a4))
  · rcases List.mem_append.mp hY with hY | hY
    · exact F.kp _ (c.fb Y hY U a1 a2 a3)
    · rw [List.mem_singleton.mp hY] at a3 ⊢
      exact F.hit U a1 a2 a3
theorem coll_len (fa : ∀ t d, getV fv t = some d → ∃ U, Steps U ∧ t = st ++ U.flatten ∧ (X ++ U).flatten ∈ KS ∧ d = .int (f (X ++ U).flatten)) (fn : (fv.map (·.1)).Nodup) : fv.length ≤ KS.length := by
  have sh : ∀ t ∈ fv.map (·.1), ∃ U : List Tx, t = st ++ U.flatten ∧ (X ++ U).flatten ∈ KS := fun t ht => by
    obtain ⟨d, e⟩ := Option.isSome_iff_exists.mp (getV_mem.mp ht)
    obtain ⟨U, _, h1, h2, _⟩ := fa t d e
    exact ⟨U, h1, h2⟩
  have nd : ((fv.map (·.1)).map fun t => X.flatten ++ t.drop st.length).Nodup := by
    rw [List.nodup_iff_pairwise_ne, List.pairwise_map]
    refine (List.nodup_iff_pairwise_ne.mp fn).imp_of_mem fun {a b} ha hb n e => n ?_
    obtain ⟨U, rfl, _⟩ := sh a ha
    obtain ⟨U2, rfl, _⟩ := sh b hb
    rw [List.drop_left, List.drop_left] at e
    rw [List.append_cancel_left e]
  have := nodup_subG nd (bs := KS) fun t ht => by
    obtain ⟨a, ha, rfl⟩ := List.mem_map.mp ht
    obtain ⟨U, rfl, h2⟩ := sh a ha
    rw [List.drop_left, ← List.flatten_append]
    exact h2
  rw [List.length_map, List.length_map] at this
  exact this
structure CollAt (f : Tx → Int) (KS : List Tx) (X : List Tx) (st : Tx) (fv : KV) : Prop where
  fa : ∀ t d, getV fv t = some d → ∃ U, Steps U ∧ t = st ++ U.flatten ∧ (X ++ U).flatten ∈ KS ∧ d = .int (f (X ++ U).flatten)
  fb : ∀ U, Steps U → f (X ++ U).flatten ≠ 0 → (getV fv (st ++ U.flatten)).isSome = true
  fn : (fv.map (·.1)).Nodup
theorem Coll.end_ {rv : KV} {bv nv : List (TKey × D)} {gv : List (DKey × D)} {b : Nat} {H L : List Tx} (c : Coll h (H ++ L) st f K KS fv done []) (mp : MPl rv bv nv gv h K f KS) (h0 : h b = some H) (hL : Steps L) (hd : Nohop L) : CollAt f KS (H ++ L) st fv := by
  have vX : VNode (H ++ L) := (mp.hv _ _ h0).1.app hL
  have hmX : ∀ V, hmL V = V → V ≠ [] → HmT (H ++ L ++ V) := fun V hV n => by
    obtain ⟨r, l, e, _, _⟩ := vX
    exact ⟨r, l ++ V, by rw [e]; rfl, hmL_app hV n⟩
  have z0 : [] ∈ done := by have := c.s0; simpa using this
  have all : ∀ n V, V.length ≤ n → Steps V → hmL V = V → (V = [] ∨ ∃ b, h b = some (H ++ L ++ V)) → V ∈ done := by
    intro n
    induction n with
    | zero =>
      intro V hl _ _ _
      have : V = [] := by cases V with
        | nil => rfl
        | cons a r => simp at hl
      rw [this]; exact z0
    | succ n ih =>
      intro V hl sV hV hh
      by_cases e0 : V = []
      · rw [e0]; exact z0
      · obtain ⟨b2, hb2⟩ := hh.resolve_left e0
        obtain ⟨V0, s, rfl, hs⟩ := hmL_snoc hV e0
        have d := hm_in V0
        have lV : (hmL V0).length ≤ n := by
          have := congrArg List.length d
          simp only [List.length_append, List.length_singleton] at this hl
          omega
        have sV0 : Steps V0 := fun t ht => sV t (List.mem_append_left _ ht)
        have sV1 : Steps (hmL V0) := fun t ht => sV0 t (by rw [← d]; exact List.mem_append_left _ ht)
        have hm2 : hmL (hmL V0) = hmL V0 := by
          have := congrArg hmL d
          rw [hmL_dots in_dots] at this
          exact this
        have hb3 : h b2 = some (H ++ L ++ hmL V0 ++ inL V0 ++ [s]) := by rw [hb2, List.append_assoc (H ++ L) (hmL V0), d, ← List.append_assoc]
        have in1 : hmL V0 ∈ done := ih (hmL V0) lV sV1 hm2 (by
          by_cases e1 : hmL V0 = []
          · exact .inl e1
          · exact .inr (mp.hm.cl _ _ _ _ hb3 (hmX _ hm2 e1) in_dots hs))
        have sU : Steps (inL V0 ++ [s]) := fun t ht => sV t (by
          rcases List.mem_append.mp ht with ht | ht
          · exact List.mem_append_left _ (by rw [← d]; exact List.mem_append_right _ ht)
          · exact List.mem_append_right _ ht)
        have := c.cl _ in1 (inL V0) s b2 sU in_dots hs hb3
        rw [d] at this
        simpa using this
  refine ⟨c.fa, fun U hU e => ?_, c.fn⟩
  have d := hm_in U
  have hm2 : hmL (hmL U) = hmL U := by
    have := congrArg hmL d
    rw [hmL_dots in_dots] at this
    exact this
  have s1 : Steps (hmL U) := fun t ht => hU t (by rw [← d]; exact List.mem_append_left _ ht)
  have s2 : Steps (inL U) := fun t ht => hU t (by rw [← d]; exact List.mem_append_right _ ht)
  have m : hmL U ∈ done := all _ (hmL U) (Nat.le_refl _) s1 hm2 (by
    by_cases e1 : hmL U = []
    · exact .inl e1
    · right
      obtain ⟨b2, H2, L2, h1, h2, h3, h4⟩ := mp.cv _ e
      have e5 := vnode_inj (vX.app hU) ((mp.hv _ _ h1).1.app h2) h4
      rw [← d, ← List.append_assoc] at e5
      obtain ⟨e6, _⟩ := dec_uniq0 (hmX _ hm2 e1) (mp.hm.sh _ _ h1) in_dots h3 e5
      exact ⟨b2, by rw [e6]; exact h1⟩)
  have := c.fb _ m (inL U) s2 in_dots (by rw [List.append_assoc, d]; exact e)
  rw [d] at this
  exact this
end
end DL
namespace DL
open PySem L2
abbrev adL (A : MAd) : List Addr := [A.m, A.r, A.x, A.n, A.g]
theorem OffM.get {A : MAd} {M M' : Mu} (o : OffM A M M') {a : Addr} {x : MO} (n : a ∉ adL A) (e : M a = some x) : M' a = some x := by
  simp only [adL, List.mem_cons, List.not_mem_nil, or_false, not_or] at n
  exact o a x n.1 n.2.1 n.2.2.1 n.2.2.2.1 n.2.2.2.2 e
theorem OffM.of {A : MAd} {M M' : Mu} (h : ∀ a x, a ∉ adL A → M a = some x → M' a = some x) : OffM A M M' := fun a x n1 n2 n3 n4 n5 e => h a x (by simp only [adL, List.mem_cons, List.not_mem_nil, or_false, not_or]; exact ⟨n1, n2, n3, n4, n5⟩) e
theorem MemOk.off {M M' : Mu} {A : MAd} {h : Nat → Option (List Tx)} {k : Nat} {f : Tx → Int} {KS : List Tx} (m : MemOk M A h k f KS) (o : ∀ a x, a ∈ adL A → M a = some x → M' a = some x) : MemOk M' A h k f KS := by
  obtain ⟨rv, bv, nv, gv, hm, hr, hx, hn, hg, r⟩ := m
  exact ⟨rv, bv, nv, gv, o _ _ (by simp) hm, o _ _ (by simp) hr, o _ _ (by simp) hx, o _ _ (by simp) hn, o _ _ (by simp) hg, r⟩
theorem MemOk.lst {M : Mu} {A : MAd} {h : Nat → Option (List Tx)} {k : Nat} {f : Tx → Int} {KS : List Tx} (m : MemOk M A h k f KS) {a : Addr} {ds : List D} (e : M a = some (.lst ds)) : a ∉ adL A := fun ha => by
  obtain ⟨rv, bv, nv, gv, hm, hr, hx, hn, hg, r⟩ := m
  simp only [adL, List.mem_cons, List.not_mem_nil, or_false] at ha
  rcases ha with rfl | rfl | rfl | rfl | rfl
  · rw [e] at hm; cases hm
  · rw [e] at hr; cases hr
  · rw [e] at hx; cases hx
  · rw [e] at hn; cases hn
  · rw [e] at hg; cases hg
theorem okT_steps {L : List Tx} (h : Steps L) : okT L.flatten := fun c hc => by
  obtain ⟨s, hs, hc⟩ := List.mem_flatten.mp hc
  have := (h s hs).chars c hc
  omega
theorem adr_okd {b : Nat} {L : List Tx} (h : Steps L) : okd 1 (.tup [.int (b : Nat), .str L.flatten]) := okd_tup fun d hd => by
  simp only [List.mem_cons, List.not_mem_nil, or_false] at hd
  rcases hd with rfl | rfl
  · exact okd_int
  · exact okd_str (okT_steps h)
end DL
namespace DL
open PySem L2
local macro_rules | `(tactic| walk_at "dl") => `(tactic| try simp (config := { proj := false }) only [↓ex_mk, ↓nx_mk, ↓rt_mk, ↓bk_mk, ↓ct_mk, ↓xc_mk, ↓u_c, ↓u_op, ↓u_un, ↓u_and, ↓u_or, ↓u_not, ↓u_if, ↓u_anil, ↓u_acons, ↓u_lst, ↓u_lstM, ↓u_tup, ↓u_call, ↓u_sl, ↓u_onone, ↓u_cb, ↓u_mt, ↓u_mt0, ↓u_pass, ↓u_seq, ↓u_set, ↓u_asg, ↓u_drop, ↓u_ret, ↓u_retN, ↓u_ifs, ↓u_brk, ↓u_cnt, ↓u_for, ↓u_gname, ↓u_gsub, ↓u_fs, ↓u_fmt, ↓u_js0, ↓u_js, ↓u_em, ↓u_yes, ↓u_never, ↓u_ref, ↓u_forR, ↓u_star, ↓u_dict, ↓u_dict0, ↓u_dp0, ↓u_dp1, ↓u_forK, ↓u_lock, ↓u_kd, ↓u_fld, ↓u_setF, ↓u_make, ↓u_binL, ↓u_binR, ↓u_inO, ↓u_getO, ↓u_setO, ↓u_augO, ↓u_prp, ↓u_inv, ↓u_meth, ↓u_keys, ↓u_try, ↓u_cm, ↓u_makeV, ↓r_enum, ↓r_own, ↓u_raise, ↓u_tryas, ↓u_ca, ↓u_xf, ↓u_idxC, su_mk,
  ↓r_var, ↓r_test, ↓r_andV, ↓r_orV, ↓r_notV, ↓r_tru, ↓r_frz, ↓r_osome, ↓r_any, ↓r_scr, scr_c, ↓r_rng1, ↓r_rng2, ↓r_fz, wipeD,
  onSome_s, onBl_b, onInt_i, onStr_s, onVar_s, onML_l, onML2_l, onML2_d, onDK_d, fmt_s, fmt_i, tru_n, tru_b, tru_i, tru_s, tru_l, tru_t, tru_r, frz_r, sl_s, sl_l, sl_t, sl_r, add_i, add_s, add_l, add_t, add_rl, add_lr, sub_i, mul_i, div_i, mod_i, pow_i, neg_i, cmp_i, eq_i, eq_s, eq_b, eq_n, eq_l, eq_t, eq_rl, eq_lr, eq_ni, eq_in, eq_ns, eq_sn, eq_nb, eq_bn, eq_is, eq_si,
  ix_l, ix_t, ix_s, ix_ri, ix_rs, in_ss, in_l, in_t, in_ir, in_sr, isB_t, isB_f, ltS_s, gtS_s, sorted_l, keyK_s, keyK_i, u_dget, lenOR_r, listOR_r, isn_n, isn_b, isn_i, isn_s, isn_r, isn_l, isn_t, len_s, len_c, len_l, len_t, len_r, int_i, int_b, min_ii, max_ii, list_l, list_t, list_r, list_c, listM_l, listM_c, listM_t, listM_r, isi_, isi_k, ty_n, ty_b, ty_i, ty_s, ty_l, ty_t, it_s, it_l, it_r, itM_l, itM_d, app_r, rev_r, ends_s, ins_r, set_rs, str_i, str_s, ext_l, pop_r, clr_r, star_l, star_t, star_r, onRef_r, onML3_l, onML3_d, onML3_f, onDR_d, onDR_f, onFK_f, join_l, join_t, join_r, starts_s, r_gtup, r_glst, r_gnil, r_gcons, set_r, items_s, items_l, items_t, rng1_i, rng2_i, fz_r, addM_l, addM_rl, onIns_i, onLst_l, isIns_r, isInsM_i, noF_r, noFM_i, rows_r, lenO_r, listO_r, listOM_r, isCK_i, isCK_l, isC_r, isC_s, isC_i, isC_b, isC_n, isC_l, isC_t, putG_0, putG_1, lk_1, onCl_c, onEnum_l, index_l, strO_r, cmpO_r, pop1_r, tuple_l, tuple_t, divmod_i, upper_s, indexT_t, onExc_e, isE_t, isE_c, isE_v, zip_1,
  List.map_cons, List.map_nil, List.cons_append, List.nil_append, List.length_cons, List.length_nil, List.replicate, List.getElem?_cons_zero, List.getElem?_cons_succ, List.set_cons_zero, List.set_cons_succ, id, decide_eq_true_eq, if_true, if_false, Bool.false_eq_true, reduceIte, Bool.not_true, Bool.not_false, true_and, Nat.reduceAdd, Nat.reduceSub, Int.reduceToNat, Int.toNat_natCast, put_same, put_put, atI_0, atI_1, atI_2, atI_3, atI_4, ixN_40, ixN_41, ixN_42, ixN_43])
structure MemC (M : Mu) (A : MAd) (h : Nat → Option (List Tx)) (k : Nat) (f : Tx → Int) (KS : List Tx) : Prop where
  ex : ∃ (rv : KV) (bv nv : List (TKey × D)) (gv : List (DKey × D)), M A.m = some (memM A (k : Nat)) ∧ M A.x = some (.dT bv) ∧ M A.n = some (.dT nv) ∧ A.x ≠ A.n ∧ MPl rv bv nv gv h k f KS
theorem MemOk.c {M : Mu} {A : MAd} {h : Nat → Option (List Tx)} {k : Nat} {f : Tx → Int} {KS : List Tx} (m : MemOk M A h k f KS) : MemC M A h k f KS := by
  obtain ⟨rv, bv, nv, gv, hm, hr, hx, hn, hg, nxn, nrg, mp⟩ := m
  exact ⟨rv, bv, nv, gv, hm, hx, hn, nxn, mp⟩
theorem MemC.xt {M M' : Mu} {A : MAd} {h : Nat → Option (List Tx)} {k : Nat} {f : Tx → Int} {KS : List Tx} (m : MemC M A h k f KS) (x : Xt M M') : MemC M' A h k f KS := by
  obtain ⟨rv, bv, nv, gv, hm, hx, hn, r⟩ := m
  exact ⟨rv, bv, nv, gv, x _ _ hm, x _ _ hx, x _ _ hn, r⟩
theorem MemOk.xt {M M' : Mu} {A : MAd} {h : Nat → Option (List Tx)} {k : Nat} {f : Tx → Int} {KS : List Tx} (m : MemOk M A h k f KS) (x : Xt M M') : MemOk M' A h k f KS := by
  obtain ⟨rv, bv, nv, gv, hm, hr, hx, hn, hg, r⟩ := m
  exact ⟨rv, bv, nv, gv, x _ _ hm, x _ _ hr, x _ _ hx, x _ _ hn, x _ _ hg, r⟩
theorem lcP_fl {i : Nat} {tt : DTT} {vs : List Nat} {τ : DSt} {p : Addr} {te : DTE} {Nx : Mu → Prop} {M : Mu} {P : Mu → Prop} (g : Tx → Bool) (f : Tx → D) (hP : ∀ acc, P (put M p (.lst acc))) : ∀ {ts : List Tx} (acc : List D), acc.length + ts.length ≤ 1000000 →
    (∀ t ∈ ts, ∀ acc (N : Bool → Mu → Prop), N (g t) (put M p (.lst acc)) → tt ((wipeD τ vs).set i (some (.str t))) (put M p (.lst acc)) N noX) →
    (∀ t ∈ ts, g t = true → ∀ acc (N : D → Mu → Prop), N (f t) (put M p (.lst acc)) → te ((wipeD τ vs).set i (some (.str t))) (put M p (.lst acc)) N noX) →
    Nx (put M p (.lst (acc ++ (ts.filter g).map f))) → wTsP P (dgName i) tt vs τ (dEm p te) Nx (txs ts) (put M p (.lst acc))
  | [], acc, _, _, _, h => ⟨hP _, by rw [List.filter_nil, List.map_nil, List.append_nil] at h; exact h⟩
  | t :: ts, acc, hl, ht, he, h => by
    have hl2 : acc.length + ts.length + 1 ≤ 1000000 := by simpa [Nat.add_assoc] using hl
    refine ⟨hP _, ht t List.mem_cons_self _ _ ?_⟩
    cases q : g t with
    | false =>
      simp only [Bool.false_eq_true, if_false]
      refine lcP_fl g f hP acc (by omega) (fun u hu => ht u (List.mem_cons_of_mem _ hu)) (fun u hu => he u (List.mem_cons_of_mem _ hu)) ?_
      rw [List.filter_cons, q] at h
      exact h
    | true =>
      simp only [if_true]
      refine he t List.mem_cons_self q _ _ ⟨_, put_same, by rw [line24]; omega, ?_⟩
      rw [put_put]
      refine lcP_fl g f hP (acc ++ [f t]) (by rw [List.length_append, List.length_singleton]; omega) (fun u hu => ht u (List.mem_cons_of_mem _ hu)) (fun u hu => he u (List.mem_cons_of_mem _ hu)) ?_
      rw [List.filter_cons, q] at h
      rw [List.append_assoc]
      exact h
theorem put_selfM {M : Mu} {q : Addr} {o : MO} (h : M q = some o) : put M q o = M := by
  funext a
  by_cases e : a = q
  · rw [e, put_same, h]
  · rw [put_ne e]
def sp_in_order : DSp := fun ds M Q _ => ∃ (q : Addr) (f : Tx → Int) (L : Nat), ds = [.ref q] ∧ NumAt M q f L ∧ L ≤ 900000 ∧ ∀ rows, Rows f rows → rows.length ≤ L → Q (.lst (rows.map pD)) M
def w_in_order : DTS := dSeq (dLock 0 (dSet 1 (dCB gSorted (daCons (dFrz (dLcP (diKeys (dVar 0)) (dgName 2) (dTest (dOp gNe (dOp gIx (dVar 0) (dVar 2)) (dC (.int 0)))) [2] (dCB gStr1 (daCons (dVar 2) (daNil))))) (daNil))))) (dRet (dFrz (dLcM (diAny (dVar 1)) (dgName 2) (dYes) [2] [] (dTup (daCons (dVar 2) (daCons (dOp gIx (dVar 0) (dVar 2)) (daNil)))))))
theorem p_in_order : ∀ ds M Q E, sp_in_order ds M Q E → w_in_order (Ret Q E) (ds.map some ++ List.replicate (3 - 1) none) M := by
  rintro ds M Q E ⟨q, f, L, rfl, hn, hL, hQ⟩
  obtain ⟨nk, h1, h2, h3, h4, h5⟩ := hn.ex
  have hgt : ∀ t ∈ nk.map (·.1), getV nk t = some (.int (f t)) := fun t ht => by
    obtain ⟨d, e⟩ := Option.isSome_iff_exists.mp (getV_mem.mp ht)
    rw [e, h3 t d e]
  unfold w_in_order
  iterate 10 ((try simp only [h1]); walk_at "dl")
  intro u
  try simp only [dLcP, put_same]
  walk_at "dl"
  try simp only [dLcP, put_same]
  walk_at "dl"
  intro v hv
  have nv : q ≠ v := fun z => by rw [← z, put_same] at hv; cases hv
  rw [keysOf_kv]
  refine lcP_fl (f := fun t => .str t) (fun t => decide (f t ≠ 0)) (fun acc => by rw [put_ne nv]; exact put_same) [] (by rw [List.length_nil, List.length_map]; omega) (fun t ht acc N h => ?_) (fun t ht _ acc N h => ?_) ?_
  · iterate 10 ((try simp only [put_ne nv, put_same, lookK_kv, hgt t ht]); walk_at "dl")
    have e : (!decide (f t = 0)) = decide (f t ≠ 0) := by simp
    rw [e]
    exact h
  · walk_at "dl"
    exact h
  · iterate 10 ((try simp only [put_same, del_put_new hv, List.nil_append]); walk_at "dl")
    refine ⟨(nk.map (·.1)).filter fun t => decide (f t ≠ 0), rfl, fun us hp hsort => ?_⟩
    have mu : ∀ t, t ∈ us ↔ t ∈ nk.map (·.1) ∧ f t ≠ 0 := fun t => by rw [hp.mem_iff, List.mem_filter, decide_eq_true_iff]
    have asc := asc_of hsort (hp.nodup_iff.mpr (h2.filter _))
    have lus : us.length ≤ L := by
      rw [hp.length_eq]
      refine Nat.le_trans (List.length_filter_le _ _) ?_
      rw [List.length_map]
      exact h5
    rw [put_selfM h1]
    try simp only [dLcM]
    walk_at "dl"
    try simp only [dLcM]
    walk_at "dl"
    intro w hw
    have nw : q ≠ w := fun z => by rw [← z, h1] at hw; cases hw
    refine lc_map (ds := us.map .str) (f := fun d => match d with
      | .str t => pD (t, f t)
      | _ => .non) (by rw [List.length_map]; omega) ?_ ?_
    · intro d hd acc N h
      obtain ⟨t, ht, rfl⟩ := List.mem_map.mp hd
      iterate 10 ((try simp only [put_ne nw, h1, lookK_kv, hgt t ((mu t).mp ht).1]); walk_at "dl")
      exact ⟨by decide, h⟩
    · iterate 10 ((try simp only [put_same, del_put_new hw]); walk_at "dl")
      have e : (us.map D.str).map (fun d => match d with
        | .str t => pD (t, f t)
        | _ => .non) = (us.map fun t => (t, f t)).map pD := by rw [List.map_map, List.map_map]; rfl
      rw [e]
      refine hQ _ ⟨List.pairwise_map.mpr asc, fun t n => ?_⟩ (by rw [List.length_map]; exact lus)
      rw [List.mem_map]
      constructor
      · rintro ⟨v, hv, e⟩
        cases e
        exact ⟨((mu _).mp hv).2, rfl⟩
      · rintro ⟨z, e⟩
        refine ⟨t, (mu t).mpr ⟨?_, by rw [e]; exact z⟩, by rw [e]⟩
        refine getV_mem.mpr ?_
        cases g : getV nk t with
        | some d => rfl
        | none => exact absurd (e.symm.trans (h4 t g)) z
theorem wI_last {st : Tx} {ws : List WI} {w : WI} : (ws ++ [w]).map (wI st) = ws.map (wI st) ++ [wI st w] := by rw [List.map_append]; rfl
def w_Memory__collect_b1 : DTS := dIfS (dAnd (dTest (dOp gEq (dOp gIx (dVar 8) (dC (.int 0))) (dVar 5))) (dOr (dTest (dOp gEq (dOp gIx (dVar 8) (dC (.int 1))) (dVar 6))) (dTru (dCall sp_lies_beneath (daCons (dOp gIx (dVar 8) (dC (.int 1))) (daCons (dVar 6) (daNil))))))) (dAsg (dVar 9) (dgSub (dVar 3) (dOp gAdd (dVar 7) (dSl (dOp gIx (dVar 8) (dC (.int 1))) (doSome (dCB gLen (daCons (dVar 6) (daNil)))) (doNone))) gSetA)) (dPass)
def w_Memory__collect_b2 : DTS := dIfS (dAnd (dTest (dOp gEq (dOp gIx (dVar 8) (dC (.int 0))) (dVar 5))) (dTru (dCall sp_lies_beneath (daCons (dOp gIx (dVar 8) (dC (.int 1))) (daCons (dVar 6) (daNil)))))) (dDrop (dMt "list" gAppend (dVar 4) (daCons (dTup (daCons (dTup (daCons (dVar 10) (daCons (dC (.str [])) (daNil)))) (daCons (dOp gAdd (dVar 7) (dSl (dOp gIx (dVar 8) (dC (.int 1))) (doSome (dCB gLen (daCons (dVar 6) (daNil)))) (doNone))) (daNil)))) (daNil)))) (dPass)
def w_Memory__collect_c3 : DTS := dLockT (dForT (dFld "Memory" "_boxes" (dVar 0)) (dgTup 2 (dgCons 8 (dgCons 10 (dgNil)))) (w_Memory__collect_b2))
def w_Memory__collect_b4 : DTS := dSeq (dAsg (dMt0 "list" gPop (dVar 4)) (dgTup 2 (dgConsG (dgTup 2 (dgCons 5 (dgCons 6 (dgNil)))) (dgCons 7 (dgNil))))) (dSeq (dLockT (dForT (dFld "Memory" "_numbers" (dVar 0)) (dgTup 2 (dgCons 8 (dgCons 9 (dgNil)))) (w_Memory__collect_b1))) (w_Memory__collect_c3))
def w_Memory__collect : DTS := dSeq (dSet 3 (dDict0)) (dSeq (dSet 4 (dLstM (daCons (dTup (daCons (dVar 1) (daCons (dVar 2) (daNil)))) (daNil)))) (dSeq (dWhile (dTru (dVar 4)) (w_Memory__collect_b4)) (dRet (dVar 3))))
theorem coll_body {A : MAd} {h : Nat → Option (List Tx)} {k : Nat} {f : Tx → Int} {KS : List Tx} {c : Nat} {H X Lc V : List Tx} {st : Tx} {fv : KV} {ws : List WI} {M : Mu} {p w : Addr} {D0 : DEnds} {x1 x2 x5 x6 x7 x8 x9 x10 : Option D}
    (mo : MemC M A h k f KS) (lk : k ≤ 800000) (lN : KS.length ≤ 50000) (h0 : h c = some H) (hL : Steps Lc) (hd : Nohop Lc) (ll : Lc.length ≤ 100) (lV : V.length ≤ 200) (sV : Steps V) (eX : H ++ Lc = X ++ V) (ls : st.length ≤ 10000) (lw : ws.length ≤ 900000) 
    (hp : M p = some (.dK (fv.map kvD))) (hw : M w = some (.lst (ws.map (wI st) ++ [wI st (c, Lc, V)]))) (fa : ∀ t d, getV fv t = some d → ∃ U, Steps U ∧ t = st ++ U.flatten ∧ (X ++ U).flatten ∈ KS ∧ d = .int (f (X ++ U).flatten)) (fn : (fv.map (·.1)).Nodup)
    (nxt : ∀ fv' ch x5 x6 x7 x8 x9 x10 M2, CollF X V st f KS fv fv' → CollC h X V ch → M2 p = some (.dK (fv'.map kvD)) → M2 w = some (.lst ((ws ++ ch).map (wI st))) → (∀ a, a ≠ p → a ≠ w → M2 a = M a) → D0.nx [some (.ref A.m), x1, x2, some (.ref p), some (.ref w), x5, x6, x7, x8, x9, x10] M2) :
    w_Memory__collect_b4 D0 [some (.ref A.m), x1, x2, some (.ref p), some (.ref w), x5, x6, x7, x8, x9, x10] M := by
  obtain ⟨rv, bv, nv, gv, hm, hx, hn, nxn, mp⟩ := id mo
  have npm : A.m ≠ p := fun z => by rw [z, hp] at hm; cases hm
  have npx : A.x ≠ p := fun z => by rw [z, hp] at hx; cases hx
  have npn : A.n ≠ p := fun z => by rw [z, hp] at hn; cases hn
  have nwm : A.m ≠ w := fun z => by rw [z, hw] at hm; cases hm
  have nwx : A.x ≠ w := fun z => by rw [z, hw] at hx; cases hx
  have nwn : A.n ≠ w := fun z => by rw [z, hw] at hn; cases hn
  have nnm : A.m ≠ A.n := fun z => by rw [z, hn] at hm; cases hm
  have nxm : A.m ≠ A.x := fun z => by rw [z, hx] at hm; cases hm
  have npw : p ≠ w := fun z => by rw [z, hw] at hp; cases hp
  unfold w_Memory__collect_b4
  iterate 10 ((try simp only [hw, List.getLast?_concat, List.dropLast_concat, wI, r_gconsG]); walk_at "dl")
  rw [u_lockT]
  refine ⟨A.n, nv, by rw [put_ne nwn]; exact hn, fun u => ?_⟩
  iterate 10 ((try simp only [u_forT, put_ne nwm, put_ne nnm, hm, mm_n, put_same]); walk_at "dl")
  refine ⟨A.n, nv, u, rfl, put_same, ?_⟩
  refine wForT_by (fun i τ M1 => ∃ (fv' : KV) (x8 x9 : Option D), τ = [some (.ref A.m), x1, x2, some (.ref p), some (.ref w), some (.int (c : Nat)), some (.str Lc.flatten), some (.str (st ++ V.flatten)), x8, x9, x10] ∧ M1 p = some (.dK (fv'.map kvD)) ∧ M1 A.n = some (.fT nv u) ∧ (∀ a, a ≠ p → a ≠ A.n → a ≠ w → M1 a = M a) ∧ M1 w = some (.lst (ws.map (wI st))) ∧
      (∀ t d, getV fv' t = some d → ∃ U, Steps U ∧ t = st ++ U.flatten ∧ (X ++ U).flatten ∈ KS ∧ d = .int (f (X ++ U).flatten)) ∧ (∀ t, (getV fv t).isSome = true → (getV fv' t).isSome = true) ∧ (fv'.map (·.1)).Nodup ∧
      (∀ q ∈ nv.take i, ∀ U n, Steps U → q = ([.inl (c : Int), .inr (Lc ++ U).flatten], n) → (getV fv' (st ++ (V ++ U).flatten)).isSome = true))
    ⟨fv, _, _, rfl, ?_, put_same, fun a n1 n2 n3 => ?_, ?_, fa, fun _ e => e, fn, fun q hq => by simp at hq⟩ (fun i τ M1 ⟨fv', x8, x9, _, _, e, _⟩ => e) ?_ ?_
  · rw [put_ne (fun z => npn z.symm), put_ne npw]; exact hp
  · rw [put_ne n2, put_ne n3]
  · rw [put_ne (fun z => nwn z.symm), put_same]
  · rintro i q τ M1 hqi ⟨fv', x8, x9, rfl, e1, e2, e3, e4, g1, g2, g3, g5⟩ nx hnx
    obtain ⟨b2, H2, L2, n, h2, s2, n2, l2, hKS, rfl⟩ := mp.nk _ (List.mem_of_getElem? hqi)
    have lfl := s2.len
    have lfc := hL.len
    have lnv := mp.nl
    have hi := (List.getElem?_eq_some_iff.mp hqi).1
    walk_at "dl"
    unfold w_Memory__collect_b1
    iterate 10 ((try simp only [keyD, kD, atI_0, atI_1]); walk_at "dl")
    have lfV := sV.len
    have g4 := coll_len g1 g3
    have old : ∀ q ∈ nv.take (i + 1), q ∈ nv.take i ∨ q = ([.inl (b2 : Int), .inr L2.flatten], .int n) := fun q hq => by
      rw [List.take_succ, hqi] at hq
      rcases List.mem_append.mp hq with hq | hq
      · exact .inl hq
      · exact .inr (by simpa using hq)
    have keyq : ∀ {U : List Tx} {m : D}, Steps U → (([.inl (b2 : Int), .inr L2.flatten], .int n) : TKey × D) = ([.inl (c : Int), .inr (Lc ++ U).flatten], m) → b2 = c ∧ L2 = Lc ++ U := fun {U m} hU e => by
      injection e with e _
      injection e with a b
      injection a with a
      injection b with b
      injection b with b
      exact ⟨by omega, steps_inj s2 (hL.append hU) b⟩
    have skip : ¬ (b2 = c ∧ ∃ U, Steps U ∧ L2 = Lc ++ U) → nx [some (.ref A.m), x1, x2, some (.ref p), some (.ref w), some (.int (c : Nat)), some (.str Lc.flatten), some (.str (st ++ V.flatten)), some (.tup [.int (b2 : Nat), .str L2.flatten]), some (.int n), x10] M1 := fun no => by
      refine hnx _ _ ⟨fv', _, _, rfl, e1, e2, e3, e4, g1, g2, g3, fun q hq U m hU e => ?_⟩
      rcases old q hq with hq | hq
      · exact g5 q hq U m hU e
      · rw [hq] at e
        obtain ⟨a, b⟩ := keyq hU e
        exact absurd ⟨a, U, hU, b⟩ no
    by_cases hb : b2 = c
    · have eH : H2 = H := by rw [hb, h0] at h2; injection h2 with h2; exact h2.symm
      rw [if_pos (by rw [hb])]
      have put_ : ∀ U, Steps U → L2 = Lc ++ U → nx [some (.ref A.m), x1, x2, some (.ref p), some (.ref w), some (.int (c : Nat)), some (.str Lc.flatten), some (.str (st ++ V.flatten)), some (.tup [.int (b2 : Nat), .str L2.flatten]), some (.int n), x10] (put M1 p (.dK (putD (fv'.map kvD) (.inr (st ++ (V ++ U).flatten)) (.int n)))) := fun U hU eU => by
        have k1 := mp.look h2 s2 n2
        rw [lookT_mem mp.nn (List.mem_of_getElem? hqi), eH, eU, ← List.append_assoc, eX] at k1
        have k1 : D.int n = .int (f (X ++ V ++ U).flatten) := k1
        rw [putD_kv]
        refine hnx _ _ ⟨putV fv' (st ++ (V ++ U).flatten) (.int n), _, _, rfl, put_same, by rw [put_ne npn]; exact e2, fun a n1 n2 n3 => by rw [put_ne n1]; exact e3 a n1 n2 n3, by rw [put_ne (Ne.symm npw)]; exact e4, fun t d e => ?_, fun t e => ?_, putV_nodup g3, fun q hq U2 m hU2 e => ?_⟩
        · rw [putV_get] at e
          split at e
          · rename_i z
            injection e with e
            exact ⟨V ++ U, sV.append hU, z, by rw [← List.append_assoc, ← eX, List.append_assoc, ← eU, ← eH]; exact hKS, by rw [← e, k1, List.append_assoc]⟩
          · exact g1 t d e
        · rw [putV_get]
          split
          · rfl
          · exact g2 t e
        · rw [putV_get]
          split
          · rfl
          · rename_i z
            rcases old q hq with hq | hq
            · exact g5 q hq U2 m hU2 e
            · rw [hq] at e
              obtain ⟨_, b⟩ := keyq hU2 e
              rw [eU] at b
              exact absurd (by rw [List.append_cancel_left b]) z
      have ed : ∀ U, L2 = Lc ++ U → st ++ V.flatten ++ L2.flatten.drop Lc.flatten.length = st ++ (V ++ U).flatten := fun U e => by
        rw [e, List.flatten_append, List.drop_left, List.flatten_append, List.append_assoc]
      by_cases he : L2.flatten = Lc.flatten
      · rw [if_pos he]
        have e0 : L2 = Lc ++ [] := by rw [List.append_nil]; exact steps_inj s2 hL he
        iterate 10 ((try simp only [e1, cut_nat, kD]); walk_at "dl")
        rw [ed [] e0]
        simp only [List.length_append, List.length_drop, List.length_map]
        exact ⟨by omega, by omega, by omega, by omega, put_ [] Steps.nil e0⟩
      · rw [if_neg he]
        refine ⟨_, _, rfl, by omega, by omega, ?_⟩
        cases hbn : beneath L2.flatten Lc.flatten with
        | true =>
          obtain ⟨U, _, hU, e0⟩ := (key_at s2 hL).mp hbn
          iterate 10 ((try simp only [e1, cut_nat, kD]); walk_at "dl")
          rw [ed U e0]
          simp only [List.length_append, List.length_drop, List.length_map]
          exact ⟨by omega, by omega, by omega, by omega, put_ U hU e0⟩
        | false =>
          walk_at "dl"
          refine skip fun ⟨_, U, hU, e0⟩ => ?_
          have := (key_is s2 hL).mpr ⟨U, hU, e0⟩
          rw [hbn, decide_eq_false he] at this
          cases this
    · rw [if_neg (by omega)]
      exact skip fun z => hb z.1
  · rintro τ M1 ⟨fv', x8, x9, rfl, e1, e2, e3, e4, g1, g2, g3, g5⟩
    refine ⟨e2, ?_⟩
    have F : CollF X V st f KS fv fv' := ⟨g1, g2, fun U hU hn e => by
      have k1 := mp.look h0 (L := Lc ++ U) (fun t ht => (List.mem_append.mp ht).elim (hL t) (hU t)) (fun t ht => (List.mem_append.mp ht).elim (hd t) (hn t))
      rw [← List.append_assoc, eX] at k1
      cases z : lookT nv [.inl (c : Int), .inr (Lc ++ U).flatten] with
      | none =>
        rw [z] at k1
        injection k1 with k1
        exact absurd k1.symm e
      | some d => exact g5 _ (by rw [List.take_length]; exact lookT_some z) U d hU rfl, g3⟩
    unfold w_Memory__collect_c3
    rw [u_lockT]
    have hx1 : put M1 A.n (.dT nv) A.x = some (.dT bv) := by rw [put_ne nxn, e3 _ npx nxn nwx]; exact hx
    have hm1 : put M1 A.n (.dT nv) A.m = some (memM A (k : Nat)) := by rw [put_ne nnm, e3 _ npm nnm nwm]; exact hm
    refine ⟨A.x, bv, hx1, fun u2 => ?_⟩
    iterate 10 ((try simp only [u_forT, put_ne nxm, hm1, mm_x, put_same]); walk_at "dl")
    refine ⟨A.x, bv, u2, rfl, put_same, ?_⟩
    refine wForT_by (fun i τ M2 => ∃ (ch : List WI) (x8 x10 : Option D), τ = [some (.ref A.m), x1, x2, some (.ref p), some (.ref w), some (.int (c : Nat)), some (.str Lc.flatten), some (.str (st ++ V.flatten)), x8, x9, x10] ∧ M2 p = some (.dK (fv'.map kvD)) ∧ M2 A.x = some (.fT bv u2) ∧ (∀ a, a ≠ p → a ≠ A.x → a ≠ w → M2 a = M a) ∧ M2 w = some (.lst ((ws ++ ch).map (wI st))) ∧ ch.length ≤ i ∧
        (∀ w' ∈ ch, ∃ U s, Steps (U ++ [s]) ∧ Nohop U ∧ isHop s = true ∧ h w'.1 = some (X ++ V ++ U ++ [s]) ∧ w'.2.1 = [] ∧ w'.2.2 = V ++ U ++ [s] ∧ [.inl (c : Int), .inr (Lc ++ U ++ [s]).flatten] ∈ (bv.take i).map (·.1)) ∧ (ch.map (·.2.2)).Nodup ∧
        (∀ U s, Steps (U ++ [s]) → [.inl (c : Int), .inr (Lc ++ U ++ [s]).flatten] ∈ (bv.take i).map (·.1) → V ++ U ++ [s] ∈ ch.map (·.2.2)))
      ⟨[], _, _, rfl, ?_, put_same, fun a n1 n2 n3 => ?_, ?_, Nat.zero_le _, (fun w hw => nomatch hw), List.nodup_nil, fun U s _ hq => by simp at hq⟩ (fun i τ M2 ⟨ch, x8, x10, _, _, e, _⟩ => e) ?_ ?_
    · rw [put_ne (fun z => npx z.symm), put_ne (fun z => npn z.symm)]; exact e1
    · rw [put_ne n2]
      by_cases z : a = A.n
      · rw [z, put_same, hn]
      · rw [put_ne z]; exact e3 a n1 z n3
    · rw [put_ne (fun z => nwx z.symm), put_ne (fun z => nwn z.symm), List.append_nil]; exact e4
    · rintro i q τ M2 hqi ⟨ch, x8, x10, rfl, d1, d2, d3, d4, d5, d6, d7, d8⟩ nx hnx
      obtain ⟨qk, qd⟩ := q
      obtain ⟨b2, H2, L2, s, h2, s2, n2, hs, rfl⟩ := mp.bk _ (List.mem_of_getElem? hqi)
      have qb := mp.bx.2.2 b2 H2 h2 L2 s s2 n2 hs
      have lfl := s2.len
      have lfc := hL.len
      have lfV := sV.len
      have lbv := mp.bx.1
      have hi := (List.getElem?_eq_some_iff.mp hqi).1
      have hmem := List.mem_of_getElem? hqi
      have ln2 := (mp.hv _ _ h2).2
      rw [lookT_mem mp.bn hmem] at qb
      obtain ⟨c2, rfl, hc2⟩ := qb
      have ln3 := (mp.hv _ _ hc2).2
      simp only [List.length_append, List.length_singleton] at ln3 lfl
      walk_at "dl"
      unfold w_Memory__collect_b2
      iterate 10 ((try simp only [keyD, kD, atI_0, atI_1]); walk_at "dl")
      have old : ∀ {z : TKey}, z ∈ (bv.take (i + 1)).map (·.1) → z ∈ (bv.take i).map (·.1) ∨ z = [.inl (b2 : Int), .inr (L2 ++ [s]).flatten] := fun {z} hq => by
        rw [List.take_succ, hqi, List.map_append] at hq
        rcases List.mem_append.mp hq with hq | hq
        · exact .inl hq
        · exact .inr (by simpa using hq)
      have up : ∀ {z : TKey}, z ∈ (bv.take i).map (·.1) → z ∈ (bv.take (i + 1)).map (·.1) := fun {z} hq => by
        rw [List.take_succ, List.map_append]
        exact List.mem_append_left _ hq
      have now : [.inl (b2 : Int), .inr (L2 ++ [s]).flatten] ∈ (bv.take (i + 1)).map (·.1) := by
        rw [List.take_succ, hqi, List.map_append]
        exact List.mem_append_right _ (by simp)
      have fresh : [.inl (b2 : Int), .inr (L2 ++ [s]).flatten] ∉ (bv.take i).map (·.1) := fun z => by
        have nd := mp.bn
        have e : bv = bv.take i ++ (bv[i] :: bv.drop (i + 1)) := by rw [← List.drop_eq_getElem_cons hi, List.take_append_drop]
        rw [e, List.map_append, List.map_cons] at nd
        have e2 : bv[i] = ([.inl (b2 : Int), .inr (L2 ++ [s]).flatten], .int (c2 : Nat)) := by rw [List.getElem?_eq_getElem hi] at hqi; injection hqi
        rw [e2] at nd
        exact (List.nodup_append.mp nd).2.2 _ z _ List.mem_cons_self rfl
      have keyq : ∀ {U : List Tx} {t : Tx}, Steps (U ++ [t]) → ([.inl (c : Int), .inr (Lc ++ U ++ [t]).flatten] : TKey) = [.inl (b2 : Int), .inr (L2 ++ [s]).flatten] → b2 = c ∧ L2 ++ [s] = Lc ++ U ++ [t] := fun {U t} hU e => by
        injection e with a b
        injection a with a
        injection b with b
        injection b with b
        refine ⟨by omega, (steps_inj ?_ s2 b).symm⟩
        rw [List.append_assoc]; exact hL.append hU
      have skip : ¬ (b2 = c ∧ ∃ U, U ≠ [] ∧ Steps U ∧ L2 ++ [s] = Lc ++ U) → nx [some (.ref A.m), x1, x2, some (.ref p), some (.ref w), some (.int (c : Nat)), some (.str Lc.flatten), some (.str (st ++ V.flatten)), some (.tup [.int (b2 : Nat), .str (L2 ++ [s]).flatten]), x9, some (.int (c2 : Nat))] M2 := fun no => by
        refine hnx _ _ ⟨ch, _, _, rfl, d1, d2, d3, d4, by omega, fun w' hw' => ?_, d7, fun U t hU hq => ?_⟩
        · obtain ⟨U, t, r1, r2, r3, r4, r5, r6, r7⟩ := d6 w' hw'
          exact ⟨U, t, r1, r2, r3, r4, r5, r6, up r7⟩
        · rcases old hq with hq | hq
          · exact d8 U t hU hq
          · obtain ⟨a, b⟩ := keyq hU hq
            exact absurd ⟨a, U ++ [t], by simp, hU, by rw [b, List.append_assoc]⟩ no
      by_cases hb : b2 = c
      · have eH : H2 = H := by rw [hb, h0] at h2; injection h2 with h2; exact h2.symm
        rw [if_pos (by rw [hb])]
        refine ⟨_, _, rfl, by rw [List.flatten_append, List.flatten_singleton, List.length_append]; rw [List.flatten_append, List.flatten_singleton, List.length_append] at lfl; omega, by omega, ?_⟩
        cases hbn : beneath (L2 ++ [s]).flatten Lc.flatten with
        | true =>
          obtain ⟨U', hne, hU', e0⟩ := (key_at s2 hL).mp hbn
          obtain ⟨U, t, rfl⟩ : ∃ U t, U' = U ++ [t] := ⟨_, _, (List.dropLast_concat_getLast hne).symm⟩
          rw [← List.append_assoc] at e0
          obtain ⟨e1', e2'⟩ := List.append_inj' e0 rfl
          injection e2' with e2'
          subst e2'
          have nU : Nohop U := fun x hx => n2 x (by rw [e1']; exact List.mem_append_right _ hx)
          have hX : h c2 = some (X ++ V ++ U ++ [s]) := by rw [hc2, eH, e1', ← eX]; simp only [List.append_assoc]
          iterate 10 ((try simp only [d4, cut_nat, kD]); walk_at "dl")
          have ed : st ++ V.flatten ++ (L2 ++ [s]).flatten.drop Lc.flatten.length = st ++ (V ++ U ++ [s]).flatten := by
            rw [e0, List.append_assoc Lc, List.flatten_append (L₁ := Lc), List.drop_left, List.append_assoc V, List.flatten_append (L₁ := V), List.append_assoc]
          rw [ed]
          have lnn : (L2 ++ [s]).flatten.length ≤ 2000 := by omega
          simp only [List.length_append, List.length_drop, List.length_map]
          refine ⟨by decide, by omega, by omega, by omega, by decide, by omega, ?_⟩
          refine hnx _ _ ⟨ch ++ [(c2, [], V ++ U ++ [s])], _, _, rfl, by rw [put_ne npw]; exact d1, by rw [put_ne nwx]; exact d2, fun a n1 n2 n3 => by rw [put_ne n3]; exact d3 a n1 n2 n3, ?_, by rw [List.length_append, List.length_singleton]; omega, fun w' hw' => ?_, ?_, fun U2 t hU2 hq => ?_⟩
          · rw [put_same, ← List.append_assoc, wI_last]
            rfl
          · rcases List.mem_append.mp hw' with hw' | hw'
            · obtain ⟨U, t, r1, r2, r3, r4, r5, r6, r7⟩ := d6 w' hw'
              exact ⟨U, t, r1, r2, r3, r4, r5, r6, up r7⟩
            · rw [List.mem_singleton.mp hw']
              refine ⟨U, s, hU', nU, hs, hX, rfl, rfl, ?_⟩
              rw [← e0, ← hb]
              exact now
          · rw [List.map_append]
            refine List.nodup_append.mpr ⟨d7, List.nodup_cons.mpr ⟨List.not_mem_nil, List.nodup_nil⟩, fun a ha b hb2 e => ?_⟩
            rw [List.mem_singleton.mp hb2] at e
            obtain ⟨w', hw', e2⟩ := List.mem_map.mp ha
            obtain ⟨U2, t, r1, r2, r3, r4, r5, r6, r7⟩ := d6 w' hw'
            refine fresh ?_
            rw [← e2, r6] at e
            have e : V ++ U2 ++ [t] = V ++ U ++ [s] := e
            rw [List.append_assoc, List.append_assoc] at e
            have e := List.append_cancel_left e
            rw [List.append_assoc, e, ← List.append_assoc, ← e0, ← hb] at r7
            exact r7
          · rw [List.map_append]
            rcases old hq with hq | hq
            · exact List.mem_append_left _ (d8 U2 t hU2 hq)
            · obtain ⟨_, b⟩ := keyq hU2 hq
              rw [e0, List.append_assoc, List.append_assoc] at b
              have b := List.append_cancel_left b
              refine List.mem_append_right _ ?_
              rw [List.append_assoc V U2, ← b, ← List.append_assoc]
              exact List.mem_cons_self
        | false =>
          walk_at "dl"
          refine skip fun ⟨_, U, hne, hU, e0⟩ => ?_
          have := (key_at s2 hL).mpr ⟨U, hne, hU, e0⟩
          rw [hbn] at this
          cases this
      · rw [if_neg (by omega)]
        exact skip fun z => hb z.1
    · rintro τ M2 ⟨ch, x8, x10, rfl, d1, d2, d3, d4, d5, d6, d7, d8⟩
      refine ⟨d2, nxt fv' ch _ _ _ _ _ _ _ F ⟨fun w' hw' => ?_, d7, fun U s c2 a1 a2 a3 a4 => ?_⟩ ?_ ?_ fun a n1 n2 => ?_⟩
      · obtain ⟨U, s, r1, r2, r3, r4, r5, r6, _⟩ := d6 w' hw'
        exact ⟨U, s, r1, r2, r3, r4, r5, r6⟩
      · refine d8 U s a1 ?_
        rw [List.take_length]
        have sLU : Steps (Lc ++ U ++ [s]) := by rw [List.append_assoc]; exact hL.append a1
        have qb := mp.bx.2.2 c H h0 (Lc ++ U) s sLU (fun t ht => (List.mem_append.mp ht).elim (hd t) (a2 t)) a3
        cases z : lookT bv [.inl (c : Int), .inr (Lc ++ U ++ [s]).flatten] with
        | none =>
          rw [z] at qb
          exact absurd (by rw [a4, ← eX]; simp only [List.append_assoc]) (qb c2)
        | some d => exact List.mem_map.mpr ⟨_, lookT_some z, rfl⟩
      · rw [put_ne (fun z => npx z.symm)]; exact d1
      · rw [put_ne (fun z => nwx z.symm)]; exact d4
      · by_cases z : a = A.x
        · rw [z, put_same, hx]
        · rw [put_ne z]; exact d3 a n1 z n2
def sp_Memory__collect : DSp := fun ds M Q _ => ∃ (A : MAd) (h : Nat → Option (List Tx)) (k : Nat) (f : Tx → Int) (KS : List Tx) (b : Nat) (H L : List Tx) (st : Tx), ds = [.ref A.m, .tup [.int b, .str L.flatten], .str st] ∧ MemC M A h k f KS ∧ k ≤ 800000 ∧ KS.length ≤ 50000 ∧ h b = some H ∧ Steps L ∧ Nohop L ∧ L.length ≤ 100 ∧ st.length ≤ 10000 ∧
  ∀ p fv M', M p = none → Xt M M' → M' p = some (.dK (fv.map kvD)) → CollAt f KS (H ++ L) st fv → Q (.ref p) M'
theorem p_Memory__collect : ∀ ds M Q E, sp_Memory__collect ds M Q E → w_Memory__collect (Ret Q E) (ds.map some ++ List.replicate (11 - 3) none) M := by
  rintro ds M Q E ⟨A, h, k, f, KS, b, H, L, st, rfl, mo, lk, lN, h0, hL, hd, ll, ls, hQ⟩
  obtain ⟨rv, bv, nv, gv, hm, hx, hn, nxn, mp⟩ := id mo
  unfold w_Memory__collect
  walk_at "dl"
  intro p hp
  have np : ∀ {a o}, M a = some o → a ≠ p := fun e z => by rw [z, hp] at e; cases e
  walk_at "dl"
  refine ⟨by decide, by decide, fun w hw => ?_⟩
  have nw : ∀ {a o}, M a = some o → a ≠ w := fun e z => by rw [← z, put_ne (np e), e] at hw; cases hw
  have npw : p ≠ w := fun z => by rw [← z, put_same] at hw; cases hw
  have hw0 : M w = none := by rw [put_ne (Ne.symm npw)] at hw; exact hw
  walk_at "dl"
  refine ⟨fun n τ M' => ∃ (fv : KV) (done : List (List Tx)) (wait : List WI) (x5 x6 x7 x8 x9 x10 : Option D), n = k + 2 - done.length ∧ τ = [some (.ref A.m), some (.tup [.int b, .str L.flatten]), some (.str st), some (.ref p), some (.ref w), x5, x6, x7, x8, x9, x10] ∧ Coll h (H ++ L) st f k KS fv done wait ∧ M' p = some (.dK (fv.map kvD)) ∧ M' w = some (.lst (wait.map (wI st))) ∧ Xt M M',
    ⟨_, [], [], [(b, L, [])], _, _, _, _, _, _, rfl, rfl, Coll.begin h0 hL hd ll, by rw [put_ne npw, put_same]; rfl, by rw [put_same]; rw [List.map_singleton]; unfold wI; rw [List.flatten_nil, List.append_nil], fun a o e => by rw [put_ne (nw e), put_ne (np e)]; exact e⟩, ?_⟩
  rintro n τ M' ⟨fv, done, wait, x5, x6, x7, x8, x9, x10, rfl, rfl, hc, hp', hw', hxt⟩
  have lc := hc.len
  iterate 10 ((try simp only [hw']); walk_at "dl")
  rcases List.eq_nil_or_concat wait with rfl | ⟨ws, w0, rfl⟩
  · rw [if_neg (by simp)]
    exact hQ p fv M' hp hxt hp' (hc.end_ mp h0 hL hd)
  · rw [List.concat_eq_append] at hc hw' lc ⊢
    obtain ⟨c, Lc, V⟩ := w0
    rw [if_pos (by rw [wI_last]; simp)]
    rw [wI_last] at hw'
    obtain ⟨⟨Hc, hc0, eX⟩, s1, n1, s2, _, l1, l2⟩ := hc.wt _ (List.mem_append_right _ (List.mem_singleton.mpr rfl))
    rw [List.length_append, List.length_singleton] at lc
    refine coll_body (mo.xt hxt) lk lN hc0 s1 n1 l1 l2 s2 eX ls (by omega) hp' hw' hc.fa hc.fn fun fv' ch x5 x6 x7 x8 x9 x10 M2 F C m1 m2 m3 => ?_
    refine ⟨_, ?_, fv', done ++ [V], ws ++ ch, _, _, _, _, _, _, rfl, rfl, hc.step mp.hm (fun b t e => (mp.hv b t e).2) F C, m1, m2, fun a o e => by rw [m3 a (np e) (nw e)]; exact hxt a o e⟩
    rw [List.length_append, List.length_singleton]
    omega
theorem wForI_by {a : Addr} {kvs : List (DKey × D)} {u : HO} {g : DTG} {tb : DTS} {D0 : DEnds} (I : Nat → DSt → Mu → Prop) {τ : DSt} {M : Mu} (h0 : I 0 τ M) (hk : ∀ i τ M, I i τ M → M a = some (.fK kvs u))
    (step : ∀ i q τ M, kvs[i]? = some q → I i τ M → ∀ nxt, (∀ τ M, I (i + 1) τ M → nxt τ M) → g (.tup [kD q.1, q.2]) τ M (fun τ1 M1 => tb { D0 with nx := nxt, ct := nxt, bk := D0.nx } τ1 M1) (D0.ex τ))
    (last : ∀ τ M, I kvs.length τ M → D0.nx τ M) : wForI a kvs u g tb D0 (itemsK kvs) τ M := by
  have go : ∀ n i τ M, i + n = kvs.length → I i τ M → wForI a kvs u g tb D0 ((itemsK kvs).drop i) τ M := by
    intro n
    induction n with
    | zero =>
      intro i τ M e h
      have e2 : i = kvs.length := by omega
      subst e2
      have e3 : (itemsK kvs).drop kvs.length = [] := by rw [List.drop_eq_nil_iff, itemsK, List.length_map]; exact Nat.le_refl _
      rw [e3]
      exact ⟨hk _ _ _ h, last _ _ h⟩
    | succ n ih =>
      intro i τ M e h
      have hi : i < kvs.length := by omega
      have hi2 : i < (itemsK kvs).length := by rw [itemsK, List.length_map]; exact hi
      rw [List.drop_eq_getElem_cons hi2]
      have e3 : (itemsK kvs)[i] = .tup [kD kvs[i].1, kvs[i].2] := by simp [itemsK]
      rw [e3]
      exact ⟨hk _ _ _ h, step i _ τ M (List.getElem?_eq_getElem hi) h _ fun τ2 M2 h2 => ih (i + 1) τ2 M2 (by omega) h2⟩
  have := go kvs.length 0 τ M (by omega) h0
  rwa [List.drop_zero] at this
def mergeV (a b : KV) : KV := b.foldl (fun z q => putV z q.1 q.2) a
theorem mergeV_nodup : ∀ {b a : KV}, (a.map (·.1)).Nodup → ((mergeV a b).map (·.1)).Nodup
  | [], _, h => h
  | q :: b, a, h => mergeV_nodup (b := b) (a := putV a q.1 q.2) (putV_nodup h)
theorem mergeV_some : ∀ {b a : KV} {t : Tx} {d : D}, getV (mergeV a b) t = some d → (t, d) ∈ b ∨ getV a t = some d
  | [], _, _, _, h => .inr h
  | q :: b, a, t, d, h => by
    rcases mergeV_some (b := b) (a := putV a q.1 q.2) h with h | h
    · exact .inl (List.mem_cons_of_mem _ h)
    · rw [putV_get] at h
      split at h
      · rename_i e
        injection h with h
        left
        rw [e, ← h]
        exact List.mem_cons_self
      · exact .inr h
theorem mergeV_old : ∀ {b a : KV} {t : Tx}, (getV a t).isSome = true → (getV (mergeV a b) t).isSome = true
  | [], _, _, h => h
  | q :: b, a, t, h => mergeV_old (b := b) (a := putV a q.1 q.2) (by
    rw [putV_get]
    split
    · rfl
    · exact h)
theorem mergeV_new : ∀ {b a : KV} {t : Tx}, t ∈ b.map (·.1) → (getV (mergeV a b) t).isSome = true
  | [], _, _, h => nomatch h
  | q :: b, a, t, h => by
    rcases List.mem_cons.mp h with e | h
    · exact mergeV_old (b := b) (a := putV a q.1 q.2) (by rw [putV_get, if_pos e]; rfl)
    · exact mergeV_new (b := b) (a := putV a q.1 q.2) h
theorem mergeD_kv : ∀ {b a : KV}, mergeD (a.map kvD) (b.map kvD) = (mergeV a b).map kvD
  | [], _ => rfl
  | q :: b, a => by
    show mergeD (putD (a.map kvD) (.inr q.1) q.2) (b.map kvD) = _
    rw [putD_kv]
    exact mergeD_kv
theorem getV_memV {nk : KV} (nd : (nk.map (·.1)).Nodup) {t : Tx} {d : D} (h : (t, d) ∈ nk) : getV nk t = some d := by
  obtain ⟨d2, e⟩ := Option.isSome_iff_exists.mp (getV_mem.mp (List.mem_map.mpr ⟨_, h, rfl⟩ : t ∈ nk.map (·.1)))
  have m2 := getV_some e
  rw [e]
  congr 1
  induction nk with
  | nil => cases h
  | cons a r ih =>
    rw [List.map_cons, List.nodup_cons] at nd
    rcases List.mem_cons.mp h with h1 | h1 <;> rcases List.mem_cons.mp m2 with h2 | h2
    · rw [← h1] at h2; injection h2
    · exact absurd (List.mem_map.mpr ⟨_, h2, by rw [← h1]⟩) nd.1
    · exact absurd (List.mem_map.mpr ⟨_, h1, by rw [← h2]⟩) nd.1
    · refine ih nd.2 h1 ?_ h2
      unfold getV at e ⊢
      rw [List.find?_cons] at e
      have n : a.1 ≠ t := fun z => nd.1 (by rw [z]; exact List.mem_map.mpr ⟨_, h1, rfl⟩)
      rw [decide_eq_false n] at e
      exact e
def sp_Memory_pairs : DSp := fun ds M Q _ => ∃ (A : MAd) (h : Nat → Option (List Tx)) (k : Nat) (f : Tx → Int) (KS : List Tx), ds = [.ref A.m] ∧ MemOk M A h k f KS ∧ k ≤ 800000 ∧ KS.length ≤ 50000 ∧ ∀ rows M', Rows f rows → rows.length ≤ KS.length → Xt M M' → Q (.lst (rows.map pD)) M'
def w_Memory_pairs_b1 : DTS := dDrop (dMt "dict" gUpdK (dVar 1) (daCons (dMeth "Memory" "_collect" sp_Memory__collect (dVar 0) (daCons (dTup (daCons (dVar 3) (daCons (dC (.str [])) (daNil)))) (daCons (dVar 2) (daNil)))) (daNil)))
def w_Memory_pairs_c2 : DTS := dRet (dCall sp_in_order (daCons (dVar 1) (daNil)))
def w_Memory_pairs : DTS := dSeq (dSet 1 (dDict0)) (dSeq (dLockD (dForI (dFld "Memory" "_roots" (dVar 0)) (dgTup 2 (dgCons 2 (dgCons 3 (dgNil)))) (w_Memory_pairs_b1))) (w_Memory_pairs_c2))
theorem p_Memory_pairs : ∀ ds M Q E, sp_Memory_pairs ds M Q E → w_Memory_pairs (Ret Q E) (ds.map some ++ List.replicate (4 - 1) none) M := by
  rintro ds M Q E ⟨A, h, k, f, KS, rfl, mo, lk, lN, hQ⟩
  obtain ⟨rv, bv, nv, gv, hm, hr, hx, hn, hg, nxn, nrg, mp⟩ := id mo
  unfold w_Memory_pairs
  walk_at "dl"
  intro p hp
  have np : ∀ {a o}, M a = some o → a ≠ p := fun e z => by rw [z, hp] at e; cases e
  rw [u_lockD]
  refine ⟨A.r, rv.map kvD, by rw [put_ne (np hr)]; exact hr, fun u => ?_⟩
  have nmr : A.m ≠ A.r := fun z => by rw [z, hr] at hm; cases hm
  have nxr : A.x ≠ A.r := fun z => by rw [z, hr] at hx; cases hx
  have nnr : A.n ≠ A.r := fun z => by rw [z, hr] at hn; cases hn
  iterate 10 ((try simp only [u_forI, put_ne nmr, put_ne (np hm), hm, mm_r, put_same]); walk_at "dl")
  refine ⟨A.r, _, u, rfl, put_same, ?_⟩
  refine wForI_by (fun i τ M1 => ∃ (fv : KV) (x2 x3 : Option D), τ = [some (.ref A.m), some (.ref p), x2, x3] ∧ M1 p = some (.dK (fv.map kvD)) ∧ M1 A.r = some (.fK (rv.map kvD) u) ∧ (∀ a o, a ≠ A.r → M a = some o → M1 a = some o) ∧
      (∀ t d, getV fv t = some d → t ∈ KS ∧ d = .int (f t)) ∧ (fv.map (·.1)).Nodup ∧ ∀ q ∈ rv.take i, ∀ U, Steps U → f (q.1 ++ U.flatten) ≠ 0 → (getV fv (q.1 ++ U.flatten)).isSome = true)
    ⟨[], _, _, rfl, by rw [put_ne (Ne.symm (np hr)), put_same]; rfl, put_same, (fun a o n e => by rw [put_ne n, put_ne (np e)]; exact e), (fun t d e => by simp [getV] at e), List.nodup_nil, fun q hq => by simp at hq⟩ (fun i τ M1 ⟨_, _, _, _, _, e, _⟩ => e) ?_ ?_
  · rintro i q τ M1 hqi ⟨fv, x2, x3, rfl, e1, e2, e3, g1, g2, g3⟩ nx hnx
    rw [List.getElem?_map] at hqi
    obtain ⟨⟨r, d⟩, hq, rfl⟩ := Option.map_eq_some_iff.mp hqi
    have hmem := List.mem_of_getElem? hq
    have q1 := mp.rt.2 r
    rw [getV_memV mp.rn hmem] at q1
    obtain ⟨c, rfl, hc⟩ := q1
    obtain ⟨⟨r2, l2, e4, nr, _⟩, _⟩ := mp.hv _ _ hc
    injection e4 with e4 _
    subst e4
    walk_at "dl"
    unfold w_Memory_pairs_b1
    have hm1 : M1 A.m = some (memM A (k : Nat)) := e3 _ _ nmr hm
    have hx1 : M1 A.x = some (.dT bv) := e3 _ _ nxr hx
    have hn1 : M1 A.n = some (.dT nv) := e3 _ _ nnr hn
    iterate 10 ((try simp only [kvD, kD, e1, hm1, updK_r]); walk_at "dl")
    have lr := nr.2.1
    refine ⟨by decide, by decide, A, h, k, f, KS, c, [r], [], r, rfl, ⟨rv, bv, nv, gv, hm1, hx1, hn1, nxn, mp⟩, lk, lN, hc, Steps.nil, (fun u hu => nomatch hu), Nat.zero_le _, by omega, fun p2 ev M2 m1 m2 m3 C => ?_⟩
    have np2 : p ≠ p2 := fun z => by rw [← z, e1] at m1; cases m1
    have lf : fv.length ≤ KS.length := by
      have := nodup_subG g2 (bs := KS) fun t ht => by
        obtain ⟨d, e⟩ := Option.isSome_iff_exists.mp (getV_mem.mp ht)
        exact (g1 t d e).1
      rw [List.length_map] at this
      exact this
    have le : ev.length ≤ KS.length := coll_len C.fa C.fn
    iterate 10 ((try simp only [updK_r]); walk_at "dl")
    refine ⟨p, p2, _, _, rfl, rfl, np2, m2 _ _ e1, m3, by rw [List.length_map, List.length_map]; omega, ?_⟩
    rw [mergeD_kv]
    have tx : ∀ U : List Tx, ([r] ++ [] ++ U).flatten = r ++ U.flatten := fun U => by simp
    have C := C
    refine hnx _ _ ⟨mergeV fv ev, _, _, rfl, put_same, by rw [put_ne (np hr)]; exact m2 _ _ e2, fun a o n e => by rw [put_ne (np e)]; exact m2 _ _ (e3 a o n e), fun t d e => ?_, mergeV_nodup g2, fun q hq2 U hU e => ?_⟩
    · rcases mergeV_some e with e | e
      · obtain ⟨U, hU, rfl, h2, rfl⟩ := C.fa t d (getV_memV C.fn e)
        rw [tx] at h2
        exact ⟨h2, by rw [tx]⟩
      · exact g1 t d e
    · rw [List.take_succ, hq] at hq2
      rcases List.mem_append.mp hq2 with hq2 | hq2
      · exact mergeV_old (g3 q hq2 U hU e)
      · have eq : q = (r, .int (c : Nat)) := by simpa using hq2
        subst eq
        have e : f ([r] ++ [] ++ U).flatten ≠ 0 := by rw [tx]; exact e
        exact mergeV_new (getV_mem.mpr (C.fb U hU e))
  · rintro τ M1 ⟨fv, x2, x3, rfl, e1, e2, e3, g1, g2, g3⟩
    refine ⟨e2, ?_⟩
    unfold w_Memory_pairs_c2
    walk_at "dl"
    rw [List.length_map, List.take_length] at g3
    have lf : fv.length ≤ KS.length := by
      have := nodup_subG g2 (bs := KS) fun t ht => by
        obtain ⟨d, e⟩ := Option.isSome_iff_exists.mp (getV_mem.mp ht)
        exact (g1 t d e).1
      rw [List.length_map] at this
      exact this
    have xt : Xt M (put M1 A.r (.dK (rv.map kvD))) := fun a o e => by
      by_cases z : a = A.r
      · rw [z] at e ⊢
        rw [put_same, ← hr, e]
      · rw [put_ne z]; exact e3 a o z e
    refine ⟨p, f, KS.length, rfl, ⟨fv, by rw [put_ne (Ne.symm (np hr))]; exact e1, g2, fun t d e => (g1 t d e).2, fun t e => ?_, lf⟩, by omega, fun rows hr lr => ?_⟩
    · by_cases z : f t = 0
      · exact z
      · obtain ⟨b, H, L, h1, h2, h3, rfl⟩ := mp.cv t z
        obtain ⟨⟨r, l, rfl, nr, sl⟩, _⟩ := mp.hv _ _ h1
        obtain ⟨c, hc⟩ := mp.hm.rooted l.length (Nat.le_refl _) h1
        have q1 := mp.rt.2 r
        cases g : getV rv r with
        | none =>
          rw [g] at q1
          exact absurd hc (q1 c)
        | some d =>
          have et : (r :: l ++ L).flatten = r ++ (l ++ L).flatten := rfl
          have := g3 _ (getV_some g) (l ++ L) (sl.append h2) (by rw [← et]; exact z)
          have this : (getV fv (r :: l ++ L).flatten).isSome = true := this
          rw [e] at this
          cases this
    · walk_at "dl"
      exact hQ rows _ hr lr xt
theorem pg_x {a z : D} : putG (Str.ofString "_boxes") z [(Str.ofString "_roots", a)] = [(Str.ofString "_roots", a), (Str.ofString "_boxes", z)] := rfl
theorem pg_n {a b z : D} : putG (Str.ofString "_numbers") z [(Str.ofString "_roots", a), (Str.ofString "_boxes", b)] = [(Str.ofString "_roots", a), (Str.ofString "_boxes", b), (Str.ofString "_numbers", z)] := rfl
theorem pg_g {a b c z : D} : putG (Str.ofString "_gone") z [(Str.ofString "_roots", a), (Str.ofString "_boxes", b), (Str.ofString "_numbers", c)] = [(Str.ofString "_roots", a), (Str.ofString "_boxes", b), (Str.ofString "_numbers", c), (Str.ofString "_gone", z)] := rfl
theorem pg_m {a b c d z : D} : putG (Str.ofString "_made") z [(Str.ofString "_roots", a), (Str.ofString "_boxes", b), (Str.ofString "_numbers", c), (Str.ofString "_gone", d)] = [(Str.ofString "_roots", a), (Str.ofString "_boxes", b), (Str.ofString "_numbers", c), (Str.ofString "_gone", d), (Str.ofString "_made", z)] := rfl
abbrev initM' (M : Mu) (a r x n g : Addr) : Mu := put (put (put (put (put (put (put (put M r (.dK [])) a (.ins "Memory" [("_roots", .ref r)])) x (.dT [])) a (.ins "Memory" [("_roots", .ref r), ("_boxes", .ref x)])) n (.dT [])) a (.ins "Memory" [("_roots", .ref r), ("_boxes", .ref x), ("_numbers", .ref n)])) g (.dK [])) a (.ins "Memory" [("_roots", .ref r), ("_boxes", .ref x), ("_numbers", .ref n), ("_gone", .ref g), ("_made", .int 0)])
def sp_Memory_init : DSp := fun ds M Q _ => ∃ (a q : Addr) (ps : List (Tx × Int)), ds = [.ref a, .ref q] ∧ M a = some (.ins "Memory" []) ∧ M q = some (.lst (ps.map pD)) ∧ (∀ y ∈ ps, Nd 20 y.1) ∧ ps.length ≤ 100 ∧
  ∀ (A : MAd) (h : Nat → Option (List Tx)) (k : Nat) M', A.m = a → M A.r = none → M A.x = none → M A.n = none → M A.g = none → MemOk M' A h k (lastF ps) (ps.map (·.1)) → k ≤ 21 * ps.length → (∀ b o, b ≠ a → M b = some o → M' b = some o) → Q .non M'
def w_Memory_init_b1 : DTS := dDrop (dMeth "Memory" "set_number" sp_Memory_set_number (dVar 0) (daCons (dMeth "Memory" "locate" sp_Memory_locate (dVar 0) (daCons (dVar 2) (daNil))) (daCons (dC (.str [])) (daCons (dVar 3) (daNil)))))
def w_Memory_init : DTS := dSeq (dSetF "Memory" "_roots" (dVar 0) (dDict0)) (dSeq (dSetF "Memory" "_boxes" (dVar 0) (dDictT)) (dSeq (dSetF "Memory" "_numbers" (dVar 0) (dDictT)) (dSeq (dSetF "Memory" "_gone" (dVar 0) (dDict0)) (dSeq (dSetF "Memory" "_made" (dVar 0) (dC (.int 0))) (dForR (diRef (dVar 1)) (dgTup 2 (dgCons 2 (dgCons 3 (dgNil)))) (w_Memory_init_b1))))))
theorem p_Memory_init : ∀ ds M Q E, sp_Memory_init ds M Q E → w_Memory_init (Ret Q E) (ds.map some ++ List.replicate (4 - 2) none) M := by
  rintro ds M Q E ⟨a, q, ps, rfl, hm, hq, hN, hl, hQ⟩
  have naq : q ≠ a := fun z => by rw [z, hm] at hq; cases hq
  unfold w_Memory_init
  iterate 10 ((try simp only [hm]); walk_at "dl")
  intro r hr
  have e1 : put M r (.dK []) a = some (.ins "Memory" []) := by rw [put_ne fun z => by rw [← z, hm] at hr; cases hr]; exact hm
  have nra : a ≠ r := fun z => by rw [← z, hm] at hr; cases hr
  iterate 10 ((try simp only [e1]); walk_at "dl")
  refine ⟨by decide, ?_⟩
  rw [u_dictT]
  intro x hx
  have nxa : a ≠ x := fun z => by rw [← z, put_same] at hx; cases hx
  have nxr : r ≠ x := fun z => by rw [← z, put_ne (Ne.symm nra), put_same] at hx; cases hx
  have hx0 : M x = none := by rw [put_ne (Ne.symm nxa), put_ne (Ne.symm nxr)] at hx; exact hx
  iterate 10 ((try simp only [put_ne nxa, put_same, pg_x]); walk_at "dl")
  refine ⟨by decide, ?_⟩
  rw [u_dictT]
  intro n hn
  have nna : a ≠ n := fun z => by rw [← z, put_same] at hn; cases hn
  have nnx : x ≠ n := fun z => by rw [← z, put_ne (Ne.symm nxa), put_same] at hn; cases hn
  have nnr : r ≠ n := fun z => by rw [← z, put_ne (Ne.symm nra), put_ne nxr, put_ne (Ne.symm nra), put_same] at hn; cases hn
  have hn0 : M n = none := by rw [put_ne (Ne.symm nna), put_ne (Ne.symm nnx), put_ne (Ne.symm nna), put_ne (Ne.symm nnr)] at hn; exact hn
  iterate 10 ((try simp only [put_ne nna, put_same, pg_x]); walk_at "dl")
  refine ⟨by decide, fun g hg => ?_⟩
  have nga : a ≠ g := fun z => by rw [← z, put_same] at hg; cases hg
  have ngn : n ≠ g := fun z => by rw [← z, put_ne (Ne.symm nna), put_same] at hg; cases hg
  have ngx : x ≠ g := fun z => by rw [← z, put_ne (Ne.symm nxa), put_ne nnx, put_ne (Ne.symm nxa), put_same] at hg; cases hg
  have ngr : r ≠ g := fun z => by rw [← z, put_ne (Ne.symm nra), put_ne nnr, put_ne (Ne.symm nra), put_ne nxr, put_ne (Ne.symm nra), put_same] at hg; cases hg
  have hg0 : M g = none := by rw [put_ne (Ne.symm nga), put_ne (Ne.symm ngn), put_ne (Ne.symm nga), put_ne (Ne.symm ngx), put_ne (Ne.symm nga), put_ne (Ne.symm ngr)] at hg; exact hg
  iterate 10 ((try simp only [put_ne nga, put_same, pg_n, pg_g, pg_m]); walk_at "dl")
  refine ⟨by decide, by decide, ?_⟩
  obtain ⟨M5, hM5⟩ : ∃ M5, M5 = initM' M a r x n g := ⟨_, rfl⟩
  unfold initM' at hM5
  have o5 : ∀ b, b ≠ a → M b ≠ none → M5 b = M b := fun b n1 hb => by
    have k : ∀ {c}, M c = none → b ≠ c := fun e z => hb (by rw [z]; exact e)
    rw [hM5, put_ne n1, put_ne (k hg0), put_ne n1, put_ne (k hn0), put_ne n1, put_ne (k hx0), put_ne n1, put_ne (k hr)]
  have q5 : M5 q = some (.lst (ps.map pD)) := by rw [o5 q naq (by rw [hq]; exact fun z => nomatch z)]; exact hq
  have q5' := q5
  rw [hM5] at q5'
  iterate 10 ((try simp only [q5']); walk_at "dl")
  rw [← hM5]
  have A5 : MemOk M5 ⟨a, r, x, n, g⟩ (fun _ => none) 0 (lastF []) [] := by
    refine ⟨[], [], [], [], ?_, ?_, ?_, ?_, ?_, nnx, ngr, MPl.empty⟩
    · rw [hM5]; exact put_same
    · show M5 r = _
      rw [hM5, put_ne (Ne.symm nra), put_ne ngr, put_ne (Ne.symm nra), put_ne nnr, put_ne (Ne.symm nra), put_ne nxr, put_ne (Ne.symm nra), put_same]; rfl
    · show M5 x = _
      rw [hM5, put_ne (Ne.symm nxa), put_ne ngx, put_ne (Ne.symm nxa), put_ne nnx, put_ne (Ne.symm nxa), put_same]
    · show M5 n = _
      rw [hM5, put_ne (Ne.symm nna), put_ne ngn, put_ne (Ne.symm nna), put_same]
    · show M5 g = _
      rw [hM5, put_ne (Ne.symm nga), put_same]
  refine wForR_by (fun i τ M' => ∃ (h : Nat → Option (List Tx)) (k : Nat) (x2 x3 : Option D), τ = [some (.ref a), some (.ref q), x2, x3] ∧ MemOk M' ⟨a, r, x, n, g⟩ h k (lastF (ps.take i)) ((ps.take i).map (·.1)) ∧ k ≤ 21 * i ∧ ∀ b o, b ≠ a → M b = some o → M' b = some o)
    ⟨_, 0, _, _, rfl, A5, Nat.le_refl _, fun b o n1 e => by rw [o5 b n1 (by rw [e]; exact fun z => nomatch z)]; exact e⟩ (fun i τ M' ⟨_, _, _, _, _, _, _, h⟩ => h q _ naq hq) ?_ ?_
  · rintro i d τ M' hd ⟨h, k, x2, x3, rfl, mo, hk, hf⟩ nxt hn
    obtain ⟨⟨u, m⟩, hx, rfl⟩ := map_at hd
    have hi := (List.getElem?_eq_some_iff.mp hx).1
    obtain ⟨ru, lu, nr, ln, sl, rfl⟩ := hN _ (List.mem_of_getElem? hx)
    have et : ps.take (i + 1) = ps.take i ++ [(ru ++ lu.flatten, m)] := by rw [List.take_succ, hx]; rfl
    obtain ⟨rv, bv, nv, gv, hm', _⟩ := id mo
    unfold pD
    walk_at "dl"
    unfold w_Memory_init_b1
    iterate 10 ((try simp only [hm']); walk_at "dl")
    refine ⟨by decide, by decide, ⟨a, r, x, n, g⟩, h, k, _, _, ru, lu, rfl, mo, nr, sl, by omega, by omega, fun h' k' b' H' L' M2 a1 a2 a3 a4 a5 a6 a7 a8 => ?_⟩
    obtain ⟨rv2, bv2, nv2, gv2, hm2, _⟩ := id a3
    have off : ∀ {c}, M c = none → ∀ {b o}, M b = some o → b ≠ c := fun e b o e2 z => by rw [z, e] at e2; cases e2
    have lh := congrArg List.length a7
    rw [List.length_append, List.length_cons] at lh
    walk_at "dl"
    refine set_number_ok ⟨⟨a, r, x, n, g⟩, h', k', _, _, b', H', L', [], m, rfl, a3, by rw [List.length_map, List.length_take]; omega, a4, a5, a6, Steps.nil, by rw [List.append_nil, List.length_append]; omega, by rw [List.length_nil]; omega, fun h2 k2 M3 b1 b2 b3 b4 => ?_⟩
    rw [List.append_nil, a7] at b3
    rw [List.length_nil] at b2
    refine hn _ _ ⟨h2, k2, _, _, rfl, ?_, by omega, fun b o n1 e => ?_⟩
    · rw [et, lastF_snoc, List.map_append]
      exact b3
    · exact b4 b o n1 (off hr e) (off hx0 e) (off hn0 e) (off hg0 e) (a8 b o n1 (off hr e) (off hx0 e) (off hn0 e) (off hg0 e) (hf b o n1 e))
  · rintro τ M' ⟨h, k, x2, x3, rfl, mo, hk, hf⟩
    rw [List.length_map, List.take_length] at mo
    rw [List.length_map] at hk
    exact hQ ⟨a, r, x, n, g⟩ h k M' rfl hr hx0 hn0 hg0 mo hk hf
end DL
namespace DL
open PySem L2
def atB (u x : Tx) : Bool := decide (u = x) || beneath u x
def partR (rows : List (Tx × Int)) (x : Tx) : List (Tx × Int) := (rows.filter fun q => atB q.1 x).map fun q => (q.1.drop x.length, q.2)
def zerF (f : Tx → Int) (x : Tx) : Tx → Int := fun u => if atB u x = true then 0 else f u
theorem Rows.zero {f : Tx → Int} {rows : List (Tx × Int)} (h : Rows f rows) (x : Tx) : Rows (zerF f x) (rows.filter fun q => !atB q.1 x) := by
  refine ⟨h.asc.filter _, fun t n => ?_⟩
  rw [List.mem_filter, h.mem]
  unfold zerF
  show (n ≠ 0 ∧ f t = n) ∧ (!atB t x) = true ↔ _
  cases atB t x with
  | true =>
    constructor
    · rintro ⟨_, z⟩; cases z
    · rintro ⟨z, e⟩; exact absurd e.symm z
  | false => exact ⟨fun z => z.1, fun z => ⟨z, rfl⟩⟩
end DL
namespace DL
open PySem L2
local macro_rules | `(tactic| walk_at "dl") => `(tactic| try simp (config := { proj := false }) only [↓ex_mk, ↓nx_mk, ↓rt_mk, ↓bk_mk, ↓ct_mk, ↓xc_mk, ↓u_c, ↓u_op, ↓u_un, ↓u_and, ↓u_or, ↓u_not, ↓u_if, ↓u_anil, ↓u_acons, ↓u_lst, ↓u_lstM, ↓u_tup, ↓u_call, ↓u_sl, ↓u_onone, ↓u_cb, ↓u_mt, ↓u_mt0, ↓u_pass, ↓u_seq, ↓u_set, ↓u_asg, ↓u_drop, ↓u_ret, ↓u_retN, ↓u_ifs, ↓u_brk, ↓u_cnt, ↓u_for, ↓u_gname, ↓u_gsub, ↓u_fs, ↓u_fmt, ↓u_js0, ↓u_js, ↓u_em, ↓u_yes, ↓u_never, ↓u_ref, ↓u_forR, ↓u_star, ↓u_dict, ↓u_dict0, ↓u_dp0, ↓u_dp1, ↓u_forK, ↓u_lock, ↓u_kd, ↓u_fld, ↓u_setF, ↓u_make, ↓u_binL, ↓u_binR, ↓u_inO, ↓u_getO, ↓u_setO, ↓u_augO, ↓u_prp, ↓u_inv, ↓u_meth, ↓u_keys, ↓u_try, ↓u_cm, ↓u_makeV, ↓r_enum, ↓r_own, ↓u_raise, ↓u_tryas, ↓u_ca, ↓u_xf, ↓u_idxC, su_mk,
  ↓r_var, ↓r_test, ↓r_andV, ↓r_orV, ↓r_notV, ↓r_tru, ↓r_frz, ↓r_osome, ↓r_any, ↓r_scr, scr_c, ↓r_rng1, ↓r_rng2, ↓r_fz, wipeD,
  onSome_s, onBl_b, onInt_i, onStr_s, onVar_s, onML_l, onML2_l, onML2_d, onDK_d, fmt_s, fmt_i, tru_n, tru_b, tru_i, tru_s, tru_l, tru_t, tru_r, frz_r, sl_s, sl_l, sl_t, sl_r, add_i, add_s, add_l, add_t, add_rl, add_lr, sub_i, mul_i, div_i, mod_i, pow_i, neg_i, cmp_i, eq_i, eq_s, eq_b, eq_n, eq_l, eq_t, eq_rl, eq_lr, eq_ni, eq_in, eq_ns, eq_sn, eq_nb, eq_bn, eq_is, eq_si,
  ix_l, ix_t, ix_s, ix_ri, ix_rs, in_ss, in_l, in_t, in_ir, in_sr, isB_t, isB_f, ltS_s, gtS_s, sorted_l, keyK_s, keyK_i, u_dget, lenOR_r, listOR_r, isn_n, isn_b, isn_i, isn_s, isn_r, isn_l, isn_t, len_s, len_c, len_l, len_t, len_r, int_i, int_b, min_ii, max_ii, list_l, list_t, list_r, list_c, listM_l, listM_c, listM_t, listM_r, isi_, isi_k, ty_n, ty_b, ty_i, ty_s, ty_l, ty_t, it_s, it_l, it_r, itM_l, itM_d, app_r, rev_r, ends_s, ins_r, set_rs, str_i, str_s, ext_l, pop_r, clr_r, star_l, star_t, star_r, onRef_r, onML3_l, onML3_d, onML3_f, onDR_d, onDR_f, onFK_f, join_l, join_t, join_r, starts_s, r_gtup, r_glst, r_gnil, r_gcons, set_r, items_s, items_l, items_t, rng1_i, rng2_i, fz_r, addM_l, addM_rl, onIns_i, onLst_l, isIns_r, isInsM_i, noF_r, noFM_i, rows_r, lenO_r, listO_r, listOM_r, isCK_i, isCK_l, isC_r, isC_s, isC_i, isC_b, isC_n, isC_l, isC_t, putG_0, putG_1, lk_1, onCl_c, onEnum_l, index_l, strO_r, cmpO_r, pop1_r, tuple_l, tuple_t, divmod_i, upper_s, indexT_t, onExc_e, isE_t, isE_c, isE_v, zip_1,
  List.map_cons, List.map_nil, List.cons_append, List.nil_append, List.length_cons, List.length_nil, List.replicate, List.getElem?_cons_zero, List.getElem?_cons_succ, List.set_cons_zero, List.set_cons_succ, id, decide_eq_true_eq, if_true, if_false, Bool.false_eq_true, reduceIte, Bool.not_true, Bool.not_false, true_and, Nat.reduceAdd, Nat.reduceSub, Int.reduceToNat, Int.toNat_natCast, put_same, put_put, atI_0, atI_1, atI_2, atI_3, atI_4, ixN_40, ixN_41, ixN_42, ixN_43])
theorem lookT_drop (kvs : List (TKey × D)) (k u : TKey) : lookT (dropT kvs k) u = if u = k then none else lookT kvs u := by
  unfold lookT dropT
  induction kvs with
  | nil => split <;> rfl
  | cons a r ih =>
    rw [List.filter_cons, List.find?_cons]
    by_cases h1 : a.1 = k
    · rw [if_neg (by simpa using h1), ih]
      by_cases h2 : u = k
      · rw [if_pos h2, if_pos h2]
      · rw [if_neg h2, if_neg h2, decide_eq_false (fun z : a.1 = u => h2 (by rw [← z, h1]))]
    · rw [if_pos (by simpa using h1), List.find?_cons]
      by_cases h2 : a.1 = u
      · rw [decide_eq_true h2]
        rw [if_neg (fun z => h1 (by rw [h2, z]))]
      · rw [decide_eq_false h2]
        exact ih
theorem dropT_nodup {kvs : List (TKey × D)} {k : TKey} (h : (kvs.map (·.1)).Nodup) : ((dropT kvs k).map (·.1)).Nodup := by
  unfold dropT
  exact h.sublist (List.filter_sublist.map _)
theorem dropT_len {kvs : List (TKey × D)} {k : TKey} {d : D} (h : lookT kvs k = some d) : (dropT kvs k).length + 1 ≤ kvs.length := by
  unfold dropT
  have m := lookT_some h
  have : ((kvs.filter fun q => decide (q.1 ≠ k)).length < kvs.length) := by
    refine List.length_filter_lt_length_iff_exists.mpr ⟨_, m, ?_⟩
    simp
  omega
def Sh2 (d : List (TKey × D)) : Prop := ∀ q ∈ d, ∃ (a : Int) (z : Tx), q.1 = [.inl a, .inr z]
structure Mv (d d' : List (TKey × D)) (c n : Int) (P : TKey → Prop) : Prop where
  pn : ∀ z, P [.inl c, .inr z] → lookT d' [.inl n, .inr z] = lookT d [.inl c, .inr z] ∧ lookT d' [.inl c, .inr z] = none
  un : ∀ z, ¬ P [.inl c, .inr z] → lookT d' [.inl n, .inr z] = none ∧ lookT d' [.inl c, .inr z] = lookT d [.inl c, .inr z]
  ot : ∀ a z, a ≠ c → a ≠ n → lookT d' [.inl a, .inr z] = lookT d [.inl a, .inr z]
  nd : (d'.map (·.1)).Nodup
  ln : d'.length ≤ d.length
  sh : Sh2 d'
theorem Mv.start {d : List (TKey × D)} {c n : Int} (nd : (d.map (·.1)).Nodup) (sh : Sh2 d) (fr : ∀ z, lookT d [.inl n, .inr z] = none) : Mv d d c n fun _ => False := ⟨fun _ h => h.elim, fun z _ => ⟨fr z, rfl⟩, fun _ _ _ _ => rfl, nd, Nat.le_refl _, sh⟩
theorem Mv.step {d d' : List (TKey × D)} {c n : Int} {P : TKey → Prop} (m : Mv d d' c n P) (hn : n ≠ c) {z : Tx} {v : D} (hp : ¬ P [.inl c, .inr z]) (hv : lookT d' [.inl c, .inr z] = some v) :
    Mv d (putT (dropT d' [.inl c, .inr z]) [.inl n, .inr z] v) c n (fun k => P k ∨ k = [.inl c, .inr z]) := by
  have ne : ∀ {a b : Int} {x y : Tx}, ([.inl a, .inr x] : TKey) = [.inl b, .inr y] → a = b ∧ x = y := fun e => by
    injection e with e1 e2
    injection e1 with e1
    injection e2 with e2
    injection e2 with e2
    exact ⟨e1, e2⟩
  have q := (m.un z hp).2
  rw [hv] at q
  refine ⟨fun y hy => ?_, fun y hy => ?_, fun a y h1 h2 => ?_, putT_nodup (dropT_nodup m.nd), ?_, fun q hq => ?_⟩
  · rw [lookT_put, lookT_put, lookT_drop, lookT_drop]
    by_cases e : y = z
    · subst e
      rw [if_pos rfl, if_neg (fun z => hn (ne z).1.symm), if_pos rfl]
      exact ⟨q, rfl⟩
    · have hy2 := hy.resolve_right fun x => e (ne x).2
      rw [if_neg (fun x => e (ne x).2), if_neg (fun x => hn (ne x).1), if_neg (fun x => hn (ne x).1.symm), if_neg (fun x => e (ne x).2)]
      exact m.pn y hy2
  · have e : y ≠ z := fun e => hy (.inr (by rw [e]))
    rw [lookT_put, lookT_put, lookT_drop, lookT_drop, if_neg (fun x => e (ne x).2), if_neg (fun x => hn (ne x).1), if_neg (fun x => hn (ne x).1.symm), if_neg (fun x => e (ne x).2)]
    exact m.un y fun x => hy (.inl x)
  · rw [lookT_put, lookT_drop, if_neg (fun x => h2 (ne x).1), if_neg (fun x => h1 (ne x).1)]
    exact m.ot a y h1 h2
  · have a := putT_len (dropT d' [.inl c, .inr z]) [.inl n, .inr z] v
    have b := dropT_len hv
    have e := m.ln
    omega
  · rcases putT_mem hq with rfl | hq
    · exact ⟨n, z, rfl⟩
    · exact m.sh q (List.mem_filter.mp hq).1
def mvH (h : Nat → Option (List Tx)) (c n : Nat) : Nat → Option (List Tx) := fun x => if x = n then h c else if x = c then none else h x
theorem mvH_n {h : Nat → Option (List Tx)} {c n : Nat} : mvH h c n n = h c := by unfold mvH; rw [if_pos rfl]
theorem mvH_o {h : Nat → Option (List Tx)} {c n x : Nat} (e1 : x ≠ n) (e2 : x ≠ c) : mvH h c n x = h x := by unfold mvH; rw [if_neg e1, if_neg e2]
theorem mvH_some {h : Nat → Option (List Tx)} {c n x : Nat} {t : List Tx} (e : mvH h c n x = some t) : (x = n ∧ h c = some t) ∨ (x ≠ n ∧ x ≠ c ∧ h x = some t) := by
  unfold mvH at e
  split at e
  · rename_i z; exact .inl ⟨z, e⟩
  · rename_i z
    split at e
    · cases e
    · rename_i y; exact .inr ⟨z, y, e⟩
section
variable {rv : KV} {bv nv : List (TKey × D)} {gv : List (DKey × D)} {h : Nat → Option (List Tx)} {k : Nat} {f : Tx → Int} {KS : List Tx}
theorem lookK_put (g : List (DKey × D)) (a u : DKey) (d : D) : lookK (putD g a d) u = if u = a then some d else lookK g u := by
  unfold lookK putD
  have rep : ∀ l : List (DKey × D), ((l.map fun q => if q.1 = a then (q.1, d) else q).find? fun q => decide (q.1 = u)).map (·.2) = if u = a then ((l.find? fun q => decide (q.1 = u)).map fun _ => d) else (l.find? fun q => decide (q.1 = u)).map (·.2) := by
    intro l
    induction l with
    | nil => simp
    | cons q r ih =>
      rw [List.map_cons, List.find?_cons, List.find?_cons]
      by_cases h1 : q.1 = a
      · rw [if_pos h1]
        by_cases h2 : q.1 = u
        · simp only [h2, decide_true]
          have : u = a := by rw [← h2, h1]
          rw [if_pos this]
          rfl
        · simp only [h2, decide_false]
          exact ih
      · rw [if_neg h1]
        by_cases h2 : q.1 = u
        · simp only [h2, decide_true]
          have : ¬ u = a := fun z => h1 (by rw [h2, z])
          rw [if_neg this]
        · simp only [h2, decide_false]
          exact ih
  split
  · rename_i h
    rw [rep]
    by_cases e : u = a
    · rw [if_pos e, if_pos e]
      obtain ⟨q, hq, hk⟩ := List.any_eq_true.mp h
      cases z : g.find? fun q => decide (q.1 = u) with
      | some y => rfl
      | none => exact absurd (List.find?_eq_none.mp z q hq) (by rw [e]; simpa using hk)
    · rw [if_neg e, if_neg e]
  · rename_i h
    rw [List.find?_append]
    by_cases e : u = a
    · rw [if_pos e]
      have z : g.find? (fun q => decide (q.1 = u)) = none := List.find?_eq_none.mpr fun q hq hk => h (List.any_eq_true.mpr ⟨q, hq, by rw [← e]; simpa using hk⟩)
      rw [z]
      simp [e]
    · rw [if_neg e]
      have : ¬ a = u := fun z => e z.symm
      cases z : g.find? fun q => decide (q.1 = u) with
      | some y => rfl
      | none => simp [this]
theorem MPl.move (x : MPl rv bv nv gv h k f KS) {b c : Nat} {H L : List Tx} {s : Tx} (h0 : h b = some H) (st : Steps (L ++ [s])) (hd : Nohop L) (hs : isHop s = true) (hc : h c = some (H ++ L ++ [s])) {bv1 nv1 : List (TKey × D)}
    (mb : Mv bv bv1 c ((k + 1 : Nat) : Int) fun q => q ∈ bv.map (·.1)) (mn : Mv nv nv1 c ((k + 1 : Nat) : Int) fun q => q ∈ nv.map (·.1)) :
    MPl rv (putT bv1 [.inl (b : Int), .inr ((L ++ [s]).flatten)] (.int ((k + 1 : Nat) : Int))) nv1 (putD gv (.inl (c : Int)) (.bl true)) (mvH h c (k + 1)) (k + 1) f KS := by
  have ck := x.hm.le _ _ hc
  have bk := x.hm.le _ _ h0
  have cn : c ≠ k + 1 := by omega
  have bc : b ≠ c := fun e => by
    rw [e, hc] at h0
    injection h0 with h0
    have := congrArg List.length h0
    simp only [List.length_append, List.length_singleton] at this
    omega
  have ne : ∀ {a b : Int} {x y : Tx}, ([.inl a, .inr x] : TKey) = [.inl b, .inr y] → a = b ∧ x = y := fun e => by
    injection e with e1 e2
    injection e1 with e1
    injection e2 with e2
    injection e2 with e2
    exact ⟨e1, e2⟩
  -- what the moved dicts hold
  have mvn : ∀ {d d1 : List (TKey × D)}, Mv d d1 c ((k + 1 : Nat) : Int) (fun q => q ∈ d.map (·.1)) → ∀ z, lookT d1 [.inl ((k + 1 : Nat) : Int), .inr z] = lookT d [.inl (c : Int), .inr z] := fun {d d1} m z => by
    by_cases e : ([.inl (c : Int), .inr z] : TKey) ∈ d.map (·.1)
    · exact (m.pn z e).1
    · rw [(m.un z e).1, lookT_none e]
  have mvc : ∀ {d d1 : List (TKey × D)}, Mv d d1 c ((k + 1 : Nat) : Int) (fun q => q ∈ d.map (·.1)) → ∀ z, lookT d1 [.inl (c : Int), .inr z] = none := fun {d d1} m z => by
    by_cases e : ([.inl (c : Int), .inr z] : TKey) ∈ d.map (·.1)
    · exact (m.pn z e).2
    · rw [(m.un z e).2, lookT_none e]
  have mvo : ∀ {d d1 : List (TKey × D)}, Mv d d1 c ((k + 1 : Nat) : Int) (fun q => q ∈ d.map (·.1)) → ∀ (a : Nat) z, a ≠ c → a ≠ k + 1 → lookT d1 [.inl (a : Int), .inr z] = lookT d [.inl (a : Int), .inr z] := fun m a z h1 h2 => m.ot _ z (by omega) (by omega)
  have hex : ∀ {y t}, h y = some t → ∃ y', mvH h c (k + 1) y' = some t := fun {y t} e => by
    by_cases z : y = c
    · exact ⟨k + 1, by rw [mvH_n, ← z]; exact e⟩
    · exact ⟨y, by rw [mvH_o (by have := x.hm.le _ _ e; omega) z]; exact e⟩
  have hbk : ∀ {y t}, mvH h c (k + 1) y = some t → ∃ y', h y' = some t := fun e => by
    rcases mvH_some e with ⟨_, e⟩ | ⟨_, _, e⟩
    · exact ⟨c, e⟩
    · exact ⟨_, e⟩
  refine ⟨⟨fun y t e => ?_, fun y G M t e hG hM ht => ?_, fun y z t e1 e2 => ?_, fun y t e => ?_⟩, fun y t e => ?_, ⟨?_, fun y hy z => ?_, fun y G e M t st2 hd2 hs2 => ?_⟩, fun q hq => ?_, putT_nodup mb.nd, ⟨by have := x.rt.1; omega, fun r => ?_⟩, x.rn, fun y t e => ?_, ⟨?_, fun y hy => ?_⟩, fun y h1 h2 e => ?_, fun y G e M hM hd2 => ?_, fun q hq => ?_, mn.nd, Nat.le_trans mn.ln x.nl, fun t e => ?_⟩
  · obtain ⟨y', e⟩ := hbk e; exact x.hm.sh _ _ e
  · obtain ⟨y', e⟩ := hbk e
    obtain ⟨d, e2⟩ := x.hm.cl _ _ _ _ e hG hM ht
    exact hex e2
  · rcases mvH_some e1 with ⟨a1, a2⟩ | ⟨a1, a3, a2⟩ <;> rcases mvH_some e2 with ⟨b1, b2⟩ | ⟨b1, b3, b2⟩
    · rw [a1, b1]
    · exact absurd (x.hm.inj _ _ _ b2 a2) b3
    · exact absurd (x.hm.inj _ _ _ a2 b2) a3
    · exact x.hm.inj _ _ _ a2 b2
  · rcases mvH_some e with ⟨a1, a2⟩ | ⟨a1, a3, a2⟩
    · omega
    · have := x.hm.le _ _ a2; omega
  · obtain ⟨y', e⟩ := hbk e; exact x.hv _ _ e
  · have a := putT_len bv1 [.inl (b : Int), .inr ((L ++ [s]).flatten)] (.int ((k + 1 : Nat) : Int))
    have b := mb.ln
    have := x.bx.1
    omega
  · rw [lookT_put, if_neg (fun e => by have := (ne e).1; omega), mvo mb y z (by omega) (by omega)]
    exact x.bx.2.1 y (by omega) z
  · rw [lookT_put]
    rcases mvH_some e with ⟨a1, a2⟩ | ⟨a1, a3, a2⟩
    · subst a1
      rw [if_neg (fun e => by have := (ne e).1; omega), mvn mb]
      have q := x.bx.2.2 c G a2 M t st2 hd2 hs2
      cases z : lookT bv [.inl (c : Int), .inr ((M ++ [t]).flatten)] with
      | some d =>
        rw [z] at q
        obtain ⟨c2, e1, e2⟩ := q
        refine ⟨c2, e1, ?_⟩
        have n1 : c2 ≠ c := fun e => by
          rw [e, a2] at e2
          injection e2 with e2
          have := congrArg List.length e2
          simp only [List.length_append, List.length_singleton] at this
          omega
        rw [mvH_o (by have := x.hm.le _ _ e2; omega) n1]
        exact e2
      | none =>
        rw [z] at q
        intro c2 e2
        obtain ⟨c3, e3⟩ := hbk e2
        exact q c3 e3
    · by_cases e1 : ([.inl (y : Int), .inr ((M ++ [t]).flatten)] : TKey) = [.inl (b : Int), .inr ((L ++ [s]).flatten)]
      · rw [if_pos e1]
        obtain ⟨z1, z2⟩ := ne e1
        have z1 : y = b := by omega
        have z2 := steps_inj st2 st z2
        subst z1
        rw [h0] at a2
        injection a2 with a2
        refine ⟨k + 1, rfl, ?_⟩
        rw [mvH_n, hc, ← a2, List.append_assoc, List.append_assoc, z2]
      · rw [if_neg e1, mvo mb y _ a3 a1]
        have q := x.bx.2.2 y G a2 M t st2 hd2 hs2
        cases z : lookT bv [.inl (y : Int), .inr ((M ++ [t]).flatten)] with
        | some d =>
          rw [z] at q
          obtain ⟨c2, e2, e3⟩ := q
          have n1 : c2 ≠ c := fun e => by
            rw [e, hc] at e3
            injection e3 with e3
            obtain ⟨w1, w2, w3⟩ := dec_uniq (x.hm.sh _ _ h0) (x.hm.sh _ _ a2) hd hd2 e3
            have w4 := x.hm.inj _ _ _ h0 (by rw [w1]; exact a2)
            exact e1 (by rw [w4, w2, w3])
          exact ⟨c2, e2, by rw [mvH_o (by have := x.hm.le _ _ e3; omega) n1]; exact e3⟩
        | none =>
          rw [z] at q
          intro c2 e2
          obtain ⟨c3, e3⟩ := hbk e2
          exact q c3 e3
  · rcases putT_mem hq with rfl | hq
    · exact ⟨b, H, L, s, by rw [mvH_o (by omega) bc]; exact h0, st, hd, hs, rfl⟩
    · obtain ⟨a, z, ek⟩ := mb.sh q hq
      obtain ⟨q1, q2⟩ := q
      have ek : q1 = [.inl a, .inr z] := ek
      subst ek
      have lk := lookT_mem mb.nd hq
      by_cases e1 : a = ((k + 1 : Nat) : Int)
      · subst e1
        rw [mvn mb] at lk
        obtain ⟨a2, G, M, t, g1, g2, g3, g4, g5⟩ := x.bk _ (lookT_some lk)
        obtain ⟨w1, w2⟩ := ne g5
        have w1 : c = a2 := by omega
        subst w1
        exact ⟨k + 1, G, M, t, by rw [mvH_n]; exact g1, g2, g3, g4, by rw [w2]⟩
      · by_cases e2 : a = (c : Int)
        · subst e2
          rw [mvc mb] at lk
          cases lk
        · rw [mb.ot a z e2 e1] at lk
          obtain ⟨a2, G, M, t, g1, g2, g3, g4, g5⟩ := x.bk _ (lookT_some lk)
          obtain ⟨w1, w2⟩ := ne g5
          exact ⟨a2, G, M, t, by rw [mvH_o (by omega) (by omega)]; exact g1, g2, g3, g4, by rw [w1, w2]⟩
  · have q := x.rt.2 r
    cases z : getV rv r with
    | some d =>
      rw [z] at q
      obtain ⟨c2, e1, e2⟩ := q
      have n1 : c2 ≠ c := fun e => by
        rw [e, hc] at e2
        injection e2 with e2
        exact one_no (x.hm.sh _ _ h0) e2.symm
      exact ⟨c2, e1, by rw [mvH_o (by have := x.hm.le _ _ e2; omega) n1]; exact e2⟩
    | none =>
      rw [z] at q
      intro c2 e2
      obtain ⟨c3, e3⟩ := hbk e2
      exact q c3 e3
  · rw [lookK_put, if_neg]
    · rcases mvH_some e with ⟨a1, a2⟩ | ⟨a1, a3, a2⟩
      · rw [a1]; exact x.gl.2 _ (by omega)
      · exact x.gn _ _ a2
    · intro z
      injection z with z
      rcases mvH_some e with ⟨a1, a2⟩ | ⟨a1, a3, a2⟩
      · omega
      · omega
  · have : (putD gv (.inl (c : Int)) (.bl true)).length ≤ gv.length + 1 := by
      unfold putD
      split
      · rw [List.length_map]; omega
      · rw [List.length_append]; exact Nat.le_refl _
    have := x.gl.1
    omega
  · rw [lookK_put, if_neg (fun z => by injection z with z; omega)]
    exact x.gl.2 y (by omega)
  · rw [lookK_put]
    split
    · rfl
    · rename_i z
      have n1 : y ≠ c := fun w => z (by rw [w])
      have n2 : y ≠ k + 1 := fun w => by rw [w, mvH_n, hc] at e; cases e
      rw [mvH_o n2 n1] at e
      exact x.gd y h1 (by omega) e
  · rcases mvH_some e with ⟨a1, a2⟩ | ⟨a1, a3, a2⟩
    · subst a1
      rw [mvn mn]
      exact x.nm c G a2 M hM hd2
    · rw [mvo mn y _ a3 a1]
      exact x.nm y G a2 M hM hd2
  · obtain ⟨a, z, ek⟩ := mn.sh q hq
    obtain ⟨q1, q2⟩ := q
    have ek : q1 = [.inl a, .inr z] := ek
    subst ek
    have lk := lookT_mem mn.nd hq
    by_cases e1 : a = ((k + 1 : Nat) : Int)
    · subst e1
      rw [mvn mn] at lk
      obtain ⟨a2, G, M, n, g1, g2, g3, g4, g5, g6⟩ := x.nk _ (lookT_some lk)
      injection g6 with g6 g7
      obtain ⟨w1, w2⟩ := ne g6
      have w1 : c = a2 := by omega
      subst w1
      exact ⟨k + 1, G, M, n, by rw [mvH_n]; exact g1, g2, g3, g4, g5, by rw [w2, g7]⟩
    · by_cases e2 : a = (c : Int)
      · subst e2
        rw [mvc mn] at lk
        cases lk
      · rw [mn.ot a z e2 e1] at lk
        obtain ⟨a2, G, M, n, g1, g2, g3, g4, g5, g6⟩ := x.nk _ (lookT_some lk)
        injection g6 with g6 g7
        obtain ⟨w1, w2⟩ := ne g6
        exact ⟨a2, G, M, n, by rw [mvH_o (by omega) (by omega)]; exact g1, g2, g3, g4, g5, by rw [w1, w2, g7]⟩
  · obtain ⟨y, G, M, h1, h2, h3, h4⟩ := x.cv t e
    obtain ⟨y', e2⟩ := hex h1
    exact ⟨y', G, M, e2, h2, h3, h4⟩
theorem MPl.sh (x : MPl rv bv nv gv h k f KS) : Sh2 bv ∧ Sh2 nv := ⟨fun q hq => by
  obtain ⟨b, H, L, s, _, _, _, _, e⟩ := x.bk q hq
  exact ⟨b, _, e⟩, fun q hq => by
  obtain ⟨b, H, L, n, _, _, _, _, _, e⟩ := x.nk q hq
  exact ⟨b, _, by rw [e]⟩⟩
theorem MPl.fresh (x : MPl rv bv nv gv h k f KS) (z : Tx) : lookT bv [.inl ((k + 1 : Nat) : Int), .inr z] = none ∧ lookT nv [.inl ((k + 1 : Nat) : Int), .inr z] = none := by
  refine ⟨x.bx.2.1 (k + 1) (by omega) z, lookT_none fun m => ?_⟩
  obtain ⟨q, hq, e⟩ := List.mem_map.mp m
  obtain ⟨b, H, L, n, h1, _, _, _, _, rfl⟩ := x.nk q hq
  injection e with e _
  injection e with e
  have := x.hm.le _ _ h1
  omega
end
theorem Mv.congr {d d' : List (TKey × D)} {c n : Int} {P P' : TKey → Prop} (m : Mv d d' c n P) (e : ∀ z, P [.inl c, .inr z] ↔ P' [.inl c, .inr z]) : Mv d d' c n P' := ⟨fun z h => m.pn z ((e z).mpr h), fun z h => m.un z fun x => h ((e z).mp x), m.ot, m.nd, m.ln, m.sh⟩
theorem take_key {d : List (TKey × D)} (nd : (d.map (·.1)).Nodup) {i : Nat} {q : TKey × D} (h : d[i]? = some q) : q.1 ∉ (d.take i).map (·.1) ∧ ∀ k, k ∈ (d.take (i + 1)).map (·.1) ↔ k ∈ (d.take i).map (·.1) ∨ k = q.1 := by
  constructor
  · intro z
    have hi := (List.getElem?_eq_some_iff.mp h).1
    have e : d = d.take i ++ (d[i] :: d.drop (i + 1)) := by rw [← List.drop_eq_getElem_cons hi, List.take_append_drop]
    rw [e, List.map_append, List.map_cons] at nd
    rw [List.getElem?_eq_getElem hi] at h
    injection h with h
    rw [h] at nd
    exact (List.nodup_append.mp nd).2.2 _ z _ List.mem_cons_self rfl
  · intro k
    rw [List.take_succ, h, List.map_append, List.mem_append]
    simp
def sp_Memory__move : DSp := fun ds M Q _ => ∃ (A : MAd) (h : Nat → Option (List Tx)) (k : Nat) (f : Tx → Int) (KS : List Tx) (b c : Nat) (H L : List Tx) (s : Tx), ds = [.ref A.m, .tup [.int b, .str (L ++ [s]).flatten]] ∧ MemOk M A h k f KS ∧ k ≤ 1000000 ∧ KS.length ≤ 1000000 ∧ h b = some H ∧ Steps (L ++ [s]) ∧ Nohop L ∧ isHop s = true ∧ h c = some (H ++ L ++ [s]) ∧
  ∀ M', MemOk M' A (mvH h c (k + 1)) (k + 1) f KS → OffM A M M' → Q (.int ((k + 1 : Nat) : Int)) M'
def w_Memory__move_b1 : DTS := dIfS (dTest (dOp gEq (dOp gIx (dVar 4) (dC (.int 0))) (dVar 2))) (dAsg (dMt "dict" gPopT (dFld "Memory" "_numbers" (dVar 0)) (daCons (dVar 4) (daNil))) (dgSub (dFld "Memory" "_numbers" (dVar 0)) (dTup (daCons (dVar 3) (daCons (dOp gIx (dVar 4) (dC (.int 1))) (daNil)))) gSetT)) (dPass)
def w_Memory__move_b2 : DTS := dIfS (dTest (dOp gEq (dOp gIx (dVar 4) (dC (.int 0))) (dVar 2))) (dAsg (dMt "dict" gPopT (dFld "Memory" "_boxes" (dVar 0)) (daCons (dVar 4) (daNil))) (dgSub (dFld "Memory" "_boxes" (dVar 0)) (dTup (daCons (dVar 3) (daCons (dOp gIx (dVar 4) (dC (.int 1))) (daNil)))) gSetT)) (dPass)
def w_Memory__move_c3 : DTS := dSeq (dAsg (dC (.bl true)) (dgSub (dFld "Memory" "_gone" (dVar 0)) (dVar 2) gSetA)) (dSeq (dAsg (dVar 3) (dgSub (dFld "Memory" "_boxes" (dVar 0)) (dVar 1) gSetT)) (dRet (dVar 3)))
def w_Memory__move_c4 : DTS := dSeq (dFor (diAny (dCB gListT (daCons (dFld "Memory" "_boxes" (dVar 0)) (daNil)))) (dgName 4) (w_Memory__move_b2)) (w_Memory__move_c3)
def w_Memory__move : DTS := dSeq (dSet 2 (dOp gIxT (dFld "Memory" "_boxes" (dVar 0)) (dVar 1))) (dSeq (dSet 3 (dMeth "Memory" "_new_block" sp_Memory__new_block (dVar 0) daNil)) (dSeq (dFor (diAny (dCB gListT (daCons (dFld "Memory" "_numbers" (dVar 0)) (daNil)))) (dgName 4) (w_Memory__move_b1)) (w_Memory__move_c4)))
theorem p_Memory__move : ∀ ds M Q E, sp_Memory__move ds M Q E → w_Memory__move (Ret Q E) (ds.map some ++ List.replicate (5 - 2) none) M := by
  rintro ds M Q E ⟨A, h, k, f, KS, b, c, H, L, s, rfl, mo, hk, hKS, h0, st, hd, hs, hc, hQ⟩
  obtain ⟨rv, bv, nv, gv, hm, hr, hx, hn, hg, nxn, nrg, mp⟩ := id mo
  have q := mp.bx.2.2 b H h0 L s st hd hs
  have ex : lookT bv [.inl (b : Int), .inr ((L ++ [s]).flatten)] = some (.int (c : Nat)) := by
    cases z : lookT bv [.inl (b : Int), .inr ((L ++ [s]).flatten)] with
    | some d =>
      rw [z] at q
      obtain ⟨c2, e1, e2⟩ := q
      rw [e1, mp.hm.inj _ _ _ e2 hc]
    | none =>
      rw [z] at q
      exact absurd hc (q c)
  have nmx : A.m ≠ A.x := fun z => by rw [z, hx] at hm; cases hm
  have nmn : A.m ≠ A.n := fun z => by rw [z, hn] at hm; cases hm
  have nmr : A.m ≠ A.r := fun z => by rw [z, hr] at hm; cases hm
  have nmg : A.m ≠ A.g := fun z => by rw [z, hg] at hm; cases hm
  have ngx : A.g ≠ A.x := fun z => by rw [z, hx] at hg; cases hg
  have ngn : A.g ≠ A.n := fun z => by rw [z, hn] at hg; cases hg
  have nrx : A.r ≠ A.x := fun z => by rw [z, hx] at hr; cases hr
  have nrn : A.r ≠ A.n := fun z => by rw [z, hn] at hr; cases hr
  have lbv := mp.bx.1
  have lnv := mp.nl
  have lgv := mp.gl.1
  have ck := mp.hm.le _ _ hc
  have cn : c ≠ k + 1 := by omega
  unfold w_Memory__move
  iterate 10 ((try simp only [hm, mm_x, ixT_r]); walk_at "dl")
  refine onTK_is hx ⟨_, ex, ?_⟩
  iterate 10 ((try simp only [hm]); walk_at "dl")
  refine ⟨by decide, A, k, rfl, hm, ?_⟩
  rw [show ((k : Nat) : Int) + 1 = ((k + 1 : Nat) : Int) from rfl]
  have m1 : put M A.m (memM A ((k + 1 : Nat) : Int)) A.m = some (memM A ((k + 1 : Nat) : Int)) := put_same
  have n1 : put M A.m (memM A ((k + 1 : Nat) : Int)) A.n = some (.dT nv) := by rw [put_ne (Ne.symm nmn)]; exact hn
  have x1 : put M A.m (memM A ((k + 1 : Nat) : Int)) A.x = some (.dT bv) := by rw [put_ne (Ne.symm nmx)]; exact hx
  have g1 : put M A.m (memM A ((k + 1 : Nat) : Int)) A.g = some (.dK gv) := by rw [put_ne (Ne.symm nmg)]; exact hg
  have r1 : put M A.m (memM A ((k + 1 : Nat) : Int)) A.r = some (.dK (rv.map kvD)) := by rw [put_ne (Ne.symm nmr)]; exact hr
  have o1 : OffM A M (put M A.m (memM A ((k + 1 : Nat) : Int))) := fun a o n1 _ _ _ _ e => by rw [put_ne n1]; exact e
  generalize put M A.m (memM A ((k + 1 : Nat) : Int)) = M1 at m1 n1 x1 g1 r1 o1 ⊢
  iterate 10 ((try simp only [m1, mm_n, listT_r]); walk_at "dl")
  refine ⟨A.n, _, nv, rfl, n1, rfl, ?_⟩
  refine wFor_by (fun i τ M' => (∃ x4, τ = [some (.ref A.m), some (.tup [.int b, .str (L ++ [s]).flatten]), some (.int (c : Nat)), some (.int ((k + 1 : Nat) : Int)), x4]) ∧ (∀ a, a ≠ A.n → M' a = M1 a) ∧ ∃ nv1, M' A.n = some (.dT nv1) ∧ Mv nv nv1 c ((k + 1 : Nat) : Int) fun q => q ∈ (nv.take i).map (·.1)) ⟨⟨_, rfl⟩, fun _ _ => rfl, nv, n1, (Mv.start mp.nn mp.sh.2 fun z => (mp.fresh z).2).congr fun z => by simp⟩ ?_ ?_
  · rintro i d τ M' hdi ⟨⟨x4, rfl⟩, hb, nv1, e1, mv⟩ nxt hnx
    obtain ⟨q, hq, rfl⟩ : ∃ q, nv[i]? = some q ∧ keyD q.1 = d := by
      unfold keysT' at hdi
      rw [List.getElem?_map] at hdi
      exact Option.map_eq_some_iff.mp hdi
    obtain ⟨a, z, ek⟩ := mp.sh.2 q (List.mem_of_getElem? hq)
    obtain ⟨q1, v⟩ := q
    have ek : q1 = [.inl a, .inr z] := ek
    subst ek
    obtain ⟨t1, t2⟩ := take_key mp.nn hq
    have m1' : M' A.m = some (memM A ((k + 1 : Nat) : Int)) := by rw [hb _ nmn]; exact m1
    walk_at "dl"
    unfold w_Memory__move_b1
    iterate 10 ((try simp only [keyD, kD, atI_0, atI_1]); walk_at "dl")
    by_cases e : a = (c : Int)
    · subst e
      rw [if_pos rfl]
      have lv : lookT nv1 [.inl (c : Int), .inr z] = some v := by rw [(mv.un z t1).2]; exact lookT_mem mp.nn (List.mem_of_getElem? hq)
      iterate 10 ((try simp only [m1', mm_n, e1, itM_dT, popT_r]); walk_at "dl")
      refine ⟨A.n, nv1, _, [.inl (c : Int), .inr z], v, rfl, rfl, e1, rfl, rfl, lv, ?_⟩
      iterate 10 ((try simp only [put_ne nmn, m1', mm_n, setT_r]); walk_at "dl")
      have l1 := mv.ln
      have l2 := dropT_len lv
      refine ⟨by decide, A.n, _, _, [.inl ((k + 1 : Nat) : Int), .inr z], rfl, rfl, put_same, rfl, rfl, by omega, ?_⟩
      rw [put_put]
      refine hnx _ _ ⟨⟨_, rfl⟩, fun a na => by rw [put_ne na]; exact hb a na, _, put_same, (mv.step (by omega) t1 lv).congr fun y => ?_⟩
      exact (t2 _).symm
    · rw [if_neg e]
      refine hnx _ _ ⟨⟨_, rfl⟩, hb, nv1, e1, mv.congr fun y => ?_⟩
      rw [t2]
      constructor
      · exact Or.inl
      · rintro (h | h)
        · exact h
        · injection h with h _
          injection h with h
          exact absurd h.symm e
  · rintro τ M' ⟨⟨x4, rfl⟩, hb, nv1, e1, mv⟩
    rw [show (keysT' nv).length = nv.length by unfold keysT'; rw [List.length_map], List.take_length] at mv
    have m2 : M' A.m = some (memM A ((k + 1 : Nat) : Int)) := by rw [hb _ nmn]; exact m1
    have x2 : M' A.x = some (.dT bv) := by rw [hb _ nxn]; exact x1
    have g2 : M' A.g = some (.dK gv) := by rw [hb _ ngn]; exact g1
    have r2 : M' A.r = some (.dK (rv.map kvD)) := by rw [hb _ nrn]; exact r1
    have o2 : OffM A M M' := fun a o a1 a2 a3 a4 a5 e => by rw [hb a a4]; exact o1 a o a1 a2 a3 a4 a5 e
    clear hb
    unfold w_Memory__move_c4
    iterate 10 ((try simp only [m2, mm_x, listT_r]); walk_at "dl")
    refine ⟨A.x, _, bv, rfl, x2, rfl, ?_⟩
    refine wFor_by (fun i τ M3 => (∃ x4, τ = [some (.ref A.m), some (.tup [.int b, .str (L ++ [s]).flatten]), some (.int (c : Nat)), some (.int ((k + 1 : Nat) : Int)), x4]) ∧ (∀ a, a ≠ A.x → M3 a = M' a) ∧ ∃ bv1, M3 A.x = some (.dT bv1) ∧ Mv bv bv1 c ((k + 1 : Nat) : Int) fun q => q ∈ (bv.take i).map (·.1)) ⟨⟨_, rfl⟩, fun _ _ => rfl, bv, x2, (Mv.start mp.bn mp.sh.1 fun z => (mp.fresh z).1).congr fun z => by simp⟩ ?_ ?_
    · rintro i d τ M3 hdi ⟨⟨x4, rfl⟩, hb, bv1, e2, mb⟩ nxt hnx
      obtain ⟨q, hq, rfl⟩ : ∃ q, bv[i]? = some q ∧ keyD q.1 = d := by
        unfold keysT' at hdi
        rw [List.getElem?_map] at hdi
        exact Option.map_eq_some_iff.mp hdi
      obtain ⟨a, z, ek⟩ := mp.sh.1 q (List.mem_of_getElem? hq)
      obtain ⟨q1, v⟩ := q
      have ek : q1 = [.inl a, .inr z] := ek
      subst ek
      obtain ⟨t1, t2⟩ := take_key mp.bn hq
      have m1' : M3 A.m = some (memM A ((k + 1 : Nat) : Int)) := by rw [hb _ nmx]; exact m2
      walk_at "dl"
      unfold w_Memory__move_b2
      iterate 10 ((try simp only [keyD, kD, atI_0, atI_1]); walk_at "dl")
      by_cases e : a = (c : Int)
      · subst e
        rw [if_pos rfl]
        have lv : lookT bv1 [.inl (c : Int), .inr z] = some v := by rw [(mb.un z t1).2]; exact lookT_mem mp.bn (List.mem_of_getElem? hq)
        iterate 10 ((try simp only [m1', mm_x, e2, itM_dT, popT_r]); walk_at "dl")
        refine ⟨A.x, bv1, _, [.inl (c : Int), .inr z], v, rfl, rfl, e2, rfl, rfl, lv, ?_⟩
        iterate 10 ((try simp only [put_ne nmx, m1', mm_x, setT_r]); walk_at "dl")
        have l1 := mb.ln
        have l2 := dropT_len lv
        refine ⟨by decide, A.x, _, _, [.inl ((k + 1 : Nat) : Int), .inr z], rfl, rfl, put_same, rfl, rfl, by omega, ?_⟩
        rw [put_put]
        refine hnx _ _ ⟨⟨_, rfl⟩, fun a na => by rw [put_ne na]; exact hb a na, _, put_same, (mb.step (by omega) t1 lv).congr fun y => ?_⟩
        exact (t2 _).symm
      · rw [if_neg e]
        refine hnx _ _ ⟨⟨_, rfl⟩, hb, bv1, e2, mb.congr fun y => ?_⟩
        rw [t2]
        constructor
        · exact Or.inl
        · rintro (h | h)
          · exact h
          · injection h with h _
            injection h with h
            exact absurd h.symm e
    · rintro τ M3 ⟨⟨x4, rfl⟩, hb, bv1, e2, mb⟩
      rw [show (keysT' bv).length = bv.length by unfold keysT'; rw [List.length_map], List.take_length] at mb
      have m3 : M3 A.m = some (memM A ((k + 1 : Nat) : Int)) := by rw [hb _ nmx]; exact m2
      have g3 : M3 A.g = some (.dK gv) := by rw [hb _ ngx]; exact g2
      have nxg := Ne.symm ngx
      unfold w_Memory__move_c3
      iterate 10 ((try simp only [m3, mm_g, g3]); walk_at "dl")
      refine ⟨by omega, ?_⟩
      iterate 10 ((try simp only [put_ne nmg, m3, mm_x, setT_r]); walk_at "dl")
      have l1 := mb.ln
      refine ⟨A.x, bv1, _, [.inl (b : Int), .inr ((L ++ [s]).flatten)], rfl, rfl, by rw [put_ne nxg]; exact e2, rfl, rfl, by omega, ?_⟩
      refine hQ _ ⟨rv, _, nv1, _, ?_, ?_, put_same, ?_, ?_, nxn, nrg, mp.move h0 st hd hs hc mb mv⟩ fun a o a1 a2 a3 a4 a5 e => ?_
      · rw [put_ne nmx, put_ne nmg]; exact m3
      · rw [put_ne nrx, put_ne nrg, hb _ nrx]; exact r2
      · rw [put_ne (Ne.symm nxn), put_ne (Ne.symm ngn), hb _ (Ne.symm nxn)]; exact e1
      · rw [put_ne ngx, put_same]
      · rw [put_ne a3, put_ne a5, hb a a3]; exact o2 a o a1 a2 a3 a4 a5 e
def HomesLe (h : Nat → Option (List Tx)) (Z : Nat) : Prop := ∃ HS : List (List Tx), HS.length ≤ Z ∧ ∀ b t, h b = some t → t ∈ HS
theorem HomesLe.mono {h : Nat → Option (List Tx)} {Z Z' : Nat} (x : HomesLe h Z) (l : Z ≤ Z') : HomesLe h Z' := by
  obtain ⟨HS, a, b⟩ := x
  exact ⟨HS, by omega, b⟩
theorem HomesLe.of {h : Nat → Option (List Tx)} {k : Nat} (hk : Hm h k) : HomesLe h (k + 1) := ⟨(List.range (k + 1)).filterMap h, by have := List.length_filterMap_le h (List.range (k + 1)); rwa [List.length_range] at this, fun b t e => List.mem_filterMap.mpr ⟨b, List.mem_range.mpr (by have := hk.le _ _ e; omega), e⟩⟩
theorem GrowH.homes {h h' : Nat → Option (List Tx)} {k k' Z : Nat} (g : GrowH h h' k k') (hk : Hm h' k') (x : HomesLe h Z) : HomesLe h' (Z + (k' - k)) := by
  obtain ⟨HS, a, b⟩ := x
  refine ⟨HS ++ (List.range (k' - k)).filterMap fun i => h' (k + 1 + i), ?_, fun c t e => ?_⟩
  · have := List.length_filterMap_le (fun i => h' (k + 1 + i)) (List.range (k' - k))
    rw [List.length_range] at this
    rw [List.length_append]
    omega
  · rcases g.nw c t e with e2 | l
    · exact List.mem_append_left _ (b c t e2)
    · refine List.mem_append_right _ (List.mem_filterMap.mpr ⟨c - (k + 1), List.mem_range.mpr ?_, ?_⟩)
      · have := hk.le _ _ e; omega
      · rw [show k + 1 + (c - (k + 1)) = c by omega]; exact e
structure PackH (X : List Tx) (h h' : Nat → Option (List Tx)) (k : Nat) : Prop where
  old : ∀ c t, h c = some t → h' c = some t ∨ ∃ V, V ≠ [] ∧ t = X ++ V
  new : ∀ c t, h' c = some t → h c = some t ∨ k < c
  mv : ∀ c V, V ≠ [] → h' c = some (X ++ V) → k < c
  ex : ∀ c t, h c = some t → ∃ c', h' c' = some t
  bk : ∀ c t, h' c = some t → ∃ c', h c' = some t
theorem PackH.homes {X : List Tx} {h h' : Nat → Option (List Tx)} {k Z : Nat} (p : PackH X h h' k) (x : HomesLe h Z) : HomesLe h' Z := by
  obtain ⟨HS, a, b⟩ := x
  exact ⟨HS, a, fun c t e => by
    obtain ⟨c', e2⟩ := p.bk c t e
    exact b _ _ e2⟩
structure Pk (h0 : Nat → Option (List Tx)) (k0 : Nat) (X : List Tx) (h : Nat → Option (List Tx)) (k : Nat) (HS : List (List Tx)) (done : List (List Tx)) (W : List WI) : Prop where
  wt : ∀ w ∈ W, WtOk h X w
  nd : (done ++ W.map (·.2.2)).Nodup
  s0 : [] ∈ done ++ W.map (·.2.2)
  dn : ∀ V ∈ done, hmL V = V
  ho : ∀ V ∈ done ++ W.map (·.2.2), X ++ V ∈ X :: HS
  hs : ∀ b t, h b = some t → t ∈ HS
  cl : ∀ V ∈ done, ∀ U s c, Steps (U ++ [s]) → Nohop U → isHop s = true → h c = some (X ++ V ++ U ++ [s]) → V ++ U ++ [s] ∈ done ++ W.map (·.2.2)
  kk : k + 1 = k0 + done.length + W.length
  old : ∀ c t, h0 c = some t → h c = some t ∨ ∃ V, V ≠ [] ∧ t = X ++ V
  new : ∀ c t, h c = some t → h0 c = some t ∨ k0 < c
  mv : ∀ V ∈ done ++ W.map (·.2.2), V ≠ [] → ∀ c, h c = some (X ++ V) → k0 < c
  ex : ∀ c t, h0 c = some t → ∃ c', h c' = some t
  bk : ∀ c t, h c = some t → ∃ c', h0 c' = some t
def PrOk (done : List (List Tx)) (W : List WI) : Prop := ∀ Y ∈ done ++ W.map (·.2.2), Y = [] ∨ ∃ V' ∈ done, ∃ U s, Nohop U ∧ isHop s = true ∧ Y = V' ++ U ++ [s]
section
variable {h0 h : Nat → Option (List Tx)} {k0 k : Nat} {X : List Tx} {HS done : List (List Tx)} {W W' : List WI}
theorem Pk.start {b : Nat} {H L : List Tx} (e : h b = some H) (hL : Steps L) (hd : Nohop L) (ll : L.length ≤ 100) (hs : ∀ b t, h b = some t → t ∈ HS) : Pk h k (H ++ L) h k HS [] [(b, L, [])] :=
  ⟨fun w hw => by rw [List.mem_singleton.mp hw]; exact ⟨⟨H, e, (List.append_nil _).symm⟩, hL, hd, Steps.nil, rfl, ll, Nat.zero_le _⟩, by simp, by simp, (fun V hV => nomatch hV), fun V hV => by simp at hV; simp [hV], hs, (fun V hV => nomatch hV), by simp, fun c t e => .inl e, fun c t e => .inl e,
    fun V hV n => by simp at hV; exact absurd hV n, fun c t e => ⟨c, e⟩, fun c t e => ⟨c, e⟩⟩
theorem Pk.perm (p : Pk h0 k0 X h k HS done W) (e : W.Perm W') : Pk h0 k0 X h k HS done W' := by
  have m : ∀ V, V ∈ done ++ W'.map (·.2.2) ↔ V ∈ done ++ W.map (·.2.2) := fun V => by
    rw [List.mem_append, List.mem_append, (e.map (·.2.2)).mem_iff]
  exact ⟨fun w hw => p.wt w (e.mem_iff.mpr hw), ((e.map (·.2.2)).append_left done).nodup_iff.mp p.nd, (m _).mpr p.s0, p.dn, fun V hV => p.ho V ((m V).mp hV), p.hs, fun V hV U s c a1 a2 a3 a4 => (m _).mpr (p.cl V hV U s c a1 a2 a3 a4), by have := e.length_eq; have := p.kk; omega, p.old, p.new, fun V hV => p.mv V ((m V).mp hV), p.ex, p.bk⟩
theorem Pk.len (p : Pk h0 k0 X h k HS done W) : done.length + W.length ≤ HS.length + 1 := by
  have nd : ((done ++ W.map (·.2.2)).map (X ++ ·)).Nodup := by
    rw [List.nodup_iff_pairwise_ne, List.pairwise_map]
    exact (List.nodup_iff_pairwise_ne.mp p.nd).imp fun {a b} n e => n (List.append_cancel_left e)
  have := nodup_subG nd (bs := X :: HS) fun t ht => by
    obtain ⟨V, hV, rfl⟩ := List.mem_map.mp ht
    exact p.ho V hV
  rw [List.length_map, List.length_append, List.length_map, List.length_cons] at this
  exact this
theorem Pk.child (p : Pk h0 k0 X h k HS done W) (hk : Hm h k) (hv : ∀ b t, h b = some t → t.length ≤ 100) {V U : List Tx} {s : Tx} {c : Nat} (sV : Steps V) (hU : Steps (U ++ [s])) (hs : isHop s = true) (hc : h c = some (X ++ V ++ U ++ [s])) (nw : V ++ U ++ [s] ∉ done ++ W.map (·.2.2)) (k0k : k0 ≤ k) :
    Pk h0 k0 X (mvH h c (k + 1)) (k + 1) HS done (W ++ [(k + 1, [], V ++ U ++ [s])]) := by
  have ck := hk.le _ _ hc
  have cn : c ≠ k + 1 := by omega
  have eX : X ++ V ++ U ++ [s] = X ++ (V ++ U ++ [s]) := by simp only [List.append_assoc]
  have ln := hv _ _ hc
  simp only [List.length_append, List.length_singleton] at ln
  have hbk : ∀ {y t}, mvH h c (k + 1) y = some t → ∃ y', h y' = some t := fun e => by
    rcases mvH_some e with ⟨_, e⟩ | ⟨_, _, e⟩
    · exact ⟨c, e⟩
    · exact ⟨_, e⟩
  have hex : ∀ {y t}, h y = some t → ∃ y', mvH h c (k + 1) y' = some t := fun {y t} e => by
    by_cases z : y = c
    · exact ⟨k + 1, by rw [mvH_n, ← z]; exact e⟩
    · exact ⟨y, by rw [mvH_o (by have := hk.le _ _ e; omega) z]; exact e⟩
  have mem2 : ∀ {Y}, Y ∈ done ++ (W ++ [((k + 1, [], V ++ U ++ [s]) : WI)]).map (·.2.2) ↔ Y ∈ done ++ W.map (·.2.2) ∨ Y = V ++ U ++ [s] := fun {Y} => by
    rw [List.map_append, ← List.append_assoc, List.mem_append]
    simp
  refine ⟨fun w hw => ?_, ?_, mem2.mpr (.inl p.s0), p.dn, fun Y hY => ?_, fun b t e => ?_, fun Y hY U2 s2 c2 a1 a2 a3 a4 => ?_, by rw [List.length_append, List.length_singleton]; have := p.kk; omega, fun c2 t e => ?_, fun c2 t e => ?_, fun Y hY n c2 e => ?_, fun c2 t e => ?_, fun c2 t e => ?_⟩
  · rcases List.mem_append.mp hw with hw | hw
    · have q := p.wt w hw
      obtain ⟨G, e1, e2⟩ := q.ex
      have n1 : w.1 ≠ c := fun z => by
        rw [z, hc] at e1
        injection e1 with e1
        rw [← e1, eX, List.append_assoc] at e2
        have e3 := List.append_cancel_left e2
        have e4 : w.2.2 = V ++ U ++ [s] := by
          have z := q.hm
          rw [← e3, hmL_dots q.n1, (hm_hop hs).1] at z
          have z2 := congrArg List.length z
          simp only [List.length_append] at z2
          have : w.2.1 = [] := List.eq_nil_of_length_eq_zero (by omega)
          rw [← e3, this, List.append_nil]
        exact nw (by rw [← e4]; exact List.mem_append_right _ (List.mem_map.mpr ⟨w, hw, rfl⟩))
      have n2 : w.1 ≠ k + 1 := by have := hk.le _ _ e1; omega
      exact ⟨⟨G, by rw [mvH_o n2 n1]; exact e1, e2⟩, q.s1, q.n1, q.s2, q.hm, q.l1⟩
    · rw [List.mem_singleton.mp hw]
      exact ⟨⟨_, mvH_n.trans hc, by rw [List.append_nil]; exact eX⟩, Steps.nil, (fun u hu => nomatch hu), by show Steps (V ++ U ++ [s]); rw [List.append_assoc]; exact sV.append hU, (hm_hop hs).1, Nat.zero_le _, by show (V ++ U ++ [s]).length ≤ 200; simp only [List.length_append, List.length_singleton]; omega⟩
  · rw [List.map_append, ← List.append_assoc]
    exact List.nodup_append.mpr ⟨p.nd, by simp, fun a ha b hb e => nw (by rw [show V ++ U ++ [s] = b by simpa using (List.mem_singleton.mp hb).symm, ← e]; exact ha)⟩
  · rcases mem2.mp hY with hY | rfl
    · exact p.ho Y hY
    · exact List.mem_cons_of_mem _ (by rw [← eX]; exact p.hs _ _ hc)
  · obtain ⟨b', e⟩ := hbk e; exact p.hs _ _ e
  · obtain ⟨c3, a4⟩ := hbk a4
    exact mem2.mpr (.inl (p.cl Y hY U2 s2 c3 a1 a2 a3 a4))
  · by_cases z : t = X ++ (V ++ U ++ [s])
    · exact .inr ⟨V ++ U ++ [s], by simp, z⟩
    · rcases p.old c2 t e with e2 | e2
      · refine .inl ?_
        rw [mvH_o (by have := hk.le _ _ e2; omega) fun y => z (by rw [y, hc] at e2; injection e2 with e2; rw [← e2, eX])]
        exact e2
      · exact .inr e2
  · rcases mvH_some e with ⟨a1, a2⟩ | ⟨a1, a3, a2⟩
    · right; omega
    · exact p.new _ _ a2
  · rcases mvH_some e with ⟨a1, a2⟩ | ⟨a1, a3, a2⟩
    · omega
    · rcases mem2.mp hY with hY | rfl
      · exact p.mv Y hY n c2 a2
      · exact absurd (hk.inj _ _ _ a2 (by rw [hc, eX])) a3
  · obtain ⟨c3, e⟩ := p.ex _ _ e; exact hex e
  · obtain ⟨c3, e⟩ := hbk e; exact p.bk _ _ e
theorem Pk.close {b : Nat} {L V : List Tx} (p : Pk h0 k0 X h k HS done ((b, L, V) :: W)) (cov : ∀ U s c, Steps (U ++ [s]) → Nohop U → isHop s = true → h c = some (X ++ V ++ U ++ [s]) → V ++ U ++ [s] ∈ W.map (·.2.2)) : Pk h0 k0 X h k HS (done ++ [V]) W := by
  have m : ∀ {Y}, Y ∈ done ++ [V] ++ W.map (·.2.2) ↔ Y ∈ done ++ ((b, L, V) :: W).map (·.2.2) := fun {Y} => by
    rw [List.map_cons]; simp
  refine ⟨fun w hw => p.wt w (List.mem_cons_of_mem _ hw), ?_, m.mpr p.s0, fun Y hY => ?_, fun Y hY => p.ho Y (m.mp hY), p.hs, fun Y hY U s c a1 a2 a3 a4 => ?_, by have := p.kk; rw [List.length_cons] at this; rw [List.length_append, List.length_singleton]; omega, p.old, p.new, fun Y hY => p.mv Y (m.mp hY), p.ex, p.bk⟩
  · have := p.nd
    rw [List.map_cons] at this
    rw [List.append_assoc]
    exact this
  · rcases List.mem_append.mp hY with hY | hY
    · exact p.dn Y hY
    · rw [List.mem_singleton.mp hY]; exact (p.wt _ List.mem_cons_self).hm
  · rcases List.mem_append.mp hY with hY | hY
    · exact m.mpr (p.cl Y hY U s c a1 a2 a3 a4)
    · rw [List.mem_singleton.mp hY] at a4 ⊢
      exact List.mem_append_right _ (cov U s c a1 a2 a3 a4)
theorem Pk.end_ (p : Pk h0 k0 X h k HS done []) (hk : Hm h k) (hv : ∀ b t, h b = some t → VNode t) (vX : VNode X) : PackH X h0 h k0 := by
  have hmX : ∀ V, hmL V = V → V ≠ [] → HmT (X ++ V) := fun V hV n => by
    obtain ⟨r, l, e, _, _⟩ := vX
    exact ⟨r, l ++ V, by rw [e]; rfl, hmL_app hV n⟩
  have z0 : [] ∈ done := by have := p.s0; simpa using this
  have all : ∀ n V, V.length ≤ n → hmL V = V → (V = [] ∨ ∃ b, h b = some (X ++ V)) → V ∈ done := by
    intro n
    induction n with
    | zero =>
      intro V hl _ _
      have : V = [] := List.eq_nil_of_length_eq_zero (by omega)
      rw [this]; exact z0
    | succ n ih =>
      intro V hl hV hh
      by_cases e0 : V = []
      · rw [e0]; exact z0
      · obtain ⟨b2, hb2⟩ := hh.resolve_left e0
        have sV : Steps V := by
          obtain ⟨r, l, e, _, hl2⟩ := hv _ _ hb2
          obtain ⟨r2, l2, e2, _, _⟩ := vX
          rw [e2, List.cons_append] at e
          injection e with _ e
          exact fun t ht => hl2 t (by rw [← e]; exact List.mem_append_right _ ht)
        obtain ⟨V0, s, rfl, hs⟩ := hmL_snoc hV e0
        have d := hm_in V0
        have lV : (hmL V0).length ≤ n := by
          have := congrArg List.length d
          simp only [List.length_append, List.length_singleton] at this hl
          omega
        have hm2 : hmL (hmL V0) = hmL V0 := by
          have := congrArg hmL d
          rw [hmL_dots in_dots] at this
          exact this
        have hb3 : h b2 = some (X ++ hmL V0 ++ inL V0 ++ [s]) := by rw [hb2, List.append_assoc X (hmL V0), d, ← List.append_assoc]
        have in1 : hmL V0 ∈ done := ih (hmL V0) lV hm2 (by
          by_cases e1 : hmL V0 = []
          · exact .inl e1
          · exact .inr (hk.cl _ _ _ _ hb3 (hmX _ hm2 e1) in_dots hs))
        have sU : Steps (inL V0 ++ [s]) := fun t ht => sV t (by
          rcases List.mem_append.mp ht with ht | ht
          · exact List.mem_append_left _ (by rw [← d]; exact List.mem_append_right _ ht)
          · exact List.mem_append_right _ ht)
        have := p.cl _ in1 (inL V0) s b2 sU in_dots hs hb3
        rw [d] at this
        simpa using this
  refine ⟨p.old, p.new, fun c V n e => ?_, p.ex, p.bk⟩
  have hV : hmL V = V := by
    obtain ⟨r, l, e1, e2⟩ := hk.sh _ _ e
    obtain ⟨r2, l2, e3, _, _⟩ := vX
    rw [e3, List.cons_append] at e1
    injection e1 with _ e1
    rw [← e1] at e2
    have d := hm_in V
    by_cases z : hmL V = []
    · rw [z, List.nil_append] at d
      have z2 : Nohop V := by rw [← d]; exact in_dots
      rw [hmL_dots z2] at e2
      have := congrArg List.length e2
      have h3 := congrArg List.length (hm_in l2)
      rw [List.length_append] at this h3
      exact absurd (List.eq_nil_of_length_eq_zero (by omega)) n
    · have hm2 : hmL (hmL V) = hmL V := by
        have := congrArg hmL d
        rw [hmL_dots in_dots] at this
        exact this
      rw [← d, ← List.append_assoc, hmL_dots in_dots, hmL_app hm2 z] at e2
      have := congrArg List.length e2
      rw [List.length_append, List.length_append, List.length_append] at this
      have : inL V = [] := List.eq_nil_of_length_eq_zero (by omega)
      rw [this, List.append_nil] at d
      exact d
  exact p.mv V (by simpa using all V.length V (Nat.le_refl _) hV (.inr ⟨c, e⟩)) n c e
end
def rI (w : WI) : D := .tup [.int (w.1 : Nat), .str w.2.1.flatten]
def w_Memory_pack_b1 : DTS := dIfS (dAnd (dTest (dOp gEq (dOp gIx (dVar 6) (dC (.int 0))) (dVar 4))) (dTru (dCall sp_lies_beneath (daCons (dOp gIx (dVar 6) (dC (.int 1))) (daCons (dVar 5) (daNil)))))) (dDrop (dMt "list" gAppend (dVar 3) (daCons (dTup (daCons (dMeth "Memory" "_move" sp_Memory__move (dVar 0) (daCons (dVar 6) (daNil))) (daCons (dC (.str [])) (daNil)))) (daNil)))) (dPass)
def w_Memory_pack_b2 : DTS := dSeq (dAsg (dMt0 "list" gPop (dVar 3)) (dgTup 2 (dgCons 4 (dgCons 5 (dgNil))))) (dFor (diAny (dCB gListT (daCons (dFld "Memory" "_boxes" (dVar 0)) (daNil)))) (dgName 6) (w_Memory_pack_b1))
def w_Memory_pack : DTS := dSeq (dDrop (dMeth "Memory" "_check" sp_Memory__check (dVar 0) (daCons (dVar 1) (daNil)))) (dSeq (dSet 3 (dLstM (daCons (dMeth "Memory" "_walk" sp_Memory__walk (dVar 0) (daCons (dVar 1) (daCons (dVar 2) (daNil)))) (daNil)))) (dWhile (dTru (dVar 3)) (w_Memory_pack_b2)))
theorem pack_body {A : MAd} {h0 h : Nat → Option (List Tx)} {k0 k : Nat} {f : Tx → Int} {KS : List Tx} {X : List Tx} {HS done : List (List Tx)} {b : Nat} {L V : List Tx} {ws : List WI} {M : Mu} {w : Addr} {D0 : DEnds} {x1 x2 x4 x5 x6 : Option D}
    (mo : MemOk M A h k f KS) (p : Pk h0 k0 X h k HS done ((b, L, V) :: ws)) (pr : PrOk done ((b, L, V) :: ws)) (lk : k0 + HS.length ≤ 900000) (k0k : k0 ≤ k) (lKS : KS.length ≤ 1000000) (hw : M w = some (.lst (ws.map rI ++ [rI (b, L, V)])))
    (nxt : ∀ h' k' ch x4 x5 x6 M2, MemOk M2 A h' k' f KS → Pk h0 k0 X h' k' HS (done ++ [V]) (ws ++ ch) → PrOk (done ++ [V]) (ws ++ ch) → k ≤ k' → M2 w = some (.lst ((ws ++ ch).map rI)) → (∀ a o, a ≠ w → a ≠ A.m → a ≠ A.r → a ≠ A.x → a ≠ A.n → a ≠ A.g → M a = some o → M2 a = some o) → D0.nx [some (.ref A.m), x1, x2, some (.ref w), x4, x5, x6] M2) :
    w_Memory_pack_b2 D0 [some (.ref A.m), x1, x2, some (.ref w), x4, x5, x6] M := by
  obtain ⟨rv, bv, nv, gv, hm, hr, hx, hn, hg, nxn, nrg, mp⟩ := id mo
  have nwA : ∀ {a o}, M a = some o → (∀ ds, o ≠ .lst ds) → a ≠ w := fun e n z => by
    rw [z, hw] at e
    injection e with e
    exact n _ e.symm
  have wt := p.wt _ List.mem_cons_self
  obtain ⟨H, e0, eX⟩ := wt.ex
  have s1 : Steps L := wt.s1
  have n1 : Nohop L := wt.n1
  have s2 : Steps V := wt.s2
  have hmV : hmL V = V := wt.hm
  have lfL := s1.len
  have l1 : L.length ≤ 100 ∧ V.length ≤ 200 := wt.l1
  have e0 : h b = some H := e0
  have eX : H ++ L = X ++ V := eX
  have nV : V ∉ done := fun z => by
    have := p.nd
    rw [List.map_cons] at this
    exact (List.nodup_append.mp this).2.2 V z V List.mem_cons_self rfl
  unfold w_Memory_pack_b2
  have rIe : rI (b, L, V) = .tup [.int (b : Nat), .str L.flatten] := rfl
  rw [rIe] at hw
  iterate 10 ((try simp only [hw, List.getLast?_concat]); walk_at "dl")
  rw [List.dropLast_concat]
  have mo1 : MemOk (put M w (.lst (ws.map rI))) A h k f KS := by
    refine ⟨rv, bv, nv, gv, ?_, ?_, ?_, ?_, ?_, nxn, nrg, mp⟩
    · rw [put_ne (nwA hm (fun _ => nofun))]; exact hm
    · rw [put_ne (nwA hr (fun _ => nofun))]; exact hr
    · rw [put_ne (nwA hx (fun _ => nofun))]; exact hx
    · rw [put_ne (nwA hn (fun _ => nofun))]; exact hn
    · rw [put_ne (nwA hg (fun _ => nofun))]; exact hg
  iterate 10 ((try simp only [put_ne (nwA hm (fun _ => nofun)), hm, mm_x, listT_r]); walk_at "dl")
  refine ⟨A.x, _, bv, rfl, by rw [put_ne (nwA hx (fun _ => nofun))]; exact hx, rfl, ?_⟩
  refine wFor_by (fun i τ M' => (∃ x6, τ = [some (.ref A.m), x1, x2, some (.ref w), some (.int (b : Nat)), some (.str L.flatten), x6]) ∧ ∃ h' k' ch, MemOk M' A h' k' f KS ∧ Pk h0 k0 X h' k' HS done ((b, L, V) :: (ws ++ ch)) ∧ k ≤ k' ∧ M' w = some (.lst ((ws ++ ch).map rI)) ∧ (∀ a o, a ≠ w → a ≠ A.m → a ≠ A.r → a ≠ A.x → a ≠ A.n → a ≠ A.g → M a = some o → M' a = some o) ∧
      (∀ c t, h c = some t → ∃ c', h' c' = some t) ∧ (∀ c t, h' c = some t → ∃ c', h c' = some t) ∧ (∀ w' ∈ ch, ∃ U s, Nohop U ∧ isHop s = true ∧ w'.2.2 = V ++ U ++ [s] ∧ [.inl (b : Int), .inr (L ++ U ++ [s]).flatten] ∈ (bv.take i).map (·.1)) ∧ (∀ U s, Steps (U ++ [s]) → [.inl (b : Int), .inr (L ++ U ++ [s]).flatten] ∈ (bv.take i).map (·.1) → V ++ U ++ [s] ∈ ch.map (·.2.2)))
    ⟨⟨_, rfl⟩, h, k, [], mo1, by rw [List.append_nil]; exact p, Nat.le_refl _, by rw [put_same, List.append_nil], fun a o n _ _ _ _ _ e => by rw [put_ne n]; exact e, fun c t e => ⟨c, e⟩, fun c t e => ⟨c, e⟩, (fun _ h => nomatch h), fun U s _ hq => by simp at hq⟩ ?_ ?_
  · rintro i d τ M' hdi ⟨⟨x6, rfl⟩, h', k', ch, mo', p', hkk, hw', off, up, dn, cc, cv⟩ nx hnx
    obtain ⟨q, hq, rfl⟩ : ∃ q, bv[i]? = some q ∧ keyD q.1 = d := by
      unfold keysT' at hdi
      rw [List.getElem?_map] at hdi
      exact Option.map_eq_some_iff.mp hdi
    have hmem := List.mem_of_getElem? hq
    obtain ⟨b2, H2, L2, s, h2, st2, n2, hs, ek⟩ := mp.bk q hmem
    obtain ⟨q1, v⟩ := q
    have ek : q1 = [.inl (b2 : Int), .inr (L2 ++ [s]).flatten] := ek
    subst ek
    obtain ⟨t1, t2⟩ := take_key mp.bn hq
    have qb := mp.bx.2.2 b2 H2 h2 L2 s st2 n2 hs
    rw [lookT_mem mp.bn hmem] at qb
    obtain ⟨c0, rfl, hc0⟩ := qb
    have ln3 := (mp.hv _ _ hc0).2
    have lf2 := st2.len
    simp only [List.length_append, List.length_singleton] at ln3 lf2
    have lW := p'.len
    rw [List.length_cons, List.length_append] at lW
    have lkk := p'.kk
    rw [List.length_cons, List.length_append] at lkk
    obtain ⟨rv2, bv2, nv2, gv2, hm2, hr2, hx2, hn2, hg2, _, _, mp2⟩ := id mo'
    have keyq : ∀ {U : List Tx} {t : Tx}, Steps (U ++ [t]) → ([.inl (b : Int), .inr (L ++ U ++ [t]).flatten] : TKey) = [.inl (b2 : Int), .inr (L2 ++ [s]).flatten] → b2 = b ∧ L2 ++ [s] = L ++ U ++ [t] := fun {U t} hU e => by
      injection e with a b
      injection a with a
      injection b with b
      injection b with b
      refine ⟨by omega, (steps_inj ?_ st2 b).symm⟩
      rw [List.append_assoc]; exact s1.append hU
    walk_at "dl"
    unfold w_Memory_pack_b1
    iterate 10 ((try simp only [keyD, kD, atI_0, atI_1]); walk_at "dl")
    have skip : ¬ (b2 = b ∧ ∃ U, U ≠ [] ∧ Steps U ∧ L2 ++ [s] = L ++ U) → nx [some (.ref A.m), x1, x2, some (.ref w), some (.int (b : Nat)), some (.str L.flatten), some (.tup [.int (b2 : Nat), .str (L2 ++ [s]).flatten])] M' := fun no => by
      refine hnx _ _ ⟨⟨_, rfl⟩, h', k', ch, mo', p', hkk, hw', off, up, dn, fun w' hw' => ?_, fun U t hU hq => ?_⟩
      · obtain ⟨U, t, r1, r2, r3, r4⟩ := cc w' hw'
        exact ⟨U, t, r1, r2, r3, (t2 _).mpr (.inl r4)⟩
      · rcases (t2 _).mp hq with hq | hq
        · exact cv U t hU hq
        · obtain ⟨a, b⟩ := keyq hU hq
          exact absurd ⟨a, U ++ [t], by simp, hU, by rw [b, List.append_assoc]⟩ no
    by_cases hb : b2 = b
    · have eH : H2 = H := by rw [hb, e0] at h2; injection h2 with h2; exact h2.symm
      rw [if_pos (by rw [hb])]
      refine ⟨_, _, rfl, by omega, by omega, ?_⟩
      cases hbn : beneath (L2 ++ [s]).flatten L.flatten with
      | true =>
        obtain ⟨U', hne, hU', e1⟩ := (key_at st2 s1).mp hbn
        obtain ⟨U, t, rfl⟩ : ∃ U t, U' = U ++ [t] := ⟨_, _, (List.dropLast_concat_getLast hne).symm⟩
        rw [← List.append_assoc] at e1
        obtain ⟨e1', e2'⟩ := List.append_inj' e1 rfl
        injection e2' with e2'
        subst e2'
        have nU : Nohop U := fun x hx => n2 x (by rw [e1']; exact List.mem_append_right _ hx)
        obtain ⟨c, hc⟩ := up _ _ hc0
        have hX : h' c = some (X ++ V ++ U ++ [s]) := by rw [hc, eH, e1', ← eX]; simp only [List.append_assoc]
        obtain ⟨H3, e3, eX3⟩ := (p'.wt _ List.mem_cons_self).ex
        have e3 : h' b = some H3 := e3
        have eX3 : H3 ++ L = X ++ V := eX3
        have eH3 : H3 = H := List.append_cancel_right (eX3.trans eX.symm)
        have newV : V ++ U ++ [s] ∉ done ++ ((b, L, V) :: (ws ++ ch)).map (·.2.2) := fun z => by
          rw [← List.cons_append, List.map_append, ← List.append_assoc] at z
          rcases List.mem_append.mp z with z | z
          · rcases pr _ z with y | ⟨V', hV', U', s', n', p'', e'⟩
            · have := congrArg List.length y
              simp at this
            · obtain ⟨y, _⟩ := decU hmV (p.dn V' hV') nU n' e'
              exact nV (by rw [y]; exact hV')
          · obtain ⟨w', hw2, e2⟩ := List.mem_map.mp z
            obtain ⟨U2, t, r1, r2, r3, r4⟩ := cc w' hw2
            rw [r3] at e2
            have e2 : V ++ U2 ++ [t] = V ++ U ++ [s] := e2
            rw [List.append_assoc, List.append_assoc] at e2
            have e2 := List.append_cancel_left e2
            rw [List.append_assoc, e2, ← List.append_assoc, ← e1, ← hb] at r4
            exact t1 r4
        iterate 10 ((try simp only [hw', hm2]); walk_at "dl")
        have p3 := p'.child mp2.hm (fun b t e => (mp2.hv b t e).2) s2 hU' hs hX newV (by omega)
        refine ⟨by decide, A, h', k', f, KS, b2, c, H2, L2, s, rfl, mo', by omega, lKS, by rw [hb, eH, ← eH3]; exact e3, st2, n2, hs, hc, fun M3 m3 o3 => ?_⟩
        have hw3 : M3 w = some (.lst ((ws ++ ch).map rI)) := by
          refine o3 w _ ?_ ?_ ?_ ?_ ?_ hw'
          · exact fun z => by rw [z, hm2] at hw'; cases hw'
          · exact fun z => by rw [z, hr2] at hw'; cases hw'
          · exact fun z => by rw [z, hx2] at hw'; cases hw'
          · exact fun z => by rw [z, hn2] at hw'; cases hw'
          · exact fun z => by rw [z, hg2] at hw'; cases hw'
        iterate 10 ((try simp only [hw3]); walk_at "dl")
        rw [List.length_map, List.length_append]
        refine ⟨by decide, by omega, ?_⟩
        refine hnx _ _ ⟨⟨_, rfl⟩, mvH h' c (k' + 1), k' + 1, ch ++ [(k' + 1, [], V ++ U ++ [s])], ?_, by rw [← List.append_assoc]; exact p3, by omega, by rw [put_same, ← List.append_assoc, List.map_append (l₁ := ws ++ ch)]; rfl, fun a o b1 b2 b3 b4 b5 b6 e => ?_, fun c t e => ?_, fun c2 t e => ?_, fun w' hw2 => ?_, fun U2 t hU2 hq => ?_⟩
        · obtain ⟨rv4, bv4, nv4, gv4, hm4, hr4, hx4, hn4, hg4, z⟩ := m3
          have nn : ∀ {a o}, M3 a = some o → (∀ ds, o ≠ .lst ds) → a ≠ w := fun e n z => by
            rw [z, hw3] at e
            injection e with e
            exact n _ e.symm
          exact ⟨rv4, bv4, nv4, gv4, by rw [put_ne (nn hm4 (fun _ => nofun))]; exact hm4, by rw [put_ne (nn hr4 (fun _ => nofun))]; exact hr4, by rw [put_ne (nn hx4 (fun _ => nofun))]; exact hx4, by rw [put_ne (nn hn4 (fun _ => nofun))]; exact hn4, by rw [put_ne (nn hg4 (fun _ => nofun))]; exact hg4, z⟩
        · rw [put_ne b1]; exact o3 a o b2 b3 b4 b5 b6 (off a o b1 b2 b3 b4 b5 b6 e)
        · obtain ⟨c2, e2⟩ := p.bk _ _ e
          exact p3.ex _ _ e2
        · obtain ⟨c3, e2⟩ := p3.bk _ _ e
          exact p.ex _ _ e2
        · rcases List.mem_append.mp hw2 with hw2 | hw2
          · obtain ⟨U, t, r1, r2, r3, r4⟩ := cc w' hw2
            exact ⟨U, t, r1, r2, r3, (t2 _).mpr (.inl r4)⟩
          · rw [List.mem_singleton.mp hw2]
            exact ⟨U, s, nU, hs, rfl, (t2 _).mpr (.inr (by rw [← e1, ← hb]))⟩
        · rw [List.map_append]
          rcases (t2 _).mp hq with hq | hq
          · exact List.mem_append_left _ (cv U2 t hU2 hq)
          · obtain ⟨_, b⟩ := keyq hU2 hq
            rw [e1, List.append_assoc, List.append_assoc] at b
            have b := List.append_cancel_left b
            refine List.mem_append_right _ ?_
            rw [List.append_assoc V U2, ← b, ← List.append_assoc]
            exact List.mem_cons_self
      | false =>
        walk_at "dl"
        refine skip fun ⟨_, U, hne, hU, e1⟩ => ?_
        have := (key_at st2 s1).mpr ⟨U, hne, hU, e1⟩
        rw [hbn] at this
        cases this
    · rw [if_neg (by omega)]
      exact skip fun z => hb z.1
  · rintro τ M' ⟨⟨x6, rfl⟩, h', k', ch, mo', p', hkk, hw', off, up, dn, cc, cv⟩
    rw [show (keysT' bv).length = bv.length by unfold keysT'; rw [List.length_map], List.take_length] at cv
    have p2 := p'.close fun U s c a1 a2 a3 a4 => by
      rw [List.map_append]
      refine List.mem_append_right _ (cv U s a1 ?_)
      obtain ⟨c0, hc0⟩ := dn _ _ a4
      have sLU : Steps (L ++ U ++ [s]) := by rw [List.append_assoc]; exact s1.append a1
      have qb := mp.bx.2.2 b H e0 (L ++ U) s sLU (fun t ht => (List.mem_append.mp ht).elim (n1 t) (a2 t)) a3
      cases z : lookT bv [.inl (b : Int), .inr (L ++ U ++ [s]).flatten] with
      | none =>
        rw [z] at qb
        exact absurd (by rw [hc0, ← eX]; simp only [List.append_assoc]) (qb c0)
      | some d => exact List.mem_map.mpr ⟨_, lookT_some z, rfl⟩
    refine nxt h' k' ch _ _ _ M' mo' p2 (fun Y hY => ?_) hkk hw' off
    rw [List.map_append, List.append_assoc] at hY
    rcases List.mem_append.mp hY with hY | hY
    · rcases pr Y (List.mem_append_left _ hY) with z | ⟨V', hV', r⟩
      · exact .inl z
      · exact .inr ⟨V', List.mem_append_left _ hV', r⟩
    · rcases List.mem_append.mp hY with hY | hY
      · rw [List.mem_singleton.mp hY]
        rcases pr V (List.mem_append_right _ List.mem_cons_self) with z | ⟨V', hV', r⟩
        · exact .inl z
        · exact .inr ⟨V', List.mem_append_left _ hV', r⟩
      · rcases List.mem_append.mp hY with hY | hY
        · rcases pr Y (List.mem_append_right _ (List.mem_cons_of_mem _ hY)) with z | ⟨V', hV', r⟩
          · exact .inl z
          · exact .inr ⟨V', List.mem_append_left _ hV', r⟩
        · obtain ⟨w', hw2, rfl⟩ := List.mem_map.mp hY
          obtain ⟨U, t, r1, r2, r3, _⟩ := cc w' hw2
          exact .inr ⟨V, List.mem_append_right _ List.mem_cons_self, U, t, r1, r2, r3⟩
def s0_Memory_pack : DSp := fun ds M Q _ => ∃ (A : MAd) (h : Nat → Option (List Tx)) (k : Nat) (f : Tx → Int) (KS : List Tx) (b : Nat) (H L l : List Tx) (Z : Nat), ds = [.ref A.m, .tup [.int b, .str L.flatten], .str l.flatten] ∧ MemOk M A h k f KS ∧ h b = some H ∧ Steps L ∧ Nohop L ∧ Steps l ∧ (H ++ L ++ l).length ≤ 100 ∧ HomesLe h Z ∧ k + Z ≤ 800000 ∧ KS.length ≤ 800000 ∧
  ∀ (h1 : Nat → Option (List Tx)) (k1 : Nat) (h' : Nat → Option (List Tx)) (k' : Nat) M', GrowH h h1 k k1 → k1 ≤ k + l.length → PackH (H ++ L ++ l) h1 h' k1 → k1 ≤ k' → k' ≤ k1 + Z + l.length → HomesLe h' (Z + l.length) → MemOk M' A h' k' f KS → OffM A M M' → Q .non M'
def sp_Memory_pack : DSp := fun ds M Q E => s0_Memory_pack ds M Q E ∨ ∃ (A : MAd) (b : Int) (i : Tx) (x0 : D), ds = [.ref A.m, .tup [.int b, .str i], x0] ∧ StlX M A b i ∧ E ⟨"Stale", [("address", .tup [.int b, .str i])]⟩ M
theorem pack_ok {ds : List D} {M : Mu} {Q : DK} {E : DX} (h : s0_Memory_pack ds M Q E) : sp_Memory_pack ds M Q E := .inl h
theorem q_Memory_pack : ∀ ds M Q E, s0_Memory_pack ds M Q E → w_Memory_pack (Ret Q E) (ds.map some ++ List.replicate (7 - 3) none) M := by
  rintro ds M Q E ⟨A, h, k, f, KS, b, H, L, l, Z, rfl, mo, h0, hL, hd, hl, hlen, hZ, hkk, hKS, hQ⟩
  obtain ⟨rv, bv, nv, gv, hm, hr, hx, hn, hg, nxn, nrg, mp⟩ := id mo
  simp only [List.length_append] at hlen
  unfold w_Memory_pack
  iterate 10 ((try simp only [hm]); walk_at "dl")
  refine ⟨by decide, check_ok ⟨A, k, b, _, gv, rfl, hm, hg, mp.gn _ _ h0, ?_⟩⟩
  iterate 10 ((try simp only [hm]); walk_at "dl")
  refine ⟨by decide, A, h, k, f, KS, b, H, L, l, rfl, mo, h0, hL, hd, hl, by simp only [List.length_append]; omega, by omega, fun h1 k1 b1 H1 L1 M1 a1 a2 a3 a4 a5 a6 a7 a8 => ?_⟩
  obtain ⟨rv1, bv1, nv1, gv1, hm1, hr1, hx1, hn1, hg1, _, _, mp1⟩ := id a3
  obtain ⟨HS, z1, z2⟩ := a1.homes mp1.hm hZ
  have lH1 := congrArg List.length a7
  simp only [List.length_append] at lH1
  have vX : VNode (H1 ++ L1) := (mp1.hv _ _ a4).1.app a5
  walk_at "dl"
  refine ⟨by decide, fun w hw => ?_⟩
  have nw : ∀ {a o}, M1 a = some o → a ≠ w := fun e z => by rw [z, hw] at e; cases e
  have m1 : MemOk (put M1 w (.lst [.tup [.int (b1 : Nat), .str L1.flatten]])) A h1 k1 f KS := a3.xt (Xt.new hw)
  refine ⟨fun n τ M' => ∃ (h' : Nat → Option (List Tx)) (k' : Nat) (done : List (List Tx)) (W : List WI) (x4 x5 x6 : Option D), n = HS.length + 1 - done.length ∧ τ = [some (.ref A.m), some (.tup [.int b, .str L.flatten]), some (.str l.flatten), some (.ref w), x4, x5, x6] ∧ MemOk M' A h' k' f KS ∧ Pk h1 k1 (H1 ++ L1) h' k' HS done W ∧ PrOk done W ∧ k1 ≤ k' ∧ M' w = some (.lst (W.map rI)) ∧ (∀ a o, a ≠ A.m → a ≠ A.r → a ≠ A.x → a ≠ A.n → a ≠ A.g → M a = some o → M' a = some o),
    ⟨_, h1, k1, [], [(b1, L1, [])], _, _, _, rfl, rfl, m1, Pk.start a4 a5 a6 (by omega) z2, fun Y hY => by simp at hY; exact .inl hY, Nat.le_refl _, put_same, fun a o n1 n2 n3 n4 n5 e => by have := a8 a o n1 n2 n3 n4 n5 e; rw [put_ne (nw this)]; exact this⟩, ?_⟩
  rintro n τ M' ⟨h', k', done, W, x4, x5, x6, rfl, rfl, mo', p, pr, hk1, hw', off⟩
  have lW := p.len
  iterate 10 ((try simp only [hw']); walk_at "dl")
  rcases List.eq_nil_or_concat W with rfl | ⟨ws, w0, rfl⟩
  · rw [if_neg (by simp)]
    obtain ⟨rv2, bv2, nv2, gv2, _, _, _, _, _, _, _, mp2⟩ := id mo'
    have pe := p.end_ mp2.hm (fun b t e => (mp2.hv b t e).1) vX
    rw [a7] at pe
    have kk := p.kk
    simp only [List.length_nil] at kk lW
    exact hQ h1 k1 h' k' M' a1 a2 pe hk1 (by omega) (pe.homes ⟨HS, by omega, z2⟩) mo' off
  · rw [List.concat_eq_append] at p pr hw' lW ⊢
    rw [if_pos (by simp)]
    obtain ⟨b2, L2, V⟩ := w0
    have pm : (ws ++ [(b2, L2, V)]).Perm ((b2, L2, V) :: ws) := List.perm_append_singleton _ _
    have mm : ∀ Y, Y ∈ done ++ ((b2, L2, V) :: ws).map (·.2.2) ↔ Y ∈ done ++ (ws ++ [(b2, L2, V)]).map (·.2.2) := fun Y => by
      rw [List.mem_append, List.mem_append, (pm.map (·.2.2)).mem_iff]
    rw [List.map_append] at hw'
    refine pack_body mo' (p.perm pm) (fun Y hY => pr Y ((mm Y).mp hY)) (by omega) hk1 (by omega) hw' fun h3 k3 ch x4 x5 x6 M3 m3 p3 pr3 hk3 hw3 off3 => ?_
    rw [List.length_append, List.length_singleton] at lW
    refine ⟨_, ?_, h3, k3, done ++ [V], ws ++ ch, _, _, _, rfl, rfl, m3, p3, pr3, by omega, hw3, fun a o n1 n2 n3 n4 n5 e => ?_⟩
    · rw [List.length_append, List.length_singleton]; omega
    · have e1 := a8 a o n1 n2 n3 n4 n5 e
      exact off3 a o (nw e1) n1 n2 n3 n4 n5 (off a o n1 n2 n3 n4 n5 e)
theorem p_Memory_pack : ∀ ds M Q E, sp_Memory_pack ds M Q E → w_Memory_pack (Ret Q E) (ds.map some ++ List.replicate (7 - 3) none) M := by
  rintro ds M Q E (h | ⟨A, b, i, x0, rfl, ⟨k, gv, h, hg, hz⟩, hE⟩)
  · exact q_Memory_pack ds M Q E h
  · unfold w_Memory_pack
    iterate 10 ((try simp only [h]); walk_at "dl")
    refine ⟨by decide, .inr ⟨A, b, i, rfl, ⟨k, gv, h, hg, hz⟩, ?_⟩⟩
    walk_at "dl"
    exact hE
def partF (f : Tx → Int) (X : Tx) : Tx → Int := fun t => if atB (X ++ t) X = true then f (X ++ t) else 0
theorem atB_app {X t : Tx} : atB (X ++ t) X = true ↔ ∃ l : List Tx, (∀ u ∈ l, Part u) ∧ t = l.flatten := by
  unfold atB
  rw [Bool.or_eq_true, decide_eq_true_iff, beneath_parts]
  constructor
  · rintro (e | ⟨l, _, hp, e⟩)
    · exact ⟨[], (fun u hu => nomatch hu), by have := congrArg List.length e; rw [List.length_append] at this; exact List.eq_nil_of_length_eq_zero (by omega)⟩
    · exact ⟨l, hp, List.append_cancel_left e⟩
  · rintro ⟨l, hp, rfl⟩
    cases l with
    | nil => exact .inl (by simp)
    | cons a r => exact .inr ⟨a :: r, by simp, hp, rfl⟩
theorem CollAt.part {f : Tx → Int} {KS : List Tx} {X : List Tx} {fv : KV} (C : CollAt f KS X [] fv) (vX : VNode X) (sv : ∀ t, f t ≠ 0 → ∃ T, VNode T ∧ t = T.flatten) : (∀ t d, getV fv t = some d → d = .int (partF f X.flatten t)) ∧ ∀ t, getV fv t = none → partF f X.flatten t = 0 := by
  obtain ⟨r, l, rfl, nr, sl⟩ := vX
  constructor
  · intro t d e
    obtain ⟨U, hU, e1, _, rfl⟩ := C.fa t d e
    have e1 : t = U.flatten := e1
    subst e1
    unfold partF
    rw [if_pos (atB_app.mpr ⟨U, fun u hu => (hU u hu).part, rfl⟩), List.flatten_append]
  · intro t e
    unfold partF
    split
    · rename_i h
      obtain ⟨m, hp, rfl⟩ := atB_app.mp h
      by_cases z : f ((r :: l).flatten ++ m.flatten) = 0
      · exact z
      · obtain ⟨T, ⟨r2, l2, rfl, nr2, sl2⟩, e2⟩ := sv _ z
        have e3 : partsF (r ++ (l ++ m).flatten) = partsF (r2 ++ l2.flatten) := by
          rw [List.flatten_cons, List.flatten_cons] at e2
          rw [List.flatten_append, ← List.append_assoc, e2]
        rw [nd_parts nr2 sl2, parts_of (lett_plain nr.2.2) fun u hu => (List.mem_append.mp hu).elim (fun z => (sl u z).part) (hp u)] at e3
        injection e3 with _ e3
        have hm : Steps m := fun u hu => sl2 u (by rw [← e3]; exact List.mem_append_right _ hu)
        have := C.fb m hm (by rw [List.flatten_append]; exact z)
        rw [List.nil_append, e] at this
        cases this
    · rfl
theorem Rows.part {f : Tx → Int} {rows : List (Tx × Int)} (h : Rows f rows) (X : Tx) : Rows (partF f X) (partR rows X) := by
  constructor
  · unfold partR
    rw [List.pairwise_map]
    refine (h.asc.filter _).imp_of_mem fun {a b} ha hb lt => ?_
    have pa : X <+: a.1 := by
      have := (List.mem_filter.mp ha).2
      unfold atB at this
      rcases Bool.or_eq_true_iff.mp this with z | z
      · rw [of_decide_eq_true z]; exact List.prefix_refl _
      · obtain ⟨l, _, _, e⟩ := beneath_parts.mp z
        rw [e]; exact List.prefix_append _ _
    have pb : X <+: b.1 := by
      have := (List.mem_filter.mp hb).2
      unfold atB at this
      rcases Bool.or_eq_true_iff.mp this with z | z
      · rw [of_decide_eq_true z]; exact List.prefix_refl _
      · obtain ⟨l, _, _, e⟩ := beneath_parts.mp z
        rw [e]; exact List.prefix_append _ _
    obtain ⟨ta, ea⟩ := pa
    obtain ⟨tb, eb⟩ := pb
    rw [← ea, ← eb] at lt ⊢
    rw [List.drop_left, List.drop_left]
    have go : ∀ X : Tx, X ++ ta < X ++ tb → ta < tb := by
      intro X
      induction X with
      | nil => exact id
      | cons c r ih =>
        intro lt
        rw [List.cons_append, List.cons_append, List.cons_lt_cons_iff] at lt
        rcases lt with lt | ⟨_, lt⟩
        · omega
        · exact ih lt
    exact go X lt
  · intro t n
    unfold partR partF
    rw [List.mem_map]
    constructor
    · rintro ⟨⟨u, m⟩, hq, e⟩
      obtain ⟨h1, h2⟩ := List.mem_filter.mp hq
      injection e with e1 e2
      have e1 : u.drop X.length = t := e1
      have e2 : m = n := e2
      subst e2
      have h2 : atB u X = true := h2
      have pu : u = X ++ t := by
        unfold atB at h2
        rcases Bool.or_eq_true_iff.mp h2 with z | z
        · have z := of_decide_eq_true z
          rw [z, List.drop_length] at e1
          rw [z, ← e1, List.append_nil]
        · obtain ⟨l, _, _, e⟩ := beneath_parts.mp z
          rw [e, List.drop_left] at e1
          rw [e, e1]
      rw [pu] at h1 h2
      obtain ⟨g1, g2⟩ := (h.mem _ _).mp h1
      rw [if_pos h2]
      exact ⟨g1, g2⟩
    · rintro ⟨h1, h2⟩
      split at h2
      · rename_i z
        exact ⟨(X ++ t, n), List.mem_filter.mpr ⟨(h.mem _ _).mpr ⟨h1, h2⟩, z⟩, by simp⟩
      · exact absurd h2.symm h1
def sp_Memory_part : DSp := fun ds M Q E => ∃ (A : MAd) (b : Int) (i : Tx), ds = [.ref A.m, .tup [.int b, .str i]] ∧ StlX M A b i ∧ E ⟨"Stale", [("address", .tup [.int b, .str i])]⟩ M
def w_Memory_part : DTS := dSeq (dDrop (dMeth "Memory" "_check" sp_Memory__check (dVar 0) (daCons (dVar 1) (daNil)))) (dRet (dCall sp_in_order (daCons (dMeth "Memory" "_collect" sp_Memory__collect (dVar 0) (daCons (dVar 1) (daCons (dC (.str [])) (daNil)))) (daNil))))
theorem p_Memory_part : ∀ ds M Q E, sp_Memory_part ds M Q E → w_Memory_part (Ret Q E) (ds.map some ++ List.replicate (2 - 2) none) M := by
  rintro ds M Q E ⟨A, b, i, rfl, ⟨k, gv, h, hg, hz⟩, hE⟩
  unfold w_Memory_part
  iterate 10 ((try simp only [h]); walk_at "dl")
  refine ⟨by decide, .inr ⟨A, b, i, rfl, ⟨k, gv, h, hg, hz⟩, ?_⟩⟩
  walk_at "dl"
  exact hE
end DL
namespace DL
open PySem PySem.Spec PyProof.Rows L2 L2H HotX He
structure GdH (X : Cx) (W : WX) : Prop where
  hu : X.A.units + 64 < cLine
  own : PassesOwn (model X.prog X.w) X.A X.env X.xe
  nd : X.N.Nodup
  tk : L2N.Takes X W
  hc : HotC X
structure FnMH (P : Program) (w : World) (K : PySem.W.Frag) (mg : Str → Option Value) (base : Heap) (k : Nat) (x : Str) (sp : DSp) : Prop where
  ex : ∃ f fd ps, FnH P w K mg base (L2N.CX P w) k f fd ps (lsp K sp) ∧ mg x = some (.ref f) ∧ PySem.W.keepIn K (.ref f) = true ∧ Binds K fd ps []
theorem def_okH {P : Program} {w : World} {K : PySem.W.Frag} {mg : Str → Option Value} {base : Heap} {x qual : Str} {st : Stmt} {f : Addr} {fd : FuncData} {N ps : List Str} {k : Nat} {sp : DSp} {t : DTS}
    (F : FunD K x qual (defArgs st) (defBody st) (defScope st) [] [] f fd) (S : FnScope N ps (defScope st)) (len : ∀ ds M Q E, sp ds M Q E → ds.length = ps.length)
    (hd : ∀ (cdv : Value) (A : Around) (outer : List Env) (s : Shared) (H : Hp) (E : XK) (p : Addr × Obj), GdH (cxH (L2N.CX P w) P w K mg base N qual (defScope st) f cdv A outer s H E p) (fun c d _ H => E c d H) → RoomH k (cxH (L2N.CX P w) P w K mg base N qual (defScope st) f cdv A outer s H E p).A →
      DSs (cxH (L2N.CX P w) P w K mg base N qual (defScope st) f cdv A outer s H E p) (fun c d _ H => E c d H) (defBody st) t)
    (hp : ∀ ds M Q E, sp ds M Q E → t { nx := fun _ M' => Q .non M', rt := Q, xc := fun x _ M' => E x M' } (ds.map some ++ List.replicate (N.length - ps.length) none) M) :
    FnH P w K mg base (L2N.CX P w) (k + 1) f fd ps (lsp K sp) := by
  obtain ⟨oc, od, dV, kV, doc, pm, an, cdv, ct, osl, rfl, lk, hcd, hD, _⟩ := F.ex
  refine fn_ofH lk hcd S (fun vs H Q E h => ?_) (fun A outer s H vs Q E p hot hr h => ?_)
  · obtain ⟨ds, M, Q0, E0, r, c, h, _⟩ := h
    rw [r.length]
    exact len ds M Q0 E0 h
  · obtain ⟨ds, M, Q0, E0, r, c, h, hq, he⟩ := h
    have hl := len ds M Q0 E0 h
    have hu := hr.un
    refine ⟨lifS K (fun c d _ H => E c d H) t, hd cdv A outer s H E p ⟨?_, passes_of rfl, S.nd, L2N.takes_of rfl rfl rfl rfl, ⟨p, hot, List.mem_cons_self⟩⟩ hr, ?_⟩
    · show (A.deeper (envOfC qual (defScope st) s.heap.objs.size f cdv)).units + 64 < cLine
      omega
    refine ⟨_, M, { nx := fun _ M' => Q0 .non M', rt := Q0, xc := fun x _ M' => E0 x M' }, ⟨?_, c, fun τ' M' σ' H' h r c' s' => hq .non M' .non H' h rfl c' s', hq, fun _ _ _ _ h => h.elim, fun _ _ _ _ h => h.elim, fun x τ' M' c d σ' H' h r _ c' s' => he x M' c d H' h r c' s'⟩, hp ds M Q0 E0 h⟩
    unfold L2.start
    rw [r.length, hl]
    exact RepS.start _ r
theorem FnMH.of {P : Program} {w : World} {K : PySem.W.Frag} {mg : Str → Option Value} {base : Heap} {k : Nat} {x : Str} {f : Addr} {fd : FuncData} {ps : List Str} {sp : DSp} (F : FnH P w K mg base (L2N.CX P w) k f fd ps (lsp K sp)) (hm : mg x = some (.ref f))
    (hk : PySem.W.keepIn K (.ref f) = true) (hb : Binds K fd ps []) : FnMH P w K mg base k x sp := ⟨f, fd, ps, F, hm, hk, hb⟩
theorem FnMH.never {P : Program} {w : World} {K : PySem.W.Frag} {mg : Str → Option Value} {base : Heap} {k : Nat} {x : Str} {f : Addr} {fd : FuncData} {ps : List Str} {sp : DSp} (hno : ∀ ds M Q E, ¬ sp ds M Q E) (hm : mg x = some (.ref f)) (hk : PySem.W.keepIn K (.ref f) = true) (hb : Binds K fd ps []) : FnMH P w K mg base k x sp :=
  ⟨f, fd, ps, ⟨fun vs H Q E ⟨ds, M, Q0, E0, _, _, h, _⟩ => (hno _ _ _ _ h).elim, fun A outer s H args us vs Q E p _ _ _ _ _ _ ⟨ds, M, Q0, E0, _, _, h, _⟩ => (hno _ _ _ _ h).elim⟩, hm, hk, hb⟩
section
variable {X : Cx} {W : WX}
theorem op_eqH (G : GdH X W) : OpR X (compareOp .Eq) (rEqN id X.K) := op_eq.or (op_eqD G.hu)
theorem op_neH (G : GdH X W) : OpR X (compareOp .NotEq) (rEqN not X.K) := op_ne.or (op_neD G.hu)
theorem ix_dictH (G : GdH X W) : IxR X (fun x y H Q => ∃ a v, x = .ref a ∧ DGet H a y (some v) ∧ Q v H) := by
  intro value slice pins s σ H x y v u Q I rx ry h hs
  obtain ⟨a, w, rfl, g, q⟩ := h
  cases rx
  have hu1 : X.A.units + 1 < cLine := by have := G.hu; omega
  exact PyProof.Rows.tail_any (dict_typeIs I g) PySem.F.slot_dict_getitem.lookup (d_getItem hu1 I g ry fun w' s3 I3 rw' => ⟨w, H, I3, rw', q⟩) hs
theorem de_ixH {a b : Expr} {ta tb : DTE} {pos : Pos} (G : GdH X W) (ha : DE X W a ta) (hb : DE X W b tb) (hs : PlainIx b := by intro _ _; rfl) : DE X W (.Subscript a b pos) (dOp gIx ta tb) :=
  PE.of (pe_ix ((ix_seq).or (ix_dictH G)) ha hb hs) fun _ _ _ h => lif_op od_ix h
theorem de_callH {k : Nat} {x : Str} {sp : DSp} {q pos : Pos} {e : Expr} {es : List Expr} {tl : DTA} (F : FnMH X.prog X.w X.K X.mg X.base k x sp) (G : GdH X W) (hr : RoomH k X.A) (ha : DA X W (e :: es) tl) (hg : Gl X x := by rfl) (hdb : (x == ("__debug__" : Str)) = false := by decide)
    (he : starEach (e :: es) X.env = (false, eval e X.env) :: starEach es X.env := by rfl) (hpl : (backTo pos (starEach es X.env)).any (·.1) = false := by rfl) : DE X W (.Call (.Name x q) (e :: es) [] pos) (dCall sp tl) := by
  obtain ⟨f, fd, ps, Fk, hm, hk, hb⟩ := F.ex
  exact PE.of (pe_callH Fk hr G.hc hg hm hk hb (E := WE W) (L2N.passAt G.tk) ha hdb he hpl) fun σ H Q ⟨τ, M, Q0, E0, S, h⟩ => S.sub h fun ds M1 vs H1 h1 r1 S1 s1 =>
    ⟨ds, M1, Q0, E0, r1, S1.co, h1, S1.q, S1.e⟩
theorem de_callSh {k : Nat} {x : Str} {sp : DSp} {q pos : Pos} {e : Expr} {es : List Expr} {tl : DTA} {a : Addr} {oe : Obj} {cls : Value} {d : Option Addr} {pn : List (Addr × Obj)} (F : FnMH X.prog X.w X.K X.mg X.base k x sp) (hz : L2N.Zn cls d oe) (hf : ∃ vs, oe.data = .fields vs) (hr : Room k X.A) (ha : DA (X.suite a ((a, oe) :: pn)) (fun _ _ _ _ => False) (e :: es) tl) (hg : Gl X x := by rfl) (hdb : (x == ("__debug__" : Str)) = false := by decide)
    (he : starEach (e :: es) X.env = (false, eval e X.env) :: starEach es X.env := by rfl) (hpl : (backTo pos (starEach es X.env)).any (·.1) = false := by rfl) : DE (X.suite a ((a, oe) :: pn)) (fun _ _ _ _ => False) (.Call (.Name x q) (e :: es) [] pos) (dCall sp tl) := by
  obtain ⟨f, fd, ps, Fk, hm, hk, hb⟩ := F.ex
  obtain ⟨vs, hv⟩ := hf
  have hc : HotC (X.suite a ((a, oe) :: pn)) := ⟨(a, oe), ⟨rfl, vs, hv, hz.2.2 vs hv⟩, List.mem_cons_self⟩
  have hr' : RoomH k (X.suite a ((a, oe) :: pn)).A := ⟨hr.dp, hr.un⟩
  exact PE.of (pe_callH (X := X.suite a ((a, oe) :: pn)) Fk hr' hc hg hm hk hb (E := WE fun _ _ _ _ => False) (L2N.passAt takes_none5N) ha hdb he hpl) fun σ H Q ⟨τ, M, Q0, E0, S, h⟩ => S.sub h fun ds M1 vs H1 h1 r1 S1 s1 =>
    ⟨ds, M1, Q0, E0, r1, S1.co, h1, S1.q, S1.e⟩
abbrev DIH (X : Cx) (W : WX) (tg iter : Expr) (ti : DTI) : Prop := PIH X tg iter (lif X.K W (ItOk X.K) ti)
theorem PIH.of {tg e : Expr} {t t0 : TI} (h : PIH X tg e t0) (k : ∀ σ H R, t σ H R → t0 σ H R) : PIH X tg e t := ⟨fun pins s σ H R I q => h.run pins s σ H R I (k σ H R q)⟩
theorem di_rng1H {tg a : Expr} {tl : DTA} {p pos : Pos} (hm : X.mg "range" = none) (ha : DA X W [a] tl) (hg : Gl X "range" := by rfl) (hs : starEach [a] X.env = [(false, eval a X.env)] := by rfl) : DIH X W tg (.Call (.Name "range" p) [a] [] pos) (diRng1 tl) :=
  PIH.of (pi_range1H hg hm ha hs) fun σ H R ⟨τ, M, Q0, E0, S, h⟩ => S.sub h fun ds M1 vs H1 h1 r1 S1 s1 => by
    match ds, h1 with
    | [.int j], h1 =>
      obtain ⟨v, u, rfl, r2, r3⟩ := r1.uncons
      cases r3.unnil; cases r2
      exact ⟨j, rfl, h1.1, h1.2.1, S1.end_ h1.2.2 (it_rng 0 _)⟩
theorem ds_forH {pos : Pos} {tg iter : Expr} {body : List Stmt} {ti : DTI} {g : DTG} {tb : DTS} (G : GdH X W) (hi : DIH X W tg iter ti) (hg : DG X W tg g) (hb : DSs X W body tb) (hs : ∀ x, foldedSetIterable iter X.env x = pure x := by intro _; rfl) :
    DS X W (.For tg iter body [] pos) (dFor ti g tb) :=
  PS.of (ps_forH G.own G.hc hi hg hb hs) fun D1 σ H ⟨τ, M, D0, S, h⟩ => S.sub h fun ds M1 J H1 h1 r1 S1 s1 => by
    refine ⟨fun i m σ2 H2 => m = ds.length - i ∧ i ≤ ds.length ∧ ∃ τ2 M2, Stp M1 H1 M2 H2 ∧ SitS X.K W τ2 M2 σ2 H2 D0 D1 ∧ wFor g tb D0 (ds.drop i) τ2 M2, ⟨ds.length, rfl, Nat.zero_le _, τ, M1, Stp.refl M1 H1, S1, h1⟩, ?_⟩
    rintro i m σ2 H2 ⟨rfl, hi, τ2, M2, s2, S2, h2⟩
    obtain ⟨k1, k2, k3⟩ := r1 M2 H2 s2 S2.co
    by_cases hlt : i < ds.length
    · have e : ds.drop i = ds[i] :: ds.drop (i + 1) := List.drop_eq_getElem_cons hlt
      rw [e] at h2
      refine .inr ⟨k2 i hlt, fun σ3 H3 => ∃ τ3 M3, Stp M1 H1 M3 H3 ∧ SitS X.K W τ3 M3 σ3 H3 D0 D1 ∧ wFor g tb D0 (ds.drop (i + 1)) τ3 M3, fun σ3 H3 q => ⟨ds.length - (i + 1), by omega, rfl, hlt, q⟩, fun x H3 y => ?_⟩
      obtain ⟨y1, y2, y3⟩ := k3 i ds[i] x H3 (List.getElem?_eq_getElem hlt) y
      have S3 := S2.go (S2.rs.stp y3) y2 y3
      refine ⟨ds[i], τ2, M2, _, D0.ex τ2, y1, ⟨S3.rs, S3.co, fun τ4 M4 σ4 H4 h4 r4 c4 s4 => ?_, fun x M' c d H' h r c' s' => S3.xc x τ2 M' c d σ2 H' h r (S3.rs.stp s') c' s'⟩, h2⟩
      have S4 := S3.go r4 c4 s4
      exact ⟨τ4, M4, { D0 with nx := wFor g tb D0 (ds.drop (i + 1)), ct := wFor g tb D0 (ds.drop (i + 1)), bk := D0.nx }, ⟨S4.rs, S4.co, fun a b c d h r c' s => ⟨a, b, (s2.trans (y3.trans s4)).trans s, S4.go r c' s, h⟩, S4.rt, S4.nx, fun a b c d h r c' s => ⟨a, b, (s2.trans (y3.trans s4)).trans s, S4.go r c' s, h⟩, S4.xc⟩, h4⟩
    · have e : i = ds.length := by omega
      rw [e, List.drop_length] at h2
      exact .inl ⟨k1 i (by omega), S2.next h2⟩
end
end DL
namespace DL
open PySem L2
local macro_rules | `(tactic| walk_at "dl") => `(tactic| try simp (config := { proj := false }) only [↓ex_mk, ↓nx_mk, ↓rt_mk, ↓bk_mk, ↓ct_mk, ↓xc_mk, ↓u_c, ↓u_op, ↓u_un, ↓u_and, ↓u_or, ↓u_not, ↓u_if, ↓u_anil, ↓u_acons, ↓u_lst, ↓u_lstM, ↓u_tup, ↓u_call, ↓u_sl, ↓u_onone, ↓u_cb, ↓u_mt, ↓u_mt0, ↓u_pass, ↓u_seq, ↓u_set, ↓u_asg, ↓u_drop, ↓u_ret, ↓u_retN, ↓u_ifs, ↓u_brk, ↓u_cnt, ↓u_for, ↓u_gname, ↓u_gsub, ↓u_fs, ↓u_fmt, ↓u_js0, ↓u_js, ↓u_em, ↓u_yes, ↓u_never, ↓u_ref, ↓u_forR, ↓u_star, ↓u_dict, ↓u_dict0, ↓u_dp0, ↓u_dp1, ↓u_forK, ↓u_lock, ↓u_kd, ↓u_fld, ↓u_setF, ↓u_make, ↓u_binL, ↓u_binR, ↓u_inO, ↓u_getO, ↓u_setO, ↓u_augO, ↓u_prp, ↓u_inv, ↓u_meth, ↓u_keys, ↓u_try, ↓u_cm, ↓u_makeV, ↓r_enum, ↓r_own, ↓u_raise, ↓u_tryas, ↓u_ca, ↓u_xf, ↓u_idxC, su_mk,
  ↓r_var, ↓r_test, ↓r_andV, ↓r_orV, ↓r_notV, ↓r_tru, ↓r_frz, ↓r_osome, ↓r_any, ↓r_scr, scr_c, ↓r_rng1, ↓r_rng2, ↓r_fz, wipeD,
  onSome_s, onBl_b, onInt_i, onStr_s, onVar_s, onML_l, onML2_l, onML2_d, onDK_d, fmt_s, fmt_i, tru_n, tru_b, tru_i, tru_s, tru_l, tru_t, tru_r, frz_r, sl_s, sl_l, sl_t, sl_r, add_i, add_s, add_l, add_t, add_rl, add_lr, sub_i, mul_i, div_i, mod_i, pow_i, neg_i, cmp_i, eq_i, eq_s, eq_b, eq_n, eq_l, eq_t, eq_rl, eq_lr, eq_ni, eq_in, eq_ns, eq_sn, eq_nb, eq_bn, eq_is, eq_si,
  ix_l, ix_t, ix_s, ix_ri, ix_rs, in_ss, in_l, in_t, in_ir, in_sr, isB_t, isB_f, ltS_s, gtS_s, sorted_l, keyK_s, keyK_i, u_dget, lenOR_r, listOR_r, isn_n, isn_b, isn_i, isn_s, isn_r, isn_l, isn_t, len_s, len_c, len_l, len_t, len_r, int_i, int_b, min_ii, max_ii, list_l, list_t, list_r, list_c, listM_l, listM_c, listM_t, listM_r, isi_, isi_k, ty_n, ty_b, ty_i, ty_s, ty_l, ty_t, it_s, it_l, it_r, itM_l, itM_d, app_r, rev_r, ends_s, ins_r, set_rs, str_i, str_s, ext_l, pop_r, clr_r, star_l, star_t, star_r, onRef_r, onML3_l, onML3_d, onML3_f, onDR_d, onDR_f, onFK_f, join_l, join_t, join_r, starts_s, r_gtup, r_glst, r_gnil, r_gcons, set_r, items_s, items_l, items_t, rng1_i, rng2_i, fz_r, addM_l, addM_rl, onIns_i, onLst_l, isIns_r, isInsM_i, noF_r, noFM_i, rows_r, lenO_r, listO_r, listOM_r, isCK_i, isCK_l, isC_r, isC_s, isC_i, isC_b, isC_n, isC_l, isC_t, putG_0, putG_1, lk_1, onCl_c, onEnum_l, index_l, strO_r, cmpO_r, pop1_r, tuple_l, tuple_t, divmod_i, upper_s, indexT_t, onExc_e, isE_t, isE_c, isE_v, zip_1,
  List.map_cons, List.map_nil, List.cons_append, List.nil_append, List.length_cons, List.length_nil, List.replicate, List.getElem?_cons_zero, List.getElem?_cons_succ, List.set_cons_zero, List.set_cons_succ, id, decide_eq_true_eq, if_true, if_false, Bool.false_eq_true, reduceIte, Bool.not_true, Bool.not_false, true_and, Nat.reduceAdd, Nat.reduceSub, Int.reduceToNat, Int.toNat_natCast, put_same, put_put, atI_0, atI_1, atI_2, atI_3, atI_4, ixN_40, ixN_41, ixN_42, ixN_43])
theorem sum_len : ∀ {l : List Tx}, (l.map fun x => List.length x).sum = l.flatten.length
  | [] => rfl
  | a :: r => by rw [List.map_cons, List.sum_cons, sum_len, List.flatten_cons, List.length_append]
def sp_l_home : DSp := fun ds M Q _ => ∃ (r : Tx) (l : List Tx), ds = [.str (r ++ l.flatten)] ∧ Nm r ∧ Steps l ∧ l.length ≤ 90 ∧ Q (.lst [.str (r ++ (hmL l).flatten), .str (inL l).flatten]) M
def w_l_home_b1 : DTS := dIfS (dTest (dOp gEq (dOp gIx (dOp gIx (dVar 1) (dVar 3)) (dC (.int 0))) (dC (.str [94])))) (dSet 2 (dVar 3)) (dPass)
def w_l_home_c2 : DTS := dRet (dLst (daCons (dMt "str" gJoin (dC (.str [])) (daCons (dSl (dVar 1) (doNone) (doSome (dOp gAdd (dVar 2) (dC (.int 1))))) (daNil))) (daCons (dMt "str" gJoin (dC (.str [])) (daCons (dSl (dVar 1) (doSome (dOp gAdd (dVar 2) (dC (.int 1)))) (doNone)) (daNil))) (daNil))))
def w_l_home : DTS := dSeq (dSet 1 (dCall sp_l_parts (daCons (dVar 0) (daNil)))) (dSeq (dSet 2 (dC (.int 0))) (dSeq (dFor (diRng2 (daCons (dC (.int 1)) (daCons (dCB gLen (daCons (dVar 1) (daNil))) (daNil)))) (dgName 3) (w_l_home_b1)) (w_l_home_c2)))
theorem p_l_home : ∀ ds M Q E, sp_l_home ds M Q E → w_l_home (Ret Q E) (ds.map some ++ List.replicate (4 - 1) none) M := by
  rintro ds M Q E ⟨r, l, rfl, nr, sl, hl, hQ⟩
  have lfl := sl.len
  have lr := nr.2.1
  unfold w_l_home
  walk_at "dl"
  refine ⟨_, rfl, by rw [List.length_append]; omega, ?_⟩
  rw [nd_parts nr sl]
  walk_at "dl"
  simp only [List.length_map]
  refine ⟨by omega, ?_⟩
  refine wFor_by (fun j τ M' => (∃ x3, τ = [some (.str (r ++ l.flatten)), some (.lst (.str r :: l.map D.str)), some (.int ((hmL (l.take j)).length : Nat)), x3]) ∧ M' = M) ⟨⟨_, by rw [List.take_zero]; rfl⟩, rfl⟩ ?_ ?_
  · rintro j d τ M' hd ⟨⟨x3, rfl⟩, rfl⟩ nxt hn
    obtain ⟨rfl, hj⟩ := upTo_at hd
    have hj : j < l.length := by omega
    obtain ⟨t, ht⟩ : ∃ t, l[j]? = some t := ⟨_, List.getElem?_eq_getElem hj⟩
    have ea : atI (D.str r :: l.map D.str) ((1 : Int) + (j : Int)) = some (.str t) := by
      have e : ixN (D.str r :: l.map D.str).length ((1 : Int) + (j : Int)) = some (j + 1) := by
        rw [show (1 : Int) + (j : Int) = ((j + 1 : Nat) : Int) by omega]
        exact ixN_nat (by rw [List.length_cons, List.length_map]; omega)
      unfold atI
      rw [e]
      show (l.map D.str)[j]? = _
      rw [List.getElem?_map, ht]; rfl
    have et : l.take (j + 1) = l.take j ++ [t] := by rw [List.take_succ, ht]; rfl
    have lt9 := (sl t (List.mem_of_getElem? ht)).len
    obtain ⟨c, n, rfl, hc, _⟩ := sl t (List.mem_of_getElem? ht)
    rw [List.length_cons] at lt9
    walk_at "dl"
    unfold w_l_home_b1
    iterate 10 ((try simp only [ea, atI_0]); walk_at "dl")
    by_cases h94 : c = 94
    · subst h94
      rw [if_pos rfl]
      refine ⟨by omega, hn _ _ ⟨⟨some (.int (1 + (j : Int))), ?_⟩, rfl⟩⟩
      have e2 : hmL (l.take (j + 1)) = l.take j ++ [94 :: n] := by rw [et]; exact (hm_hop rfl).1
      rw [e2, List.length_append, List.length_take, List.length_singleton, Nat.min_eq_left (by omega), show ((j + 1 : Nat) : Int) = 1 + (j : Int) by omega]
    · rw [if_neg (by simpa using h94)]
      refine ⟨by omega, hn _ _ ⟨⟨some (.int (1 + (j : Int))), ?_⟩, rfl⟩⟩
      have e2 : hmL (l.take (j + 1)) = hmL (l.take j) := by rw [et]; exact (hm_dot (by unfold isHop; simpa using h94)).1
      rw [e2]
  · rintro τ M' ⟨⟨x3, rfl⟩, rfl⟩
    unfold w_l_home_c2
    walk_at "dl"
    rw [upTo_len, show (((l.length + 1 : Nat) : Int) - 1).toNat = l.length by omega, List.take_length]
    have d := hm_in l
    have sh : Steps (hmL l) := fun t ht => sl t (by rw [← d]; exact List.mem_append_left _ ht)
    have si : Steps (inL l) := fun t ht => sl t (by rw [← d]; exact List.mem_append_right _ ht)
    have s1 := sh.len
    have s2 := si.len
    have ld := congrArg List.length d
    rw [List.length_append] at ld
    have e1 : (hmL l ++ inL l).take (hmL l).length = hmL l := List.take_left
    have e2 : (hmL l ++ inL l).drop (hmL l).length = inL l := List.drop_left
    rw [d] at e1 e2
    rw [show ((hmL l).length : Int) + 1 = (((hmL l).length + 1 : Nat) : Int) by omega, cut_upto, cut_nat, List.take_succ_cons, List.drop_succ_cons, ← List.map_take, ← List.map_drop]
    refine ⟨r :: hmL l, by rw [List.map_cons, e1], ?_, inL l, by rw [e2], ?_, by decide, ?_⟩
    · rw [sum_len, List.flatten_cons, List.length_append]; omega
    · rw [sum_len]; omega
    · rw [join0, join0, List.flatten_cons]
      exact hQ
end DL
namespace DL
open PySem L2
local macro_rules | `(tactic| walk_at "dl") => `(tactic| try simp (config := { proj := false }) only [↓ex_mk, ↓nx_mk, ↓rt_mk, ↓bk_mk, ↓ct_mk, ↓xc_mk, ↓u_c, ↓u_op, ↓u_un, ↓u_and, ↓u_or, ↓u_not, ↓u_if, ↓u_anil, ↓u_acons, ↓u_lst, ↓u_lstM, ↓u_tup, ↓u_call, ↓u_sl, ↓u_onone, ↓u_cb, ↓u_mt, ↓u_mt0, ↓u_pass, ↓u_seq, ↓u_set, ↓u_asg, ↓u_drop, ↓u_ret, ↓u_retN, ↓u_ifs, ↓u_brk, ↓u_cnt, ↓u_for, ↓u_gname, ↓u_gsub, ↓u_fs, ↓u_fmt, ↓u_js0, ↓u_js, ↓u_em, ↓u_yes, ↓u_never, ↓u_ref, ↓u_forR, ↓u_star, ↓u_dict, ↓u_dict0, ↓u_dp0, ↓u_dp1, ↓u_forK, ↓u_lock, ↓u_kd, ↓u_fld, ↓u_setF, ↓u_make, ↓u_binL, ↓u_binR, ↓u_inO, ↓u_getO, ↓u_setO, ↓u_augO, ↓u_prp, ↓u_inv, ↓u_meth, ↓u_keys, ↓u_try, ↓u_cm, ↓u_makeV, ↓r_enum, ↓r_own, ↓u_raise, ↓u_tryas, ↓u_ca, ↓u_xf, ↓u_idxC, su_mk,
  ↓r_var, ↓r_test, ↓r_andV, ↓r_orV, ↓r_notV, ↓r_tru, ↓r_frz, ↓r_osome, ↓r_any, ↓r_scr, scr_c, ↓r_rng1, ↓r_rng2, ↓r_fz, wipeD,
  onSome_s, onBl_b, onInt_i, onStr_s, onVar_s, onML_l, onML2_l, onML2_d, onDK_d, fmt_s, fmt_i, tru_n, tru_b, tru_i, tru_s, tru_l, tru_t, tru_r, frz_r, sl_s, sl_l, sl_t, sl_r, add_i, add_s, add_l, add_t, add_rl, add_lr, sub_i, mul_i, div_i, mod_i, pow_i, neg_i, cmp_i, eq_i, eq_s, eq_b, eq_n, eq_l, eq_t, eq_rl, eq_lr, eq_ni, eq_in, eq_ns, eq_sn, eq_nb, eq_bn, eq_is, eq_si,
  ix_l, ix_t, ix_s, ix_ri, ix_rs, in_ss, in_l, in_t, in_ir, in_sr, isB_t, isB_f, ltS_s, gtS_s, sorted_l, keyK_s, keyK_i, u_dget, lenOR_r, listOR_r, isn_n, isn_b, isn_i, isn_s, isn_r, isn_l, isn_t, len_s, len_c, len_l, len_t, len_r, int_i, int_b, min_ii, max_ii, list_l, list_t, list_r, list_c, listM_l, listM_c, listM_t, listM_r, isi_, isi_k, ty_n, ty_b, ty_i, ty_s, ty_l, ty_t, it_s, it_l, it_r, itM_l, itM_d, app_r, rev_r, ends_s, ins_r, set_rs, str_i, str_s, ext_l, pop_r, clr_r, star_l, star_t, star_r, onRef_r, onML3_l, onML3_d, onML3_f, onDR_d, onDR_f, onFK_f, join_l, join_t, join_r, starts_s, r_gtup, r_glst, r_gnil, r_gcons, set_r, items_s, items_l, items_t, rng1_i, rng2_i, fz_r, addM_l, addM_rl, onIns_i, onLst_l, isIns_r, isInsM_i, noF_r, noFM_i, rows_r, lenO_r, listO_r, listOM_r, isCK_i, isCK_l, isC_r, isC_s, isC_i, isC_b, isC_n, isC_l, isC_t, putG_0, putG_1, lk_1, onCl_c, onEnum_l, index_l, strO_r, cmpO_r, pop1_r, tuple_l, tuple_t, divmod_i, upper_s, indexT_t, onExc_e, isE_t, isE_c, isE_v, zip_1,
  List.map_cons, List.map_nil, List.cons_append, List.nil_append, List.length_cons, List.length_nil, List.replicate, List.getElem?_cons_zero, List.getElem?_cons_succ, List.set_cons_zero, List.set_cons_succ, id, decide_eq_true_eq, if_true, if_false, Bool.false_eq_true, reduceIte, Bool.not_true, Bool.not_false, true_and, Nat.reduceAdd, Nat.reduceSub, Int.reduceToNat, Int.toNat_natCast, put_same, put_put, atI_0, atI_1, atI_2, atI_3, atI_4, ixN_40, ixN_41, ixN_42, ixN_43])
theorem xt_src {p : Addr} {M M' : Mu} (x : Xt M M') (h : Src M p) : Src M' p := by
  obtain ⟨ns, t, r, d, e, z⟩ := h
  exact ⟨ns, t, r, d, x p _ e, z⟩
def sp_l_numbers : DSp := fun ds M Q _ => ∃ p ts m, ds = [.ref p, .lst (txs ts), .int m] ∧ Src M p ∧ 0 < ts.length ∧ ts.length ≤ 100 ∧ (∀ t ∈ ts, Nd 6 t) ∧ 0 ≤ m ∧ m ≤ 100 ∧ ∀ (ps : List (Tx × Int)) M', (ps.length : Int) ≤ m → (∀ q ∈ ps, Nd 6 q.1) → SrcTo p M M' → Q (.lst (ps.map pD)) M'
def w_l_numbers_b1 : DTS := dSeq (dSet 5 (dCall sp_l_near (daCons (dVar 0) (daCons (dCall sp_l_pick (daCons (dVar 0) (daCons (dVar 1) (daNil)))) (daNil))))) (dDrop (dMt "list" gAppend (dVar 3) (daCons (dTup (daCons (dVar 5) (daCons (dOp gMod (dCB gInt1 (daCons (dCall sp_l_draw (daCons (dVar 0) (daCons (dC (.int 1000000000)) (daNil)))) (daNil))) (dC (.int 1000000000))) (daNil)))) (daNil))))
def w_l_numbers : DTS := dSeq (dSet 3 (dLstM (daNil))) (dSeq (dFor (diRng1 (daCons (dCall sp_l_draw (daCons (dVar 0) (daCons (dOp gAdd (dVar 2) (dC (.int 1))) (daNil)))) (daNil))) (dgName 4) (w_l_numbers_b1)) (dRet (dFrz (dVar 3))))
theorem p_l_numbers : ∀ ds M Q E, sp_l_numbers ds M Q E → w_l_numbers (Ret Q E) (ds.map some ++ List.replicate (6 - 3) none) M := by
  rintro ds M Q E ⟨p, ts, m, rfl, hs, l0, l1, hts, m0, m1, hQ⟩
  unfold w_l_numbers
  walk_at "dl"
  refine ⟨by decide, fun q hq => ?_⟩
  have nq : q ≠ p := fun z => by
    obtain ⟨ns, t, r, d, e, _⟩ := hs
    rw [← z, hq] at e
    cases e
  have hs1 := (src_other (m := .lst []) hs hq).1
  refine draw_ hs1 (by omega) (by omega) fun k M1 k0 k1 s1 => ?_
  walk_at "dl"
  refine ⟨by omega, by omega, ?_⟩
  refine wFor_by (fun i τ M' => (∃ x4 x5, τ = [some (.ref p), some (.lst (txs ts)), some (.int m), some (.ref q), x4, x5]) ∧ Src M' p ∧ (∀ b, b ≠ p → b ≠ q → M' b = M b) ∧ ∃ ps : List (Tx × Int), M' q = some (.lst (ps.map pD)) ∧ ps.length ≤ i ∧ ∀ y ∈ ps, Nd 6 y.1) ⟨⟨_, _, rfl⟩, s1.1, fun b h1 h2 => by rw [s1.2 b h1, put_ne h2], [], by rw [s1.2 q nq, put_same]; rfl, Nat.le_refl _, fun y hy => nomatch hy⟩ ?_ ?_
  · rintro i d τ M' hd ⟨⟨x4, x5, rfl⟩, hs', hb, ps, hp, hl, hn⟩ nxt hnx
    obtain ⟨rfl, hi⟩ := upTo_at hd
    have hi2 : (i : Int) < k := by omega
    unfold w_l_numbers_b1
    walk_at "dl"
    refine pick_ hs' (row := .lst (txs ts)) rfl (by rw [txs, List.length_map]; exact l0) (by rw [txs, List.length_map]; omega) fun d M2 hd2 s2 => ?_
    obtain ⟨t, ht, rfl⟩ := List.mem_map.mp hd2
    have h2 : M2 q = some (.lst (ps.map pD)) := by rw [s2.2 q nq]; exact hp
    walk_at "dl"
    refine ⟨p, t, 6, rfl, hts t ht, by decide, by decide, s2.1, fun y M3 ny s3 => ?_⟩
    have h3 : M3 q = some (.lst (ps.map pD)) := by rw [s3.2 q nq]; exact h2
    iterate 10 ((try simp only [h3]); walk_at "dl")
    refine draw_ s3.1 (by decide) (by decide) fun n M4 n0 n1 s4 => ?_
    have h4 : M4 q = some (.lst (ps.map pD)) := by rw [s4.2 q nq]; exact h3
    iterate 10 ((try simp only [h4]); walk_at "dl")
    simp only [List.length_map]
    refine ⟨by decide, by first | omega | decide, by first | omega | decide, hnx _ _ ⟨⟨_, _, rfl⟩, ?_, fun b h1 h2 => by rw [put_ne h2, s4.2 b h1, s3.2 b h1, s2.2 b h1, hb b h1 h2], ps ++ [(y, n % 1000000000)], ?_, by rw [List.length_append]; exact Nat.succ_le_succ hl, fun z hz => ?_⟩⟩
    · obtain ⟨ns, t, r, d, e, z⟩ := s4.1
      exact ⟨ns, t, r, d, by rw [put_ne (Ne.symm nq)]; exact e, z⟩
    · rw [put_same, List.map_append]; rfl
    · rcases List.mem_append.mp hz with hz | hz
      · exact hn z hz
      · rw [List.mem_singleton.mp hz]; exact ny
  · rintro τ M' ⟨⟨x4, x5, rfl⟩, hs', hb, ps, hp, hl, hn⟩
    iterate 10 ((try simp only [hp]); walk_at "dl")
    rw [upTo_len] at hl
    refine hQ ps _ (by omega) hn ⟨?_, fun b h1 => ?_⟩
    · obtain ⟨ns, t, r, d, e, z⟩ := hs'
      exact ⟨ns, t, r, d, by rw [del_ne (Ne.symm nq)]; exact e, z⟩
    · by_cases h2 : b = q
      · rw [h2, del_same, hq]
      · rw [del_ne h2, hb b h1 h2]
def sp_l_places : DSp := fun ds M Q _ => ∃ p m, ds = [.ref p, .int m] ∧ Src M p ∧ 0 < m ∧ m ≤ 100 ∧ ∀ (ts : List Tx) q M', (ts.length : Int) = m → (∀ t ∈ ts, Nd 6 t) → M q = none → q ≠ p → M' q = some (.lst (txs ts)) → Src M' p → (∀ b, b ≠ p → b ≠ q → M' b = M b) → Q (.ref q) M'
def w_l_places_b1 : DTS := dDrop (dMt "list" gAppend (dVar 2) (daCons (dCall sp_l_near (daCons (dVar 0) (daCons (dCall sp_l_pick (daCons (dVar 0) (daCons (dVar 2) (daNil)))) (daNil)))) (daNil)))
def w_l_places : DTS := dSeq (dSet 2 (dLstM (daCons (dCall sp_l_place (daCons (dVar 0) (daNil))) (daNil)))) (dSeq (dFor (diRng1 (daCons (dOp gSub (dVar 1) (dC (.int 1))) (daNil))) (dgName 3) (w_l_places_b1)) (dRet (dVar 2)))
theorem p_l_places : ∀ ds M Q E, sp_l_places ds M Q E → w_l_places (Ret Q E) (ds.map some ++ List.replicate (4 - 2) none) M := by
  rintro ds M Q E ⟨p, m, rfl, hs, m0, m1, hQ⟩
  unfold w_l_places
  walk_at "dl"
  refine ⟨p, rfl, hs, fun x M1 nx s1 => ?_⟩
  walk_at "dl"
  refine ⟨by decide, fun q hq => ?_⟩
  have nq : q ≠ p := fun z => by
    obtain ⟨ns, t, r, d, e, _⟩ := s1.1
    rw [← z, hq] at e
    cases e
  have hq0 : M q = none := by rw [← s1.2 q nq]; exact hq
  have hs1 := (src_other (m := .lst [.str x]) s1.1 hq).1
  refine ⟨by omega, by omega, ?_⟩
  refine wFor_by (fun i τ M' => (∃ x3, τ = [some (.ref p), some (.int m), some (.ref q), x3]) ∧ Src M' p ∧ (∀ b, b ≠ p → b ≠ q → M' b = M b) ∧ ∃ ts : List Tx, M' q = some (.lst (txs ts)) ∧ ts.length = i + 1 ∧ ∀ t ∈ ts, Nd 6 t) ⟨⟨_, rfl⟩, hs1, fun b h1 h2 => by rw [put_ne h2, s1.2 b h1], [x], by rw [put_same]; rfl, rfl, fun t ht => by rw [List.mem_singleton.mp ht]; exact nx⟩ ?_ ?_
  · rintro i d τ M' hd ⟨⟨x3, rfl⟩, hs', hb, ts, hp, hl, hts⟩ nxt hn
    obtain ⟨rfl, hi⟩ := upTo_at hd
    have hi2 : (i : Int) < m - 1 := by omega
    unfold w_l_places_b1
    iterate 10 ((try simp only [hp]); walk_at "dl")
    refine ⟨p, .ref q, txs ts, rfl, rowI_ref nq hp, by rw [txs, List.length_map]; omega, by rw [txs, List.length_map]; omega, hs', fun d M2 hd2 s2 => ?_⟩
    obtain ⟨t, ht, rfl⟩ := List.mem_map.mp hd2
    have h2 : M2 q = some (.lst (txs ts)) := by rw [s2.2 q nq]; exact hp
    walk_at "dl"
    refine ⟨p, t, 6, rfl, hts t ht, by decide, by decide, s2.1, fun y M3 ny s3 => ?_⟩
    have h3 : M3 q = some (.lst (txs ts)) := by rw [s3.2 q nq]; exact h2
    iterate 10 ((try simp only [h3]); walk_at "dl")
    refine ⟨by rw [txs, List.length_map]; omega, hn _ _ ⟨⟨_, rfl⟩, ?_, fun b h1 h2 => by rw [put_ne h2, s3.2 b h1, s2.2 b h1, hb b h1 h2], ts ++ [y], ?_, by rw [List.length_append, hl]; rfl, fun u hu => ?_⟩⟩
    · obtain ⟨ns, t, r, d, e, z⟩ := s3.1
      exact ⟨ns, t, r, d, by rw [put_ne (Ne.symm nq)]; exact e, z⟩
    · rw [put_same, txs_app]; rfl
    · rcases List.mem_append.mp hu with hu | hu
      · exact hts u hu
      · rw [List.mem_singleton.mp hu]; exact ny
  · rintro τ M' ⟨⟨x3, rfl⟩, hs', hb, ts, hp, hl, hts⟩
    iterate 10 ((try simp only [hp]); walk_at "dl")
    rw [upTo_len] at hl
    exact hQ ts q _ (by omega) hts hq0 nq hp hs' hb
end DL
namespace DL
open PySem L2
def ovr (p X : Tx) : Bool := decide (relL p X = T "overbox")
end DL
namespace DL
open PySem L2
theorem partsF_v {t : List Tx} (h : VNode t) : partsF t.flatten = t := by
  obtain ⟨r, l, rfl, hr, hl⟩ := h
  rw [List.flatten_cons]
  exact nd_parts hr hl
theorem head_hop (s : Tx) : headC s = isHop s := by
  unfold headC isHop
  cases s with
  | nil => rfl
  | cons c r => rfl
theorem T_rels : T "over" ++ T "box" = T "overbox" ∧ T "over" ≠ T "overbox" ∧ T "under" ≠ T "overbox" ∧ T "under" ++ T "box" ≠ T "overbox" ∧ T "apart" ≠ T "overbox" ∧ T "same" ≠ T "overbox" := by decide +kernel
theorem ovr_iff {t u : List Tx} (ht : VNode t) (hu : VNode u) : ovr t.flatten u.flatten = true ↔ ∃ V, t = u ++ V ∧ V.any isHop = true := by
  obtain ⟨w1, w2, w3, w4, w5, w6⟩ := T_rels
  unfold ovr
  rw [decide_eq_true_iff]
  unfold relL
  rw [partsF_v ht, partsF_v hu]
  have ea : ∀ V : List Tx, V.any headC = V.any isHop := fun V => by congr 1; funext s; exact head_hop s
  by_cases e : t = u
  · rw [if_pos e]
    refine ⟨fun z => absurd z w6, fun ⟨V, h1, h2⟩ => ?_⟩
    have := congrArg List.length h1
    rw [e, List.length_append] at this
    have : V = [] := List.length_eq_zero_iff.mp (by omega)
    rw [this] at h2
    cases h2
  · rw [if_neg e]
    by_cases l : u.length < t.length
    · rw [if_pos l]
      unfold relW
      rw [Nat.min_eq_right (Nat.le_of_lt l)]
      have e2 : u.take u.length = u := List.take_length
      rw [e2]
      have hr : t.drop u.length ≠ [] := fun z => by
        have := congrArg List.length z
        rw [List.length_drop] at this
        simp at this
        omega
      by_cases hp : t.take u.length = u
      · rw [if_neg (by rintro (z | z); exact z hp; exact hr z), ea]
        have et : t = u ++ t.drop u.length := by
          conv => lhs; rw [← List.take_append_drop u.length t, hp]
        by_cases ha : (t.drop u.length).any isHop = true
        · rw [if_pos ha]
          exact ⟨fun _ => ⟨_, et, ha⟩, fun _ => w1⟩
        · rw [if_neg ha]
          refine ⟨fun z => absurd z w2, fun ⟨V, h1, h2⟩ => ?_⟩
          have : t.drop u.length = V := by rw [h1, List.drop_left]
          rw [this] at ha
          exact absurd h2 ha
      · rw [if_pos (.inl hp)]
        refine ⟨fun z => absurd z w5, fun ⟨V, h1, h2⟩ => ?_⟩
        exact absurd (by rw [h1, List.take_left]) hp
    · rw [if_neg l]
      refine ⟨fun z => ?_, fun ⟨V, h1, h2⟩ => ?_⟩
      · unfold relW at z
        split at z
        · exact absurd z w5
        · split at z
          · exact absurd z w4
          · exact absurd z w3
      · have := congrArg List.length h1
        rw [List.length_append] at this
        have : V = [] := List.length_eq_zero_iff.mp (by omega)
        rw [this] at h2
        cases h2
theorem hm_any {H U V : List Tx} (hH : HmT H) (hU : VNode U) (e : H = U ++ V) (hV : V ≠ []) : V.any isHop = true := by
  obtain ⟨r, l, rfl, hl⟩ := hH
  obtain ⟨r2, l2, rfl, _, _⟩ := hU
  rw [List.cons_append] at e
  injection e with e1 e2
  cases h : V.any isHop with
  | true => rfl
  | false =>
    have nh : ∀ u ∈ V, isHop u = false := fun u hu => by
      cases g : isHop u with
      | false => rfl
      | true => rw [List.any_eq_true.mpr ⟨u, hu, g⟩] at h; cases h
    have q := hmL_dots (l := l2) nh
    rw [← e2, hl] at q
    have l1 := congrArg List.length e2
    have l3 := congrArg List.length q
    rw [List.length_append] at l1
    have l4 : (hmL l2).length ≤ l2.length := by
      have := congrArg List.length (hm_in l2)
      rw [List.length_append] at this
      omega
    have : V = [] := List.length_eq_zero_iff.mp (by omega)
    exact absurd this hV
theorem ovr_home {H L U : List Tx} (hH : HmT H) (vH : VNode H) (hL : Steps L) (hd : Nohop L) (hU : VNode U) : ovr (H ++ L).flatten U.flatten = true ↔ ∃ V, V ≠ [] ∧ H = U ++ V := by
  rw [ovr_iff (vH.app hL) hU]
  constructor
  · rintro ⟨V, h1, h2⟩
    rcases List.append_eq_append_iff.mp h1 with ⟨W, e1, e2⟩ | ⟨W, e1, e2⟩
    · exfalso
      obtain ⟨s, hs, hp⟩ := List.any_eq_true.mp h2
      have := hd s (by rw [e2]; exact List.mem_append_right _ hs)
      rw [this] at hp
      cases hp
    · refine ⟨W, fun z => ?_, e1⟩
      rw [z, List.nil_append] at e2
      obtain ⟨s, hs, hp⟩ := List.any_eq_true.mp h2
      rw [e2] at hs
      rw [hd s hs] at hp
      cases hp
  · rintro ⟨V, h1, h2⟩
    refine ⟨V ++ L, by rw [h2, List.append_assoc], ?_⟩
    rw [List.any_append, hm_any hH hU h2 h1]
    rfl
abbrev GG := Nat → List Tx → Nat → Prop
structure GOk (G : GG) (h : Nat → Option (List Tx)) (k : Nat) (pks : List Tx) : Prop where
  pk : ∀ X ∈ pks, ∃ U, VNode U ∧ X = U.flatten
  al : ∀ b H j, G b H j → 1 ≤ b ∧ b ≤ k ∧ j ≤ pks.length ∧ VNode H ∧ HmT H ∧ h b = if (pks.drop j).any (ovr H.flatten) = true then none else some H
def GLe (G G' : GG) : Prop := ∀ b H j, G b H j → G' b H j
theorem GLe.refl (G : GG) : GLe G G := fun _ _ _ h => h
theorem GLe.trans {a b c : GG} (h : GLe a b) (k : GLe b c) : GLe a c := fun x y z w => k _ _ _ (h x y z w)
def addG (G : GG) (b : Nat) (H : List Tx) (j : Nat) : GG := fun b' H' j' => G b' H' j' ∨ (b' = b ∧ H' = H ∧ j' = j)
section
variable {G : GG} {h h' h1 : Nat → Option (List Tx)} {k k' k1 : Nat} {pks : List Tx}
theorem GOk.add (x : GOk G h k pks) {b : Nat} {H : List Tx} (e : h b = some H) (b1 : 1 ≤ b) (bk : b ≤ k) (vH : VNode H) (hH : HmT H) : GOk (addG G b H pks.length) h k pks := ⟨x.pk, fun b' H' j' g => by
  rcases g with g | ⟨rfl, rfl, rfl⟩
  · exact x.al _ _ _ g
  · refine ⟨b1, bk, Nat.le_refl _, vH, hH, ?_⟩
    rw [List.drop_length, e]
    rfl⟩
theorem GOk.grow (x : GOk G h k pks) (g : GrowH h h' k k') : GOk G h' k' pks := ⟨x.pk, fun b H j gb => by
  obtain ⟨a1, a2, a3, a4, a5, a6⟩ := x.al _ _ _ gb
  refine ⟨a1, Nat.le_trans a2 g.le, a3, a4, a5, ?_⟩
  split
  · rename_i z
    rw [if_pos z] at a6
    cases e : h' b with
    | none => rfl
    | some t =>
      rcases g.nw b t e with e2 | l
      · rw [a6] at e2; cases e2
      · omega
  · rename_i z
    rw [if_neg z] at a6
    exact g.up _ _ a6⟩
theorem GOk.pack (x : GOk G h k pks) {X : List Tx} (vX : VNode X) (p : PackH X h h' k) (l : k ≤ k') : GOk G h' k' (pks ++ [X.flatten]) := ⟨fun Y hY => (List.mem_append.mp hY).elim (x.pk Y) fun z => ⟨X, vX, List.mem_singleton.mp z⟩, fun b H j gb => by
  obtain ⟨a1, a2, a3, a4, a5, a6⟩ := x.al _ _ _ gb
  refine ⟨a1, Nat.le_trans a2 l, by rw [List.length_append]; omega, a4, a5, ?_⟩
  have e0 := ovr_home a5 a4 Steps.nil (fun u hu => nomatch hu) vX
  rw [List.append_nil] at e0
  rw [List.drop_append_of_le_length a3, List.any_append]
  cases z : (pks.drop j).any (ovr H.flatten) with
  | true =>
    rw [z, if_pos rfl] at a6
    rw [Bool.true_or, if_pos rfl]
    cases e : h' b with
    | none => rfl
    | some t =>
      rcases p.new b t e with e2 | l2
      · rw [a6] at e2; cases e2
      · omega
  | false =>
    rw [z, if_neg (by decide)] at a6
    rw [Bool.false_or, List.any_cons, List.any_nil, Bool.or_false]
    cases o : ovr H.flatten X.flatten with
    | true =>
      obtain ⟨V, v1, v2⟩ := e0.mp o
      rw [if_pos rfl]
      cases e : h' b with
      | none => rfl
      | some t =>
        rcases p.new b t e with e2 | l2
        · rw [a6] at e2
          injection e2 with e2
          have := p.mv b V v1 (by rw [e, ← e2, v2])
          omega
        · omega
    | false =>
      rw [if_neg (by decide)]
      rcases p.old b H a6 with e | ⟨V, v1, v2⟩
      · exact e
      · rw [e0.mpr ⟨V, v1, v2⟩] at o
        cases o⟩
theorem GOk.at_ (x : GOk G h k pks) {b j : Nat} {H L : List Tx} (g : G b H j) (hL : Steps L) (hd : Nohop L) : h b = if (pks.drop j).any (ovr (H ++ L).flatten) = true then none else some H := by
  obtain ⟨a1, a2, a3, a4, a5, a6⟩ := x.al _ _ _ g
  rw [a6]
  have e : ∀ X ∈ pks.drop j, ovr H.flatten X = ovr (H ++ L).flatten X := fun X hX => by
    obtain ⟨U, vU, rfl⟩ := x.pk X (List.mem_of_mem_drop hX)
    have e1 := ovr_home a5 a4 Steps.nil (fun u hu => nomatch hu) vU
    have e2 := ovr_home a5 a4 hL hd vU
    rw [List.append_nil] at e1
    cases o1 : ovr H.flatten U.flatten <;> cases o2 : ovr (H ++ L).flatten U.flatten
    · rfl
    · rw [e1.mpr (e2.mp o2)] at o1; cases o1
    · rw [e2.mpr (e1.mp o1)] at o2; cases o2
    · rfl
  have : (pks.drop j).any (ovr H.flatten) = (pks.drop j).any (ovr (H ++ L).flatten) := by
    rw [Bool.eq_iff_iff, List.any_eq_true, List.any_eq_true]
    exact ⟨fun ⟨X, m, o⟩ => ⟨X, m, by rw [← e X m]; exact o⟩, fun ⟨X, m, o⟩ => ⟨X, m, by rw [e X m]; exact o⟩⟩
  rw [this]
end
end DL
namespace DL
open PySem L2
local macro_rules | `(tactic| walk_at "dl") => `(tactic| try simp (config := { proj := false }) only [↓ex_mk, ↓nx_mk, ↓rt_mk, ↓bk_mk, ↓ct_mk, ↓xc_mk, ↓u_c, ↓u_op, ↓u_un, ↓u_and, ↓u_or, ↓u_not, ↓u_if, ↓u_anil, ↓u_acons, ↓u_lst, ↓u_lstM, ↓u_tup, ↓u_call, ↓u_sl, ↓u_onone, ↓u_cb, ↓u_mt, ↓u_mt0, ↓u_pass, ↓u_seq, ↓u_set, ↓u_asg, ↓u_drop, ↓u_ret, ↓u_retN, ↓u_ifs, ↓u_brk, ↓u_cnt, ↓u_for, ↓u_gname, ↓u_gsub, ↓u_fs, ↓u_fmt, ↓u_js0, ↓u_js, ↓u_em, ↓u_yes, ↓u_never, ↓u_ref, ↓u_forR, ↓u_star, ↓u_dict, ↓u_dict0, ↓u_dp0, ↓u_dp1, ↓u_forK, ↓u_lock, ↓u_kd, ↓u_fld, ↓u_setF, ↓u_make, ↓u_binL, ↓u_binR, ↓u_inO, ↓u_getO, ↓u_setO, ↓u_augO, ↓u_prp, ↓u_inv, ↓u_meth, ↓u_keys, ↓u_try, ↓u_cm, ↓u_makeV, ↓r_enum, ↓r_own, ↓u_raise, ↓u_tryas, ↓u_ca, ↓u_xf, ↓u_idxC, su_mk,
  ↓r_var, ↓r_test, ↓r_andV, ↓r_orV, ↓r_notV, ↓r_tru, ↓r_frz, ↓r_osome, ↓r_any, ↓r_scr, scr_c, ↓r_rng1, ↓r_rng2, ↓r_fz, wipeD,
  onSome_s, onBl_b, onInt_i, onStr_s, onVar_s, onML_l, onML2_l, onML2_d, onDK_d, fmt_s, fmt_i, tru_n, tru_b, tru_i, tru_s, tru_l, tru_t, tru_r, frz_r, sl_s, sl_l, sl_t, sl_r, add_i, add_s, add_l, add_t, add_rl, add_lr, sub_i, mul_i, div_i, mod_i, pow_i, neg_i, cmp_i, eq_i, eq_s, eq_b, eq_n, eq_l, eq_t, eq_rl, eq_lr, eq_ni, eq_in, eq_ns, eq_sn, eq_nb, eq_bn, eq_is, eq_si,
  ix_l, ix_t, ix_s, ix_ri, ix_rs, in_ss, in_l, in_t, in_ir, in_sr, isB_t, isB_f, ltS_s, gtS_s, sorted_l, keyK_s, keyK_i, u_dget, lenOR_r, listOR_r, isn_n, isn_b, isn_i, isn_s, isn_r, isn_l, isn_t, len_s, len_c, len_l, len_t, len_r, int_i, int_b, min_ii, max_ii, list_l, list_t, list_r, list_c, listM_l, listM_c, listM_t, listM_r, isi_, isi_k, ty_n, ty_b, ty_i, ty_s, ty_l, ty_t, it_s, it_l, it_r, itM_l, itM_d, app_r, rev_r, ends_s, ins_r, set_rs, str_i, str_s, ext_l, pop_r, clr_r, star_l, star_t, star_r, onRef_r, onML3_l, onML3_d, onML3_f, onDR_d, onDR_f, onFK_f, join_l, join_t, join_r, starts_s, r_gtup, r_glst, r_gnil, r_gcons, set_r, items_s, items_l, items_t, rng1_i, rng2_i, fz_r, addM_l, addM_rl, onIns_i, onLst_l, isIns_r, isInsM_i, noF_r, noFM_i, rows_r, lenO_r, listO_r, listOM_r, isCK_i, isCK_l, isC_r, isC_s, isC_i, isC_b, isC_n, isC_l, isC_t, putG_0, putG_1, lk_1, onCl_c, onEnum_l, index_l, strO_r, cmpO_r, pop1_r, tuple_l, tuple_t, divmod_i, upper_s, indexT_t, onExc_e, isE_t, isE_c, isE_v, zip_1,
  List.map_cons, List.map_nil, List.cons_append, List.nil_append, List.length_cons, List.length_nil, List.replicate, List.getElem?_cons_zero, List.getElem?_cons_succ, List.set_cons_zero, List.set_cons_succ, id, decide_eq_true_eq, if_true, if_false, Bool.false_eq_true, reduceIte, Bool.not_true, Bool.not_false, true_and, Nat.reduceAdd, Nat.reduceSub, Int.reduceToNat, Int.toNat_natCast, put_same, put_put, atI_0, atI_1, atI_2, atI_3, atI_4, ixN_40, ixN_41, ixN_42, ixN_43])
def sp_l_refused : DSp := fun ds M Q _ => ∃ (A : MAd) (b : Int) (i w s : Tx), ds = [.ref A.m, .str w, .tup [.int b, .str i], .str s] ∧ w ∈ [T "number", T "set", T "part", T "pack"] ∧ StlX M A b i ∧ Q (.bl true) M
def w_l_refused_t1 : DTS := dIfS (dTest (dOp gEq (dVar 1) (dC (.str (T "number"))))) (dDrop (dMeth "Memory" "number" sp_Memory_number (dVar 0) (daCons (dVar 2) (daCons (dVar 3) (daNil))))) (dIfS (dTest (dOp gEq (dVar 1) (dC (.str (T "set"))))) (dDrop (dMeth "Memory" "set_number" sp_Memory_set_number (dVar 0) (daCons (dVar 2) (daCons (dVar 3) (daCons (dC (.int 5)) (daNil)))))) (dIfS (dTest (dOp gEq (dVar 1) (dC (.str (T "part"))))) (dDrop (dMeth "Memory" "part" sp_Memory_part (dVar 0) (daCons (dVar 2) (daNil)))) (dDrop (dMeth "Memory" "pack" sp_Memory_pack (dVar 0) (daCons (dVar 2) (daCons (dVar 3) (daNil)))))))
def w_l_refused_x2 (a dd : Addr) (C : Str) : DTS := dRet (dAndV (dCB (gIsE a dd C ["Stale", "LentError"]) (daCons (dVar 4) (daCons (dC (.cl "Stale")) (daNil)))) (dAndV (dCB (gIsE a dd C ["Stale", "LentError"]) (daCons (dVar 4) (daCons (dC (.ty "ValueError")) (daNil)))) (dCall (sp_l_same 8) (daCons (dXF a dd C "address" (dVar 4)) (daCons (dVar 2) (daNil))))))
def w_l_refused : DTS := dSeq (dTryAs ["Stale"] 4 (w_l_refused_t1) w_l_refused_x2) (dRet (dC (.bl false)))
theorem p_l_refused : ∀ ds M Q E, sp_l_refused ds M Q E → w_l_refused (Ret Q E) (ds.map some ++ List.replicate (5 - 4) none) M := by
  rintro ds M Q E ⟨A, b, i, w, s, rfl, hw, st, hQ⟩
  have su : ∀ {τ : DSt} {D0 : DEnds}, τ = [some (.ref A.m), some (.str w), some (.tup [.int b, .str i]), some (.str s), none] → D0.rt = Q → caE ["Stale"] 4 w_l_refused_x2 D0 ⟨"Stale", [("address", .tup [.int b, .str i])]⟩ τ M := by
    rintro τ D0 rfl hD
    refine ⟨List.mem_singleton.mpr rfl, by simp, fun a dd ha => ?_⟩
    unfold w_l_refused_x2 suE
    rw [hD]
    walk_at "dl"
    refine ⟨by decide, ?_⟩
    dsimp only
    rw [if_pos (by decide +kernel)]
    walk_at "dl"
    exact same_pl (by simp [pln, plnIn, plns]) (by simp [pln, plnIn, plns]) (by rw [eqD_refl]; exact hQ)
  obtain ⟨k, gv, hm, hg, hz⟩ := id st
  unfold w_l_refused
  walk_at "dl"
  unfold w_l_refused_t1
  iterate 10 ((try simp only [hm]); walk_at "dl")
  simp only [List.mem_cons, List.not_mem_nil, or_false] at hw
  rcases hw with rfl | rfl | rfl | rfl
  · rw [if_pos rfl]
    exact ⟨by decide, .inr ⟨A, b, i, _, rfl, st, su rfl rfl⟩⟩
  · rw [if_neg (by decide +kernel), if_pos rfl]
    exact ⟨by decide, .inr ⟨A, b, i, _, _, rfl, st, su rfl rfl⟩⟩
  · rw [if_neg (by decide +kernel), if_neg (by decide +kernel), if_pos rfl]
    exact ⟨by decide, A, b, i, rfl, st, su rfl rfl⟩
  · rw [if_neg (by decide +kernel), if_neg (by decide +kernel), if_neg (by decide +kernel)]
    exact ⟨by decide, .inr ⟨A, b, i, _, rfl, st, su rfl rfl⟩⟩
def sp_l_stays : DSp := fun ds M Q _ => ∃ (x : Tx) (ps : List Tx), ds = [.str x, .lst (txs ps)] ∧ okT x ∧ x.length ≤ 1000000 ∧ (∀ y ∈ ps, okT y ∧ y.length ≤ 1000000) ∧ ps.length ≤ 1000 ∧ Q (.bl (ps.all fun y => !ovr x y)) M
def w_l_stays : DTS := dRet (dCB gAll (daCons (dFrz (dLcM (diAny (dVar 1)) (dgName 2) (dYes) [2] [] (dOp gNe (dCall sp_l_relation (daCons (dVar 0) (daCons (dVar 2) (daNil)))) (dC (.str (T "overbox")))))) (daNil)))
theorem p_l_stays : ∀ ds M Q E, sp_l_stays ds M Q E → w_l_stays (Ret Q E) (ds.map some ++ List.replicate (3 - 2) none) M := by
  rintro ds M Q E ⟨x, ps, rfl, ox, lx, hp, lp, hQ⟩
  unfold w_l_stays
  try simp only [dLcM]
  walk_at "dl"
  try simp only [dLcM]
  walk_at "dl"
  intro u hu
  refine lc_by (fun k acc M' => acc = (ps.take k).map (fun y => D.bl (decide (relL x y ≠ T "overbox"))) ∧ M' = put M u (.lst acc)) ⟨rfl, rfl⟩ put_same ?_ ?_
  · rintro k e acc M1 hd hM ⟨rfl, rfl⟩ N hy _
    obtain ⟨y, hy2, rfl⟩ : ∃ y, ps[k]? = some y ∧ e = .str y := by
      unfold txs at hd
      rw [List.getElem?_map] at hd
      cases q : ps[k]? with
      | none => rw [q] at hd; cases hd
      | some y => rw [q] at hd; exact ⟨y, rfl, (Option.some.inj hd).symm⟩
    have my := hp y (List.mem_of_getElem? hy2)
    have hk : k < ps.length := (List.getElem?_eq_some_iff.mp hy2).1
    walk_at "dl"
    refine ⟨x, y, rfl, lx, my.2, ox, my.1, ?_⟩
    walk_at "dl"
    have q := hy (.bl !decide (relL x y = T "overbox")) _ hM ⟨by rw [List.take_add_one, hy2, Option.toList_some, List.map_append]; simp, by rw [put_put]⟩
    rw [put_put] at q
    exact ⟨_, rfl, by rw [line24, List.length_map, List.length_take]; omega, q⟩
  · rintro acc M1 hM ⟨rfl, rfl⟩
    iterate 10 ((try simp only [hM]); walk_at "dl")
    have e : List.take (txs ps).length ps = ps := by unfold txs; rw [List.length_map, List.take_length]
    rw [e]
    rw [del_put_new hu]
    show gAll [D.lst (ps.map fun y => D.bl (decide (relL x y ≠ T "overbox")))] M Q
    exact ⟨ps.map fun y => decide (relL x y ≠ T "overbox"), by rw [List.map_map]; rfl, by show Q (.bl (List.all (List.map _ ps) id)) M; rw [List.all_map, show (id ∘ fun y => decide (relL x y ≠ T "overbox")) = fun y => !ovr x y from by funext y; simp [ovr]]; exact hQ⟩
def sp_l_address : DSp := fun ds M Q _ => ∃ (b : Int) (r : Tx) (l : List Tx), ds = [.tup [.int b, .str (inL l).flatten], .str (r ++ l.flatten)] ∧ Nm r ∧ Steps l ∧ l.length ≤ 90 ∧ Q (.bl true) M
def w_l_address_c1 : DTS := dRet (dAndV (dCB gIsi (daCons (dOp gIx (dVar 0) (dC (.int 0))) (daCons (dC (.ty "int")) (daNil)))) (dNotV (dCB gIsi (daCons (dOp gIx (dVar 0) (dC (.int 0))) (daCons (dC (.ty "bool")) (daNil))))))
def w_l_address : DTS := dSeq (dIfS (dOr (dNot (dTru (dCB gIsi (daCons (dVar 0) (daCons (dC (.ty "tuple")) (daNil)))))) (dOr (dTest (dOp gNe (dCB gLen (daCons (dVar 0) (daNil))) (dC (.int 2)))) (dNot (dTru (dCall (sp_l_same 8) (daCons (dOp gIx (dVar 0) (dC (.int 1))) (daCons (dOp gIx (dCall sp_l_home (daCons (dVar 1) (daNil))) (dC (.int 1))) (daNil)))))))) (dRet (dC (.bl false))) (dPass)) (w_l_address_c1)
theorem p_l_address : ∀ ds M Q E, sp_l_address ds M Q E → w_l_address (Ret Q E) (ds.map some ++ List.replicate (2 - 2) none) M := by
  rintro ds M Q E ⟨b, r, l, rfl, nr, sl, ll, hQ⟩
  unfold w_l_address
  walk_at "dl"
  refine ⟨by decide, ?_⟩
  rw [if_neg (by decide +kernel), if_neg (by simp)]
  refine ⟨r, l, rfl, nr, sl, ll, ?_⟩
  walk_at "dl"
  refine same_pl (by simp [pln]) (by simp [pln]) ?_
  rw [eqD_refl]
  walk_at "dl"
  unfold w_l_address_c1
  walk_at "dl"
  refine ⟨by decide, ?_⟩
  rw [if_pos (by decide +kernel)]
  exact ⟨by decide, hQ⟩
end DL
namespace DL
open PySem L2
local macro_rules | `(tactic| walk_at "dl") => `(tactic| try simp (config := { proj := false }) only [↓ex_mk, ↓nx_mk, ↓rt_mk, ↓bk_mk, ↓ct_mk, ↓xc_mk, ↓u_c, ↓u_op, ↓u_un, ↓u_and, ↓u_or, ↓u_not, ↓u_if, ↓u_anil, ↓u_acons, ↓u_lst, ↓u_lstM, ↓u_tup, ↓u_call, ↓u_sl, ↓u_onone, ↓u_cb, ↓u_mt, ↓u_mt0, ↓u_pass, ↓u_seq, ↓u_set, ↓u_asg, ↓u_drop, ↓u_ret, ↓u_retN, ↓u_ifs, ↓u_brk, ↓u_cnt, ↓u_for, ↓u_gname, ↓u_gsub, ↓u_fs, ↓u_fmt, ↓u_js0, ↓u_js, ↓u_em, ↓u_yes, ↓u_never, ↓u_ref, ↓u_forR, ↓u_star, ↓u_dict, ↓u_dict0, ↓u_dp0, ↓u_dp1, ↓u_forK, ↓u_lock, ↓u_kd, ↓u_fld, ↓u_setF, ↓u_make, ↓u_binL, ↓u_binR, ↓u_inO, ↓u_getO, ↓u_setO, ↓u_augO, ↓u_prp, ↓u_inv, ↓u_meth, ↓u_keys, ↓u_try, ↓u_cm, ↓u_makeV, ↓r_enum, ↓r_own, ↓u_raise, ↓u_tryas, ↓u_ca, ↓u_xf, ↓u_idxC, su_mk,
  ↓r_var, ↓r_test, ↓r_andV, ↓r_orV, ↓r_notV, ↓r_tru, ↓r_frz, ↓r_osome, ↓r_any, ↓r_scr, scr_c, ↓r_rng1, ↓r_rng2, ↓r_fz, wipeD,
  onSome_s, onBl_b, onInt_i, onStr_s, onVar_s, onML_l, onML2_l, onML2_d, onDK_d, fmt_s, fmt_i, tru_n, tru_b, tru_i, tru_s, tru_l, tru_t, tru_r, frz_r, sl_s, sl_l, sl_t, sl_r, add_i, add_s, add_l, add_t, add_rl, add_lr, sub_i, mul_i, div_i, mod_i, pow_i, neg_i, cmp_i, eq_i, eq_s, eq_b, eq_n, eq_l, eq_t, eq_rl, eq_lr, eq_ni, eq_in, eq_ns, eq_sn, eq_nb, eq_bn, eq_is, eq_si,
  ix_l, ix_t, ix_s, ix_ri, ix_rs, in_ss, in_l, in_t, in_ir, in_sr, isB_t, isB_f, ltS_s, gtS_s, sorted_l, keyK_s, keyK_i, u_dget, lenOR_r, listOR_r, isn_n, isn_b, isn_i, isn_s, isn_r, isn_l, isn_t, len_s, len_c, len_l, len_t, len_r, int_i, int_b, min_ii, max_ii, list_l, list_t, list_r, list_c, listM_l, listM_c, listM_t, listM_r, isi_, isi_k, ty_n, ty_b, ty_i, ty_s, ty_l, ty_t, it_s, it_l, it_r, itM_l, itM_d, app_r, rev_r, ends_s, ins_r, set_rs, str_i, str_s, ext_l, pop_r, clr_r, star_l, star_t, star_r, onRef_r, onML3_l, onML3_d, onML3_f, onDR_d, onDR_f, onFK_f, join_l, join_t, join_r, starts_s, r_gtup, r_glst, r_gnil, r_gcons, set_r, items_s, items_l, items_t, rng1_i, rng2_i, fz_r, addM_l, addM_rl, onIns_i, onLst_l, isIns_r, isInsM_i, noF_r, noFM_i, rows_r, lenO_r, listO_r, listOM_r, isCK_i, isCK_l, isC_r, isC_s, isC_i, isC_b, isC_n, isC_l, isC_t, putG_0, putG_1, lk_1, onCl_c, onEnum_l, index_l, strO_r, cmpO_r, pop1_r, tuple_l, tuple_t, divmod_i, upper_s, indexT_t, onExc_e, isE_t, isE_c, isE_v, zip_1,
  List.map_cons, List.map_nil, List.cons_append, List.nil_append, List.length_cons, List.length_nil, List.replicate, List.getElem?_cons_zero, List.getElem?_cons_succ, List.set_cons_zero, List.set_cons_succ, id, decide_eq_true_eq, if_true, if_false, Bool.false_eq_true, reduceIte, Bool.not_true, Bool.not_false, true_and, Nat.reduceAdd, Nat.reduceSub, Int.reduceToNat, Int.toNat_natCast, put_same, put_put, atI_0, atI_1, atI_2, atI_3, atI_4, ixN_40, ixN_41, ixN_42, ixN_43])
structure Tk where
  r : Tx
  l : List Tx
  b : Nat
  j : Nat
def Tk.x (t : Tk) : Tx := t.r ++ t.l.flatten
def Tk.ad (t : Tk) : D := .tup [.int (t.b : Nat), .str (inL t.l).flatten]
def Tk.d (t : Tk) : D := .lst [.str t.x, t.ad, .int (t.j : Nat)]
structure TkOk (G : GG) (t : Tk) : Prop where
  nr : Nm t.r
  sl : Steps t.l
  ll : t.l.length ≤ 8
  g : G t.b (t.r :: hmL t.l) t.j
structure S54 (p q u v : Addr) (A : MAd) (f : Tx → Int) (G : GG) (pks : List Tx) (tks : List Tk) (Kb Z L : Nat) (M : Mu) : Prop where
  src : Src M p
  mm : ∃ h k KS, MemOk M A h k f KS ∧ k ≤ Kb ∧ KS.length ≤ L ∧ HomesLe h Z ∧ GOk G h k pks
  nm : NumAt M q f L
  pk : M u = some (.lst (txs pks))
  tk : M v = some (.lst (tks.map Tk.d))
  lp : pks.length ≤ 10
  pn : ∀ y ∈ pks, Nd 10 y
  lt : tks.length ≤ 10
  ok : ∀ t ∈ tks, TkOk G t
  qA : q ∉ adL A
  uA : u ∉ adL A
  vA : v ∉ adL A
  dj : p ≠ u ∧ p ≠ v ∧ u ≠ v ∧ q ≠ u ∧ q ≠ v
def good (pks : List Tx) (t : Tk) : Bool := (pks.drop t.j).all fun y => !ovr t.x y
theorem good_at {G : GG} {h : Nat → Option (List Tx)} {k : Nat} {pks : List Tx} (g : GOk G h k pks) {t : Tk} (o : TkOk G t) : h t.b = if good pks t = true then some (t.r :: hmL t.l) else none := by
  have h3 := hm_in t.l
  have h1 : Steps (inL t.l) := fun s hs => o.sl s (by rw [← h3]; exact List.mem_append_right _ hs)
  have h2 : Nohop (inL t.l) := in_dots
  have e := g.at_ o.g h1 h2
  rw [List.cons_append, h3, List.flatten_cons] at e
  rw [e]
  unfold good Tk.x
  have : ((pks.drop t.j).all fun y => !ovr (t.r ++ t.l.flatten) y) = !(pks.drop t.j).any (ovr (t.r ++ t.l.flatten)) := by
    rw [List.not_any_eq_all_not]
  rw [this]
  cases (pks.drop t.j).any (ovr (t.r ++ t.l.flatten)) <;> rfl
section
variable {p q u v : Addr} {A : MAd} {f : Tx → Int} {G : GG} {pks : List Tx} {tks : List Tk} {Kb Z L : Nat} {M M' : Mu}
theorem S54.pA (S : S54 p q u v A f G pks tks Kb Z L M) : p ∉ adL A := by
  obtain ⟨h, k, KS, m, _⟩ := S.mm
  obtain ⟨ns, t, r, d, e, _⟩ := S.src
  exact m.lst e
theorem S54.qp (S : S54 p q u v A f G pks tks Kb Z L M) : q ≠ p := fun z => by
  obtain ⟨nk, h1, _⟩ := S.nm.ex
  obtain ⟨ns, t, r, d, e, _⟩ := S.src
  rw [z, e] at h1; cases h1
theorem S54.srcTo (S : S54 p q u v A f G pks tks Kb Z L M) (s : SrcTo p M M') : S54 p q u v A f G pks tks Kb Z L M' := { S with
  src := s.1
  mm := by
    obtain ⟨h, k, KS, m, r⟩ := S.mm
    exact ⟨h, k, KS, m.off fun a x ha e => by rw [s.2 a fun z => S.pA (by rw [← z]; exact ha)]; exact e, r⟩
  nm := S.nm.at_ (s.2 _ S.qp)
  pk := by rw [s.2 u (Ne.symm S.dj.1)]; exact S.pk
  tk := by rw [s.2 v (Ne.symm S.dj.2.1)]; exact S.tk }
theorem S54.xt (S : S54 p q u v A f G pks tks Kb Z L M) (x : Xt M M') : S54 p q u v A f G pks tks Kb Z L M' := { S with
  src := xt_src x S.src
  mm := by
    obtain ⟨h, k, KS, m, r⟩ := S.mm
    exact ⟨h, k, KS, m.xt x, r⟩
  nm := S.nm.xt x
  pk := x _ _ S.pk
  tk := x _ _ S.tk }
theorem S54.mem (S : S54 p q u v A f G pks tks Kb Z L M) {h' : Nat → Option (List Tx)} {k' Kb' Z' : Nat} {KS' : List Tx} (of : OffM A M M') (m : MemOk M' A h' k' f KS') (hk : k' ≤ Kb') (hl : KS'.length ≤ L) (hz : HomesLe h' Z') (hg : GOk G h' k' pks) : S54 p q u v A f G pks tks Kb' Z' L M' := { S with
  src := by
    obtain ⟨ns, t, r, d, e, z⟩ := S.src
    exact ⟨ns, t, r, d, of.get S.pA e, z⟩
  mm := ⟨h', k', KS', m, hk, hl, hz, hg⟩
  nm := by
    obtain ⟨nk, e, r⟩ := S.nm.ex
    exact ⟨nk, of.get S.qA e, r⟩
  pk := of.get S.uA S.pk
  tk := of.get S.vA S.tk }
theorem S54.mono (S : S54 p q u v A f G pks tks Kb Z L M) {Kb' Z' L' : Nat} (a : Kb ≤ Kb') (b : Z ≤ Z') (c : L ≤ L') : S54 p q u v A f G pks tks Kb' Z' L' M := { S with
  mm := by
    obtain ⟨h, k, KS, m, r1, r2, r3, r4⟩ := S.mm
    exact ⟨h, k, KS, m, by omega, by omega, r3.mono b, r4⟩
  nm := by
    obtain ⟨nk, h1, h2, h3, h4, h5⟩ := S.nm.ex
    exact ⟨nk, h1, h2, h3, h4, by omega⟩ }
theorem S54.loc {r : Tx} {l : List Tx} {Q : DK} {E : DX} (S : S54 p q u v A f G pks tks Kb Z L M) (nr : Nm r) (sl : Steps l) (ll : l.length ≤ 8) (hK : Kb ≤ 80000)
    (k : ∀ (b : Nat) (H' L' : List Tx) M', (∃ h' k' KS, MemOk M' A h' k' f KS ∧ k' ≤ Kb + 9 ∧ KS.length ≤ L ∧ HomesLe h' (Z + 9) ∧ GOk G h' k' pks ∧ h' b = some H') → Steps L' → Nohop L' → H' ++ L' = r :: l → S54 p q u v A f G pks tks (Kb + 9) (Z + 9) L M' → OffM A M M' → Q (.tup [.int (b : Nat), .str L'.flatten]) M') : sp_Memory_locate [.ref A.m, .str (r ++ l.flatten)] M Q E := by
  obtain ⟨h, k0, KS, m, r1, r2, r3, r4⟩ := S.mm
  refine ⟨A, h, k0, f, KS, r, l, rfl, m, nr, sl, by omega, by omega, fun h' k' b' H' L' M' a1 a2 a3 a4 a5 a6 a7 a8 => ?_⟩
  obtain ⟨rv, bv, nv, gv, _, _, _, _, _, _, _, mp⟩ := id a3
  have hz := (a1.homes mp.hm r3).mono (Z' := Z + 9) (by omega)
  exact k b' H' L' M' ⟨h', k', KS, a3, by omega, r2, hz, r4.grow a1, a4⟩ a5 a6 a7 (S.mem a8 a3 (by omega) r2 hz (r4.grow a1)) a8
end
theorem adr_eq {b2 b : Nat} {L : Tx} : PyData.eqv (.tuple (pds [.int (b2 : Nat), .str L])) (.tuple (pds [.int (b : Nat), .str L])) = decide (b2 = b) := by
  rw [Bool.eq_iff_iff, decide_eq_true_iff]
  have h := eqv_iff (n := 2) (x := .tup [.int (b2 : Nat), .str L]) (y := .tup [.int (b : Nat), .str L]) (by simp [nobl]) (by simp [nobl])
  refine (show _ ↔ _ from h).trans ⟨fun e => ?_, fun e => by rw [e]⟩
  injection e with e
  injection e with e _
  injection e with e
  omega
theorem hm_hmL {r : Tx} {l H L : List Tx} (hH : HmT H) (hL : Nohop L) (e : H ++ L = r :: l) : H = r :: hmL l ∧ L = inL l := by
  have d := hm_in l
  have hm2 : hmL (hmL l) = hmL l := by
    have := congrArg hmL d
    rw [hmL_dots in_dots] at this
    exact this
  refine dec_uniq0 hH ⟨r, hmL l, rfl, hm2⟩ hL in_dots ?_
  rw [e, List.cons_append, d]
def sp_l_holds : DSp := fun ds M Q _ => ∃ (p q u v : Addr) (A : MAd) (f : Tx → Int) (G : GG) (pks : List Tx) (tks : List Tk) (Kb Z L : Nat), ds = [.ref A.m, .ref q, .ref u, .ref v] ∧ S54 p q u v A f G pks tks Kb Z L M ∧ Kb + 90 ≤ 19000 ∧ L ≤ 1000 ∧ ∀ M', S54 p q u v A f G pks tks (Kb + 90) (Z + 90) L M' → Q (.bl true) M'
def w_l_holds_b1 : DTS := dIfS (dNot (dTru (dCall sp_l_refused (daCons (dVar 0) (daCons (dVar 10) (daCons (dVar 5) (daCons (dC (.str [])) (daNil)))))))) (dRet (dC (.bl false))) (dPass)
def w_l_holds_c2 : DTS := dIfS (dNot (dTru (dVar 9))) (dFor (diAny (dLst (daCons (dC (.str (T "number"))) (daCons (dC (.str (T "set"))) (daCons (dC (.str (T "part"))) (daCons (dC (.str (T "pack"))) (daNil))))))) (dgName 10) (w_l_holds_b1)) (dPass)
def w_l_holds_c3 : DTS := dSeq (dIfS (dAnd (dTru (dVar 9)) (dNot (dTru (dCall (sp_l_same 8) (daCons (dMeth "Memory" "number" sp_Memory_number (dVar 0) (daCons (dVar 5) (daCons (dC (.str [])) (daNil)))) (daCons (dVar 7) (daNil))))))) (dRet (dC (.bl false))) (dPass)) (w_l_holds_c2)
def w_l_holds_c4 : DTS := dSeq (dIfS (dOr (dNot (dTru (dCall sp_l_address (daCons (dVar 8) (daCons (dVar 4) (daNil)))))) (dNot (dTru (dCall (sp_l_same 8) (daCons (dMeth "Memory" "number" sp_Memory_number (dVar 0) (daCons (dVar 8) (daCons (dC (.str [])) (daNil)))) (daCons (dVar 7) (daNil))))))) (dRet (dC (.bl false))) (dPass)) (w_l_holds_c3)
def w_l_holds_b5 : DTS := dSeq (dSet 7 (dDGet (dVar 1) (dVar 4) (dC (.int 0)))) (dSeq (dSet 8 (dMeth "Memory" "locate" sp_Memory_locate (dVar 0) (daCons (dVar 4) (daNil)))) (dSeq (dSet 9 (dCall sp_l_stays (daCons (dVar 4) (daCons (dSl (dVar 2) (doSome (dVar 6)) (doNone)) (daNil))))) (dSeq (dIfS (dOr (dNot (dTru (dCall (sp_l_same 8) (daCons (dMeth "Memory" "alive" sp_Memory_alive (dVar 0) (daCons (dVar 5) (daNil))) (daCons (dVar 9) (daNil)))))) (dTest (dOp gNe (dOp gEq (dVar 8) (dVar 5)) (dVar 9)))) (dRet (dC (.bl false))) (dPass)) (w_l_holds_c4))))
def w_l_holds_c6 : DTS := dLock 1 (dRet (dCall (sp_l_same 8) (daCons (dMeth "Memory" "pairs" sp_Memory_pairs (dVar 0) daNil) (daCons (dCall sp_l_ordered (daCons (dFrz (dLcP (diKeys (dVar 1)) (dgName 4) (dYes) [4] (dTup (daCons (dVar 4) (daCons (dOp gIx (dVar 1) (dVar 4)) (daNil)))))) (daNil))) (daNil)))))
def w_l_holds : DTS := dSeq (dForR (diRef (dVar 3)) (dgLst 3 (dgCons 4 (dgCons 5 (dgCons 6 (dgNil))))) (w_l_holds_b5)) (w_l_holds_c6)
theorem p_l_holds : ∀ ds M Q E, sp_l_holds ds M Q E → w_l_holds (Ret Q E) (ds.map some ++ List.replicate (11 - 4) none) M := by
  rintro ds M Q E ⟨p, q, u, v, A, f, G, pks, tks, Kb, Z, L, rfl, S, hK, hL, hQ⟩
  unfold w_l_holds
  iterate 10 ((try simp only [S.tk]); walk_at "dl")
  refine wForR_by (fun i τ M' => (∃ x4 x5 x6 x7 x8 x9 x10, τ = [some (.ref A.m), some (.ref q), some (.ref u), some (.ref v), x4, x5, x6, x7, x8, x9, x10]) ∧ S54 p q u v A f G pks tks (Kb + 9 * i) (Z + 9 * i) L M') ⟨⟨_, _, _, _, _, _, _, rfl⟩, S⟩ (fun i τ M' h => h.2.tk) ?_ ?_
  · rintro i d τ M' hd ⟨⟨x4, x5, x6, x7, x8, x9, x10, rfl⟩, S1⟩ nxt hnx
    obtain ⟨t, hi, rfl⟩ := map_at hd
    have o := S1.ok t (List.mem_of_getElem? hi)
    have hil := (List.getElem?_eq_some_iff.mp hi).1
    have lt := S1.lt
    obtain ⟨r, l, b, j⟩ := t
    unfold Tk.d Tk.ad Tk.x
    dsimp only
    have pl := S1.lp
    obtain ⟨nk, eq1, n2, n3, n4, n5⟩ := S1.nm.ex
    have eg : (getV nk (r ++ l.flatten)).getD (.int 0) = .int (f (r ++ l.flatten)) := by
      cases g : getV nk (r ++ l.flatten) with
      | none => rw [n4 _ g]; rfl
      | some d => rw [n3 _ d g]; rfl
    walk_at "dl"
    unfold w_l_holds_b5
    iterate 10 ((try simp only [S1.tk, S1.pk, eq1, lookK_kv]); walk_at "dl")
    obtain ⟨h0, k0, KS0, m0, hk0, hs0, hz0, hg0⟩ := S1.mm
    obtain ⟨_, _, _, _, hm0, _⟩ := id m0
    iterate 10 ((try simp only [hm0]); walk_at "dl")
    have ll := o.ll
    dsimp only at ll
    refine ⟨by decide, S1.loc (r := r) (l := l) o.nr o.sl ll (by omega) fun b2 H2 L2 M2 ⟨h2, k2, KS2, m2, r1, r2, r3, g2, r4⟩ a5 a6 a7 S2 of2 => ?_⟩
    walk_at "dl"
    unfold w_l_holds_c4
    iterate 10 ((try simp only [S2.pk]); walk_at "dl")
    have hH2 : HmT H2 ∧ True := ⟨by obtain ⟨_, _, _, _, _, _, _, _, _, _, _, mp⟩ := id m2; exact mp.hm.sh _ _ r4, trivial⟩
    obtain ⟨rfl, rfl⟩ := hm_hmL hH2.1 a6 a7
    have nd : Nd 8 (r ++ l.flatten) := ⟨r, l, o.nr, ll, o.sl, rfl⟩
    have ndl := nd.len
    have ed : cut (txs pks) (some (j : Int)) none = txs (pks.drop j) := by rw [cut_from (by omega), Int.toNat_natCast]; unfold txs; rw [List.map_drop]
    rw [ed]
    refine ⟨r ++ l.flatten, pks.drop j, rfl, fun c hc => by have := nd.chars c hc; omega, by omega, fun y hy => ⟨fun c hc => by have := (S2.pn y (List.mem_of_mem_drop hy)).chars c hc; omega, by have := (S2.pn y (List.mem_of_mem_drop hy)).len; omega⟩, by rw [List.length_drop]; omega, ?_⟩
    have hga := good_at g2 o
    unfold good Tk.x at hga
    dsimp only at hga
    obtain ⟨rv2, bv2, nv2, gv2, hm2, hr2, hx2, hn2, hgv2, _, _, mp2⟩ := id m2
    obtain ⟨gb1, gb2, _⟩ := g2.al _ _ _ o.g
    dsimp only at gb1 gb2
    have hal : (!(lookK gv2 (.inl (b : Int))).isSome) = (pks.drop j).all fun y => !ovr (r ++ l.flatten) y := by
      cases z : (pks.drop j).all fun y => !ovr (r ++ l.flatten) y with
      | true =>
        rw [z, if_pos rfl] at hga
        rw [mp2.gn _ _ hga]
        rfl
      | false =>
        rw [z, if_neg (by decide)] at hga
        rw [mp2.gd b gb1 gb2 hga]
        rfl
    have heq : decide (b2 = b) = (pks.drop j).all fun y => !ovr (r ++ l.flatten) y := by
      cases z : (pks.drop j).all fun y => !ovr (r ++ l.flatten) y with
      | true =>
        rw [z, if_pos rfl] at hga
        rw [decide_eq_true_iff]
        exact mp2.hm.inj _ _ _ r4 hga
      | false =>
        rw [z, if_neg (by decide)] at hga
        rw [decide_eq_false_iff_not]
        intro w
        rw [w, hga] at r4
        cases r4
    generalize (pks.drop j).all (fun y => !ovr (r ++ l.flatten) y) = g at hga hal heq ⊢
    iterate 10 ((try simp only [hm2]); walk_at "dl")
    refine ⟨by decide, A, (k2 : Nat), b, _, gv2, rfl, hm2, hgv2, ?_⟩
    rw [hal]
    walk_at "dl"
    refine same_pl (by simp [pln]) (by simp [pln]) ?_
    rw [eqD_refl]
    walk_at "dl"
    have okA : ∀ c : Nat, eqOk (D.tup [.int (c : Nat), .str (inL l).flatten]) = true := fun c => okd_eqOk (adr_okd fun s hs => o.sl s (by show s ∈ l; rw [← hm_in l]; exact List.mem_append_right _ hs)) (by decide)
    refine ⟨okA b2, okA b, ?_⟩
    rw [adr_eq, heq, if_neg (by simp)]
    refine ⟨b2, r, l, rfl, o.nr, o.sl, by omega, ?_⟩
    unfold w_l_holds_c3
    iterate 10 ((try simp only [hm2]); walk_at "dl")
    have lh := congrArg List.length a7
    rw [List.length_append, List.length_cons] at lh
    have nilS : Steps ([] : List Tx) := fun _ h => nomatch h
    refine ⟨by decide, number_ok ⟨A, h2, k2, f, KS2, b2, _, _, [], rfl, m2, r4, a5, a6, nilS, by rw [List.length_append, List.length_append]; simp only [List.length_cons, List.length_nil] at lh ⊢; omega, by rw [List.length_nil]; omega, fun h3 k3 M3 c1 c2 c3 c4 => ?_⟩⟩
    rw [List.length_nil] at c2
    have ef : f (r :: hmL l ++ inL l ++ []).flatten = f (r ++ l.flatten) := by rw [List.append_nil, a7]; rfl
    obtain ⟨rv3, bv3, nv3, gv3, hm3, _, _, _, hgv3, _, _, mp3⟩ := id c3
    have g3 := g2.grow c1
    have z3 := (c1.homes mp3.hm r3).mono (Z' := Z + 9 * i + 9) (by omega)
    have S3 := S2.mem c4 c3 (Kb' := Kb + 9 * i + 9) (by omega) r2 z3 g3
    rw [ef, lookK_kv, eg]
    walk_at "dl"
    refine same_int ?_
    cases g with
    | true =>
      rw [if_pos rfl] at hga
      iterate 10 ((try simp only [hm3]); walk_at "dl")
      refine ⟨by decide, number_ok ⟨A, h3, k3, f, KS2, b, _, _, [], rfl, c3, c1.up _ _ hga, a5, a6, nilS, by rw [List.length_append, List.length_append]; simp only [List.length_cons, List.length_nil] at lh ⊢; omega, by rw [List.length_nil]; omega, fun h4 k4 M4 e1 e2 e3 e4 => ?_⟩⟩
      rw [List.length_nil] at e2
      rw [ef]
      walk_at "dl"
      refine same_int ?_
      walk_at "dl"
      unfold w_l_holds_c2
      walk_at "dl"
      obtain ⟨_, _, _, _, _, _, _, _, _, _, _, mp4⟩ := id e3
      have z4 := (e1.homes mp4.hm z3).mono (Z' := Z + 9 * (i + 1)) (by omega)
      exact hnx _ _ ⟨⟨_, _, _, _, _, _, _, rfl⟩, S3.mem e4 e3 (by omega) r2 z4 (g3.grow e1)⟩
    | false =>
      rw [if_neg (by decide)] at hga
      walk_at "dl"
      unfold w_l_holds_c2
      walk_at "dl"
      have hg3 := good_at g3 o
      have hn3 : h3 b = none := by
        cases z : h3 b with
        | none => rfl
        | some t =>
          rcases c1.nw _ _ z with z2 | z2
          · rw [hga] at z2; cases z2
          · omega
      have st := c3.stl gb1 (by have := c1.le; omega) hn3 (inL l).flatten
      refine ⟨by decide, wFor_by (fun _ τ M' => (∃ y10, τ = [some (.ref A.m), some (.ref q), some (.ref u), some (.ref v), some (.str (r ++ l.flatten)), some (.tup [.int (b : Nat), .str (inL l).flatten]), some (.int (j : Nat)), some (.int (f (r ++ l.flatten))), some (.tup [.int (b2 : Nat), .str (inL l).flatten]), some (.bl false), y10]) ∧ M' = M3) ⟨⟨_, rfl⟩, rfl⟩ ?_ ?_⟩
      · rintro i2 d τ M' hd ⟨⟨y10, rfl⟩, rfl⟩ nxt2 hn2
        obtain ⟨w, hw, rfl⟩ : ∃ w, w ∈ [T "number", T "set", T "part", T "pack"] ∧ d = .str w := by
          have := List.mem_of_getElem? hd
          simp only [List.mem_cons, List.not_mem_nil, or_false] at this
          rcases this with rfl | rfl | rfl | rfl
          · exact ⟨_, by simp, rfl⟩
          · exact ⟨_, by simp, rfl⟩
          · exact ⟨_, by simp, rfl⟩
          · exact ⟨_, by simp, rfl⟩
        walk_at "dl"
        unfold w_l_holds_b1
        walk_at "dl"
        refine ⟨A, b, _, w, [], rfl, hw, st, ?_⟩
        walk_at "dl"
        exact hn2 _ _ ⟨⟨_, rfl⟩, rfl⟩
      · rintro τ M' ⟨⟨y10, rfl⟩, rfl⟩
        have z4 := z3.mono (Z' := Z + 9 * (i + 1)) (by omega)
        exact hnx _ _ ⟨⟨_, _, _, _, _, _, _, rfl⟩, S3.mem (OffM.refl _ _) c3 (by omega) r2 z4 g3⟩
  · rintro τ M' ⟨⟨x4, x5, x6, x7, x8, x9, x10, rfl⟩, S1⟩
    rw [List.length_map] at S1
    have lt := S1.lt
    have S1 := S1.mono (Kb' := Kb + 90) (Z' := Z + 90) (L' := L) (by omega) (by omega) (Nat.le_refl _)
    obtain ⟨h', k', KS, mo', hk', hKS, hz', hg'⟩ := S1.mm
    obtain ⟨nk, eq', h2, h3, h4, h5⟩ := S1.nm.ex
    have nq := S1.qA
    obtain ⟨rv, bv, nv, gv, hm', _⟩ := id mo'
    have nqm : A.m ≠ q := fun z => nq (by rw [← z]; simp)
    unfold w_l_holds_c6
    iterate 10 ((try simp only [eq']); walk_at "dl")
    intro u2
    iterate 10 ((try simp only [put_ne nqm, hm']); walk_at "dl")
    have mo2 : MemOk (put M' q (.fK (nk.map kvD) u2)) A h' k' f KS := mo'.off fun a x ha e => by rw [put_ne fun z => nq (by rw [← z]; exact ha)]; exact e
    refine ⟨by decide, A, h', k', f, KS, rfl, mo2, by omega, by omega, fun rows M1 hr lr x1 => ?_⟩
    have e1 : M1 q = some (.fK (nk.map kvD) u2) := x1 _ _ put_same
    iterate 10 ((try simp only [dLcP, e1]); walk_at "dl")
    intro v2 hv
    have nv2 : q ≠ v2 := fun z => by rw [← z, e1] at hv; cases hv
    rw [keysOf_kv]
    refine lcP_map (f := fun t => pD (t, f t)) (fun acc => by rw [put_ne nv2]; exact e1) [] (by rw [List.length_nil, List.length_map]; omega) (fun t ht acc N h => ?_) ?_
    · obtain ⟨d, e⟩ := Option.isSome_iff_exists.mp (getV_mem.mp ht)
      have e2 := h3 t d e
      subst e2
      iterate 10 ((try simp only [put_ne nv2, e1, lookK_kv, e]); walk_at "dl")
      exact ⟨by decide, h⟩
    · iterate 10 ((try simp only [put_same, del_put_new hv, List.nil_append]); walk_at "dl")
      have hks : ∀ t, t ∉ nk.map (·.1) → f t = 0 := fun t ht => h4 t (by
        cases g : getV nk t with
        | none => rfl
        | some d => exact absurd (getV_mem.mpr (by rw [g]; rfl)) ht)
      refine ⟨(nk.map (·.1)).map fun t => (t, f t), by simp only [List.map_map]; rfl, by rw [List.length_map, List.length_map]; omega, fun rows2 M2 hr2 x2 => ?_⟩
      rw [lastF_keys h2 hks] at hr2
      have pl : pln 8 (.lst (rows.map pD)) = true := pln_pD (by omega)
      have er := hr.uniq hr2
      rw [← er]
      walk_at "dl"
      refine same_d pl ?_
      walk_at "dl"
      have x3 : Xt M' (put M2 q (.dK (nk.map kvD))) := Xt.lock eq' (x1.trans x2)
      exact ⟨x2 q _ e1, hQ _ (S1.xt x3)⟩
theorem cut_two {xs : List Tx} {a b : Nat} (ha : a ≤ xs.length) (hb : b ≤ xs.length) : cut (txs xs) (some (a : Int)) (some (b : Int)) = txs ((xs.take b).drop a) := by
  unfold cut txs
  rw [HT.sIx_nat, HT.sIx_nat, List.length_map, Nat.min_eq_left ha, Nat.min_eq_left hb, List.map_drop, List.map_take, List.drop_take]
def blkG (pks : List Tx) (t s : Tk) : Bool := decide (t.r ++ (hmL t.l).flatten = s.r ++ (hmL s.l).flatten) && ((pks.take t.j).drop s.j).all fun y => !ovr s.x y
def sp_l_blocks : DSp := fun ds M Q _ => ∃ (u v : Addr) (pks : List Tx) (tks : List Tk), ds = [.ref u, .ref v] ∧ M u = some (.lst (txs pks)) ∧ M v = some (.lst (tks.map Tk.d)) ∧ pks.length ≤ 10 ∧ tks.length ≤ 10 ∧ (∀ y ∈ pks, Nd 10 y) ∧ (∀ t ∈ tks, Nm t.r ∧ Steps t.l ∧ t.l.length ≤ 8 ∧ t.j ≤ pks.length) ∧
  (∀ (k j : Nat) (t s : Tk), j < k → tks[k]? = some t → tks[j]? = some s → decide (t.b = s.b) = blkG pks t s) ∧ Q (.bl true) M
def w_l_blocks_c1 : DTS := dIfS (dTest (dOp gNe (dOp gEq (dOp gIx (dOp gIx (dOp gIx (dVar 1) (dVar 2)) (dC (.int 1))) (dC (.int 0))) (dOp gIx (dOp gIx (dOp gIx (dVar 1) (dVar 3)) (dC (.int 1))) (dC (.int 0)))) (dVar 4))) (dRet (dC (.bl false))) (dPass)
def w_l_blocks_b2 : DTS := dSeq (dSet 4 (dOp gEq (dOp gIx (dCall sp_l_home (daCons (dOp gIx (dOp gIx (dVar 1) (dVar 2)) (dC (.int 0))) (daNil))) (dC (.int 0))) (dOp gIx (dCall sp_l_home (daCons (dOp gIx (dOp gIx (dVar 1) (dVar 3)) (dC (.int 0))) (daNil))) (dC (.int 0))))) (dSeq (dIfS (dAnd (dTru (dVar 4)) (dNot (dTru (dCall sp_l_stays (daCons (dOp gIx (dOp gIx (dVar 1) (dVar 3)) (dC (.int 0))) (daCons (dSl (dVar 0) (doSome (dOp gIx (dOp gIx (dVar 1) (dVar 3)) (dC (.int 2)))) (doSome (dOp gIx (dOp gIx (dVar 1) (dVar 2)) (dC (.int 2))))) (daNil))))))) (dSet 4 (dC (.bl false))) (dPass)) (w_l_blocks_c1))
def w_l_blocks_b3 : DTS := dFor (diRng1 (daCons (dVar 2) (daNil))) (dgName 3) (w_l_blocks_b2)
def w_l_blocks : DTS := dSeq (dFor (diRng1 (daCons (dCB gLen (daCons (dVar 1) (daNil))) (daNil))) (dgName 2) (w_l_blocks_b3)) (dRet (dC (.bl true)))
theorem p_l_blocks : ∀ ds M Q E, sp_l_blocks ds M Q E → w_l_blocks (Ret Q E) (ds.map some ++ List.replicate (5 - 2) none) M := by
  rintro ds M Q E ⟨u, v, pks, tks, rfl, hu, hv, lp, lt, np, ok, hb, hQ⟩
  unfold w_l_blocks
  iterate 10 ((try simp only [hv]); walk_at "dl")
  simp only [List.length_map]
  refine ⟨by omega, by omega, wFor_by (fun i τ M' => (∃ x2 x3 x4, τ = [some (.ref u), some (.ref v), x2, x3, x4]) ∧ M' = M) ⟨⟨_, _, _, rfl⟩, rfl⟩ ?_ ?_⟩
  · rintro i d τ M' hd ⟨⟨x2, x3, x4, rfl⟩, rfl⟩ nxt hn
    obtain ⟨rfl, hi⟩ := upTo_at hd
    have hi : i < tks.length := by omega
    unfold w_l_blocks_b3
    walk_at "dl"
    refine ⟨by omega, by omega, wFor_by (fun j τ M2 => (∃ x3 x4, τ = [some (.ref u), some (.ref v), some (.int ((0 : Int) + (i : Nat))), x3, x4]) ∧ M2 = M') ⟨⟨_, _, rfl⟩, rfl⟩ ?_ ?_⟩
    · rintro j d τ M' hd ⟨⟨x3, x4, rfl⟩, rfl⟩ nxt2 hn2
      obtain ⟨rfl, hj⟩ := upTo_at hd
      have hj : j < i := by omega
      have at_ : ∀ n, (h : n < tks.length) → atI (tks.map Tk.d) ((0 : Int) + (n : Nat)) = some (tks[n]).d := fun n h => by
        rw [Int.zero_add, atI_nat (by rw [List.length_map]; exact h)]
        simp
      unfold w_l_blocks_b2
      iterate 10 ((try simp only [hv, at_ i hi, at_ j (by omega), Tk.d]); walk_at "dl")
      have oi := ok tks[i] (List.getElem_mem hi)
      have oj := ok tks[j] (List.getElem_mem (by omega))
      have q := hb i j tks[i] tks[j] hj (List.getElem?_eq_getElem hi) (List.getElem?_eq_getElem (by omega))
      unfold blkG at q
      refine ⟨_, _, rfl, oi.1, oi.2.1, by have := oi.2.2.1; omega, ?_⟩
      iterate 10 ((try simp only [hv, at_ i hi, at_ j (by omega), Tk.d]); walk_at "dl")
      refine ⟨_, _, rfl, oj.1, oj.2.1, by have := oj.2.2.1; omega, ?_⟩
      iterate 10 ((try simp only [hv, hu, at_ i hi, at_ j (by omega), Tk.d]); walk_at "dl")
      have fin : ∀ g : Bool, decide (tks[i].b = tks[j].b) = g → w_l_blocks_c1 { nx := nxt2, rt := Q, bk := nxt, ct := nxt2, xc := fun x x_1 M' => E x M' } [some (.ref u), some (.ref v), some (.int (0 + (i : Int))), some (.int (0 + (j : Int))), some (.bl g)] M' := fun g e => by
        unfold w_l_blocks_c1
        iterate 10 ((try simp only [hv, at_ i hi, at_ j (by omega), Tk.d, Tk.ad]); walk_at "dl")
        have e2 : decide (((tks[i]).b : Int) = ((tks[j]).b : Int)) = decide ((tks[i]).b = (tks[j]).b) := by
          rw [Bool.eq_iff_iff, decide_eq_true_iff, decide_eq_true_iff]
          omega
        rw [e2, e, if_neg (by simp)]
        exact hn2 _ _ ⟨⟨_, _, rfl⟩, rfl⟩
      split
      · rename_i z
        rw [decide_eq_true z, Bool.true_and] at q
        rw [cut_two oj.2.2.2 oi.2.2.2]
        have nd : Nd 8 (tks[j]).x := ⟨_, _, oj.1, oj.2.2.1, oj.2.1, rfl⟩
        have ndl := nd.len
        have mp : ∀ y ∈ (pks.take (tks[i]).j).drop (tks[j]).j, Nd 10 y := fun y hy => np y (List.mem_of_mem_take (List.mem_of_mem_drop hy))
        refine ⟨_, _, rfl, fun c hc => by have := nd.chars c hc; omega, by omega, fun y hy => ⟨fun c hc => by have := (mp y hy).chars c hc; omega, by have := (mp y hy).len; omega⟩, by rw [List.length_drop, List.length_take]; omega, ?_⟩
        cases g : ((pks.take (tks[i]).j).drop (tks[j]).j).all fun y => !ovr (tks[j]).x y with
        | true =>
          rw [g] at q
          walk_at "dl"
          rw [decide_eq_true z]
          exact fin true q
        | false =>
          rw [g] at q
          walk_at "dl"
          exact fin false q
      · rename_i z
        rw [decide_eq_false z, Bool.false_and] at q
        rw [decide_eq_false z]
        exact fin false q
    · rintro τ M' ⟨⟨x3, x4, rfl⟩, rfl⟩
      exact hn _ _ ⟨⟨_, _, _, rfl⟩, rfl⟩
  · rintro τ M' ⟨⟨x2, x3, x4, rfl⟩, rfl⟩
    walk_at "dl"
    exact hQ
theorem blk_add {G : GG} {h : Nat → Option (List Tx)} {k : Nat} {pks : List Tx} (g : GOk G h k pks) (hk : Hm h k) {t s : Tk} (o : TkOk G s) (nr : Nm t.r) (sl : Steps t.l) (hj : t.j = pks.length) (ht : h t.b = some (t.r :: hmL t.l)) : decide (t.b = s.b) = blkG pks t s := by
  have hs := good_at g o
  have sub : ∀ {l : List Tx}, Steps l → Steps (hmL l) := fun {l} sl x hx => sl x (by rw [← hm_in l]; exact List.mem_append_left _ hx)
  have hom : t.r ++ (hmL t.l).flatten = s.r ++ (hmL s.l).flatten ↔ t.r :: hmL t.l = s.r :: hmL s.l := by
    constructor
    · intro e
      rw [← nd_parts nr (sub sl), ← nd_parts o.nr (sub o.sl), e]
    · intro e
      rw [← List.flatten_cons, ← List.flatten_cons, e]
  unfold blkG
  rw [hj, List.take_length]
  show _ = (decide _ && good pks s)
  cases z : good pks s with
  | false =>
    rw [z, if_neg (by decide)] at hs
    rw [Bool.and_false, decide_eq_false_iff_not]
    intro e
    rw [e, hs] at ht
    cases ht
  | true =>
    rw [z, if_pos rfl] at hs
    rw [Bool.and_true, Bool.eq_iff_iff, decide_eq_true_iff, decide_eq_true_iff, hom]
    constructor
    · intro e
      rw [e, hs] at ht
      exact (Option.some.inj ht).symm
    · intro e
      exact hk.inj _ _ _ ht (by rw [hs, e])
theorem blk_pack {pks : List Tx} {X : Tx} {t s : Tk} (hj : t.j ≤ pks.length) : blkG (pks ++ [X]) t s = blkG pks t s := by
  unfold blkG
  rw [List.take_append_of_le_length hj]
def sp_l_boxed : DSp := fun ds M Q _ => ∃ (a : Addr) (x : Tx), ds = [.ref a, .str x] ∧ Nd 6 x ∧ Src M a ∧ ∀ y M', Nd 6 y → SrcTo a M M' → Q (.str y) M'
def w_l_boxed : DTS := dSeq (dIfS (dTest (dOp gLt (dCB gLen (daCons (dCall sp_l_parts (daCons (dVar 1) (daNil))) (daNil))) (dC (.int 7)))) (dRet (dOp gAdd (dOp gAdd (dVar 1) (dC (.str [94]))) (dCall sp_l_name (daCons (dVar 0) (daNil))))) (dPass)) (dRet (dVar 1))
theorem p_l_boxed : ∀ ds M Q E, sp_l_boxed ds M Q E → w_l_boxed (Ret Q E) (ds.map some ++ List.replicate (2 - 2) none) M := by
  rintro ds M Q E ⟨a, x, rfl, hx, hs, hQ⟩
  have hlen := hx.len
  obtain ⟨r, l, hr, hl, hst, rfl⟩ := hx
  unfold w_l_boxed
  walk_at "dl"
  refine ⟨_, rfl, by omega, ?_⟩
  rw [nd_parts hr hst]
  walk_at "dl"
  split
  · rename_i h
    simp only [List.length_map, List.length_cons] at h
    refine ⟨by omega, a, rfl, hs, fun n M1 hn s1 => ?_⟩
    walk_at "dl"
    have hnl := hn.2.1
    refine ⟨by rw [List.length_append, List.length_singleton]; omega, hQ _ M1 ⟨r, l ++ [94 :: n], hr, by rw [List.length_append, List.length_singleton]; omega, hst.append (Steps.one ⟨94, n, rfl, .inr rfl, hn⟩), ?_⟩ s1⟩
    simp
  · exact hQ _ M ⟨r, l, hr, hl, hst, rfl⟩ ⟨hs, fun _ _ => rfl⟩
def sp_law : DSp := fun ds M Q _ => ∃ ns : List Int, ds = [.scr ns] ∧ ns.length ≤ 63 ∧ ∀ M', Q (.bl true) M'
def w_law_b1 : DTS := dAsg (dVar 6) (dgSub (dVar 4) (dVar 5) gSetA)
def w_law_c2 : DTS := dIfS (dNot (dTru (dCall sp_l_holds (daCons (dVar 7) (daCons (dVar 4) (daCons (dVar 8) (daCons (dVar 9) (daNil)))))))) (dRet (dC (.bl false))) (dPass)
def w_law_c3 : DTS := dSeq (dIfS (dNot (dTru (dCall sp_l_stays (daCons (dVar 5) (daCons (dSl (dVar 8) (doSome (dVar 13)) (doNone)) (daNil)))))) (dSeq (dSet 16 (dCall sp_l_pick (daCons (dVar 1) (daCons (dLst (daCons (dC (.str (T "pack"))) (daCons (dC (.str (T "set"))) (daCons (dC (.str (T "number"))) (daCons (dC (.str (T "part"))) (daNil)))))) (daNil))))) (dIfS (dNot (dTru (dCall sp_l_refused (daCons (dVar 7) (daCons (dVar 16) (daCons (dVar 12) (daCons (dVar 15) (daNil)))))))) (dRet (dC (.bl false))) (dPass))) (dIfS (dTest (dOp gLt (dVar 14) (dC (.int 2)))) (dSeq (dIfS (dTest (dOp gNotN (dMeth "Memory" "pack" sp_Memory_pack (dVar 7) (daCons (dVar 12) (daCons (dVar 15) (daNil)))) (dC .non))) (dRet (dC (.bl false))) (dPass)) (dDrop (dMt "list" gAppend (dVar 8) (daCons (dOp gAdd (dVar 5) (dVar 15)) (daNil))))) (dSeq (dSet 6 (dCall sp_l_draw (daCons (dVar 1) (daCons (dC (.int 1000)) (daNil))))) (dSeq (dIfS (dTest (dOp gNotN (dMeth "Memory" "set_number" sp_Memory_set_number (dVar 7) (daCons (dVar 12) (daCons (dVar 15) (daCons (dVar 6) (daNil))))) (dC .non))) (dRet (dC (.bl false))) (dPass)) (dSeq (dIfS (dNot (dTru (dCall (sp_l_same 8) (daCons (dMeth "Memory" "number" sp_Memory_number (dVar 7) (daCons (dVar 12) (daCons (dVar 15) (daNil)))) (daCons (dVar 6) (daNil)))))) (dRet (dC (.bl false))) (dPass)) (dAsg (dVar 6) (dgSub (dVar 4) (dOp gAdd (dVar 5) (dVar 15)) gSetA))))))) (w_law_c2)
def w_law_b4 : DTS := dSeq (dSet 11 (dCall sp_l_pick (daCons (dVar 1) (daCons (dVar 2) (daNil))))) (dSeq (dSet 12 (dMeth "Memory" "locate" sp_Memory_locate (dVar 7) (daCons (dVar 11) (daNil)))) (dSeq (dIfS (dNot (dTru (dCall sp_l_address (daCons (dVar 12) (daCons (dVar 11) (daNil)))))) (dRet (dC (.bl false))) (dPass)) (dSeq (dDrop (dMt "list" gAppend (dVar 9) (daCons (dLst (daCons (dVar 11) (daCons (dVar 12) (daCons (dCB gLen (daCons (dVar 8) (daNil))) (daNil))))) (daNil)))) (dSeq (dAsg (dCall sp_l_pick (daCons (dVar 1) (daCons (dVar 9) (daNil)))) (dgLst 3 (dgCons 5 (dgCons 12 (dgCons 13 (dgNil)))))) (dSeq (dSet 14 (dCall sp_l_draw (daCons (dVar 1) (daCons (dC (.int 3)) (daNil))))) (dSeq (dSet 15 (dC (.str []))) (dSeq (dIfS (dTest (dOp gEq (dCall sp_l_draw (daCons (dVar 1) (daCons (dC (.int 2)) (daNil)))) (dC (.int 1)))) (dSet 15 (dCall sp_l_tail (daCons (dVar 1) (daCons (dC (.int 2)) (daNil))))) (dPass)) (w_law_c3))))))))
def w_law_c5 : DTS := dRet (dCall sp_l_blocks (daCons (dVar 8) (daCons (dVar 9) (daNil))))
def w_law_f6 : DTS := dSeq (dFor (diRng1 (daCons (dOp gAdd (dC (.int 2)) (dCall sp_l_draw (daCons (dVar 1) (daCons (dC (.int 4)) (daNil))))) (daNil))) (dgName 10) (w_law_b4)) (w_law_c5)
def w_law_c7 : DTS := dSeq (dSet 7 (dMake "Memory" sp_Memory_init (daCons (dCB gListM (daCons (dVar 3) (daNil))) (daNil)))) (dSeq (dSet 8 (dLstM (daNil))) (dSeq (dSet 9 (dLstM (daNil))) (w_law_f6)))
def w_law_f8 : DTS := dSeq (dFor (diAny (dVar 3)) (dgTup 2 (dgCons 5 (dgCons 6 (dgNil)))) (w_law_b1)) (w_law_c7)
def w_law : DTS := dSeq (dSet 1 (dCall sp_l_begin (daCons (dCall sp_l_grown (daCons (dVar 0) (daNil))) (daNil)))) (dSeq (dSet 2 (dCall sp_l_places (daCons (dVar 1) (daCons (dC (.int 3)) (daNil))))) (dSeq (dDrop (dMt "list" gAppend (dVar 2) (daCons (dCall sp_l_boxed (daCons (dVar 1) (daCons (dOp gIx (dVar 2) (dC (.int 0))) (daNil)))) (daNil)))) (dSeq (dDrop (dMt "list" gAppend (dVar 2) (daCons (dCall sp_l_boxed (daCons (dVar 1) (daCons (dCall sp_l_pick (daCons (dVar 1) (daCons (dVar 2) (daNil)))) (daNil)))) (daNil)))) (dFz 2 (dSeq (dSet 3 (dCall sp_l_numbers (daCons (dVar 1) (daCons (dVar 2) (daCons (dC (.int 5)) (daNil)))))) (dSeq (dSet 4 (dDict0)) (w_law_f8)))))))
section
variable {p q u v : Addr} {A : MAd} {f : Tx → Int} {G : GG} {pks : List Tx} {tks : List Tk} {Kb Z L : Nat} {M : Mu} {Q : DK} {E : DX} {x0 x2 x3 x5 x6 x10 x11 x12 x13 x14 x15 x16 : Option D} {D0 : DEnds}
theorem law_c2 (S : S54 p q u v A f G pks tks Kb Z L M) (hK : Kb ≤ 18900) (hL : L ≤ 1000)
    (hn : ∀ M', S54 p q u v A f G pks tks (Kb + 90) (Z + 90) L M' → D0.nx [x0, some (.ref p), x2, x3, some (.ref q), x5, x6, some (.ref A.m), some (.ref u), some (.ref v), x10, x11, x12, x13, x14, x15, x16] M') :
    w_law_c2 D0 [x0, some (.ref p), x2, x3, some (.ref q), x5, x6, some (.ref A.m), some (.ref u), some (.ref v), x10, x11, x12, x13, x14, x15, x16] M := by
  unfold w_law_c2
  walk_at "dl"
  refine ⟨p, q, u, v, A, f, G, pks, tks, Kb, Z, L, rfl, S, by omega, hL, fun M' S' => ?_⟩
  walk_at "dl"
  exact hn M' S'
theorem law_c3 {t : Tk} {kd : Int} {l2 : List Tx} (S : S54 p q u v A f G pks tks Kb Z L M) (hK : Kb + Z ≤ 18000) (hL : L ≤ 900) (lp : pks.length ≤ 9) (ht : t ∈ tks) (t6 : t.l.length ≤ 6) (sl2 : Steps l2) (ll2 : l2.length ≤ 2)
    (hn : ∀ f' pks' x6 x16 M', (pks' = pks ∨ ∃ X, pks' = pks ++ [X]) → S54 p q u v A f' G pks' tks (Kb + Z + 100) (Z + 100) (L + 1) M' → D0.nx [x0, some (.ref p), x2, x3, some (.ref q), some (.str t.x), x6, some (.ref A.m), some (.ref u), some (.ref v), x10, x11, some t.ad, some (.int (t.j : Nat)), some (.int kd), some (.str l2.flatten), x16] M') :
    w_law_c3 D0 [x0, some (.ref p), x2, x3, some (.ref q), some (.str t.x), x6, some (.ref A.m), some (.ref u), some (.ref v), x10, x11, some t.ad, some (.int (t.j : Nat)), some (.int kd), some (.str l2.flatten), x16] M := by
  have o := S.ok t ht
  have pl := S.lp
  obtain ⟨h, k, KS, m, r1, r2, r3, g⟩ := S.mm
  obtain ⟨rv, bv, nv, gv, hm, hr, hx, hnn, hgv, _, _, mp⟩ := id m
  have nd : Nd 8 t.x := ⟨_, _, o.nr, o.ll, o.sl, rfl⟩
  have ndl := nd.len
  unfold w_law_c3
  iterate 10 ((try simp only [S.pk]); walk_at "dl")
  have ed : cut (txs pks) (some (t.j : Int)) none = txs (pks.drop t.j) := by rw [cut_from (by omega), Int.toNat_natCast]; unfold txs; rw [List.map_drop]
  rw [ed]
  refine ⟨t.x, pks.drop t.j, rfl, fun c hc => by have := nd.chars c hc; omega, by omega, fun y hy => ⟨fun c hc => by have := (S.pn y (List.mem_of_mem_drop hy)).chars c hc; omega, by have := (S.pn y (List.mem_of_mem_drop hy)).len; omega⟩, by rw [List.length_drop]; omega, ?_⟩
  have hga := good_at g o
  obtain ⟨gb1, gb2, gj, _⟩ := g.al _ _ _ o.g
  unfold good at hga
  cases z : (pks.drop t.j).all fun y => !ovr t.x y with
  | false =>
    walk_at "dl"
    refine ⟨by decide, pick_ S.src (row := .lst [.str (T "pack"), .str (T "set"), .str (T "number"), .str (T "part")]) rfl (by decide) (by decide) fun d M1 hd s1 => ?_⟩
    obtain ⟨w, hw, rfl⟩ : ∃ w, w ∈ [T "number", T "set", T "part", T "pack"] ∧ d = .str w := by
      simp only [List.mem_cons, List.not_mem_nil, or_false] at hd
      rcases hd with rfl | rfl | rfl | rfl
      · exact ⟨_, by simp, rfl⟩
      · exact ⟨_, by simp, rfl⟩
      · exact ⟨_, by simp, rfl⟩
      · exact ⟨_, by simp, rfl⟩
    have S1 := S.srcTo s1
    obtain ⟨h1, k1, KS1, m1, _, _, _, g1⟩ := S1.mm
    have hg1 := good_at g1 o
    obtain ⟨c1, c2, _⟩ := g1.al _ _ _ o.g
    unfold good at hg1
    rw [z, if_neg (by decide)] at hg1
    walk_at "dl"
    refine ⟨A, t.b, (inL t.l).flatten, w, l2.flatten, rfl, hw, m1.stl c1 c2 hg1 _, ?_⟩
    walk_at "dl"
    exact law_c2 S1 (by omega) (by omega) fun M' S' => hn f pks _ _ M' (.inl rfl) (S'.mono (by omega) (by omega) (by omega))
  | true =>
    rw [z, if_pos rfl] at hga
    have si : Steps (inL t.l) := fun x hx => o.sl x (by rw [← hm_in t.l]; exact List.mem_append_right _ hx)
    have lh := congrArg List.length (hm_in t.l)
    rw [List.length_append] at lh
    have eX : (t.r :: hmL t.l ++ inL t.l ++ l2).flatten = t.x ++ l2.flatten := by
      rw [List.flatten_append, List.cons_append, hm_in, List.flatten_cons]
      rfl
    walk_at "dl"
    split
    · iterate 10 ((try simp only [hm]); walk_at "dl")
      refine ⟨by decide, pack_ok ⟨A, h, k, f, KS, t.b, t.r :: hmL t.l, inL t.l, l2, Z, rfl, m, hga, si, in_dots, sl2, by simp only [List.length_append, List.length_cons]; omega, r3, by omega, by omega, fun h1 k1 h' k' M1 a1 a2 a3 a4 a5 a6 a7 a8 => ?_⟩⟩
      have pk1 := a8.get S.uA S.pk
      have vX : VNode (t.r :: hmL t.l ++ inL t.l ++ l2) := by
        refine ⟨t.r, t.l ++ l2, ?_, o.nr, o.sl.append sl2⟩
        rw [List.cons_append, hm_in, List.cons_append]
      have S1 : S54 p q u v A f G (pks ++ [t.x ++ l2.flatten]) tks (Kb + Z + 10) (Z + 10) L (put M1 u (.lst (txs (pks ++ [t.x ++ l2.flatten])))) := { S with
        src := by
          obtain ⟨ns, w, r, d, e, y⟩ := S.src
          exact ⟨ns, w, r, d, by rw [put_ne S.dj.1]; exact a8.get S.pA e, y⟩
        mm := ⟨h', k', KS, a7.off fun a x ha e => by rw [put_ne fun y => S.uA (by rw [← y]; exact ha)]; exact e, by omega, r2, a6.mono (by omega), by
          have := (g.grow a1).pack vX a3 a4
          rw [eX] at this
          exact this⟩
        nm := by
          obtain ⟨nk, e, r⟩ := S.nm.ex
          exact ⟨nk, by rw [put_ne S.dj.2.2.2.1]; exact a8.get S.qA e, r⟩
        pk := put_same
        tk := by rw [put_ne (Ne.symm S.dj.2.2.1)]; exact a8.get S.vA S.tk
        lp := by rw [List.length_append, List.length_singleton]; omega
        pn := fun y hy => (List.mem_append.mp hy).elim (S.pn y) fun hy => by
          rw [List.mem_singleton.mp hy]
          exact ⟨t.r, t.l ++ l2, o.nr, by rw [List.length_append]; omega, o.sl.append sl2, by unfold Tk.x; rw [List.flatten_append, List.append_assoc]⟩ }
      iterate 10 ((try simp only [pk1]); walk_at "dl")
      have sl9 := sl2.len
      have e1 : txs pks ++ [D.str (t.x ++ l2.flatten)] = txs (pks ++ [t.x ++ l2.flatten]) := by rw [txs_app]; rfl
      rw [e1]
      refine ⟨by omega, by rw [txs, List.length_map]; omega, ?_⟩
      exact law_c2 S1 (by omega) (by omega) fun M' S' => hn f _ _ _ M' (.inr ⟨_, rfl⟩) (S'.mono (by omega) (by omega) (by omega))
    · walk_at "dl"
      refine draw_ S.src (by decide) (by decide) fun n M1 n0 n1 s1 => ?_
      have S1 := S.srcTo s1
      obtain ⟨h1, k1, KS1, m1, q1, q2, q3, g1⟩ := S1.mm
      have hg1 := good_at g1 o
      unfold good at hg1
      rw [z, if_pos rfl] at hg1
      obtain ⟨_, _, _, _, hm1, _⟩ := id m1
      iterate 10 ((try simp only [hm1]); walk_at "dl")
      refine ⟨by decide, set_number_ok ⟨A, h1, k1, f, KS1, t.b, t.r :: hmL t.l, inL t.l, l2, n, rfl, m1, by omega, hg1, si, in_dots, sl2, by simp only [List.length_append, List.length_cons]; omega, by omega, fun h2 k2 M2 b1 b2 b3 b4 => ?_⟩⟩
      obtain ⟨_, _, _, _, hm2, _, _, _, _, _, _, mp2⟩ := id b3
      iterate 10 ((try simp only [hm2]); walk_at "dl")
      refine ⟨by decide, number_ok ⟨A, h2, k2, _, _, t.b, t.r :: hmL t.l, inL t.l, l2, rfl, b3, b1.up _ _ hg1, si, in_dots, sl2, by simp only [List.length_append, List.length_cons]; omega, by omega, fun h3 k3 M3 c1 c2 c3 c4 => ?_⟩⟩
      obtain ⟨_, _, _, _, hm3, _, _, _, _, _, _, mp3⟩ := id c3
      have ef : updF f (t.r :: hmL t.l ++ inL t.l ++ l2).flatten n (t.r :: hmL t.l ++ inL t.l ++ l2).flatten = n := by unfold updF; rw [if_pos rfl]
      rw [ef]
      walk_at "dl"
      refine same_int ?_
      rw [eX] at c3
      obtain ⟨nk, n1, n2, n3, n4, n5⟩ := S1.nm.ex
      have n1' := c4.get S1.qA (b4.get S1.qA n1)
      have sl9 := sl2.len
      have hz2 := b1.homes mp2.hm q3
      have hz3 := (c1.homes mp3.hm hz2).mono (Z' := Z + 10) (by omega)
      have S4 : S54 p q u v A (updF f (t.x ++ l2.flatten) n) G pks tks (Kb + Z + 10) (Z + 10) (L + 1) (put M3 q (.dK (putD (nk.map kvD) (.inr (t.x ++ l2.flatten)) (.int n)))) := { S1 with
        src := by
          obtain ⟨ns, w, r, d, e, y⟩ := S1.src
          exact ⟨ns, w, r, d, by rw [put_ne (Ne.symm S1.qp)]; exact c4.get S1.pA (b4.get S1.pA e), y⟩
        mm := ⟨h3, k3, _, c3.off fun a x ha e => by rw [put_ne fun y => S1.qA (by rw [← y]; exact ha)]; exact e, by omega, by rw [List.length_append, List.length_singleton]; omega, hz3, (g1.grow b1).grow c1⟩
        nm := num_put n2 n3 n4 n5 _ n
        pk := by rw [put_ne (Ne.symm S1.dj.2.2.2.1)]; exact c4.get S1.uA (b4.get S1.uA S1.pk)
        tk := by rw [put_ne (Ne.symm S1.dj.2.2.2.2)]; exact c4.get S1.vA (b4.get S1.vA S1.tk) }
      iterate 10 ((try simp only [n1']); walk_at "dl")
      rw [List.length_map]
      refine ⟨by omega, by omega, ?_⟩
      exact law_c2 S4 (by omega) (by omega) fun M' S' => hn _ _ _ _ M' (.inl rfl) (S'.mono (by omega) (by omega) (by omega))
def BlkI (pks : List Tx) (tks : List Tk) : Prop := ∀ (k j : Nat) (t s : Tk), j < k → tks[k]? = some t → tks[j]? = some s → decide (t.b = s.b) = blkG pks t s
theorem BlkI.nil {pks : List Tx} : BlkI pks [] := fun k j t s _ h _ => by simp at h
theorem BlkI.pack (B : BlkI pks tks) (hj : ∀ t ∈ tks, t.j ≤ pks.length) (X : Tx) : BlkI (pks ++ [X]) tks := fun k j t s l h1 h2 => by
  rw [blk_pack (hj t (List.mem_of_getElem? h1))]
  exact B k j t s l h1 h2
theorem BlkI.add {h : Nat → Option (List Tx)} {k : Nat} (B : BlkI pks tks) (g : GOk G h k pks) (hk : Hm h k) (ok : ∀ t ∈ tks, TkOk G t) {t : Tk} (nr : Nm t.r) (sl : Steps t.l) (hj : t.j = pks.length) (ht : h t.b = some (t.r :: hmL t.l)) : BlkI pks (tks ++ [t]) := fun a b x s l h1 h2 => by
  by_cases e : a < tks.length
  · rw [List.getElem?_append_left e] at h1
    rw [List.getElem?_append_left (by omega)] at h2
    exact B a b x s l h1 h2
  · have la := (List.getElem?_eq_some_iff.mp h1).1
    rw [List.length_append, List.length_singleton] at la
    have ea : a = tks.length := by omega
    subst ea
    rw [List.getElem?_append_right (Nat.le_refl _), Nat.sub_self] at h1
    injection h1 with h1
    subst h1
    rw [List.getElem?_append_left l] at h2
    exact blk_add g hk (ok s (List.mem_of_getElem? h2)) nr sl hj ht
structure In54 (p q u v : Addr) (A : MAd) (i : Nat) (M : Mu) : Prop where
  ex : ∃ (f : Tx → Int) (G : GG) (pks : List Tx) (tks : List Tk), S54 p q u v A f G pks tks (150 + 820 * i) (150 + 110 * i) (8 + i) M ∧ pks.length ≤ i ∧ tks.length ≤ i ∧ (∀ t ∈ tks, t.l.length ≤ 6) ∧ BlkI pks tks
theorem law_b4 {ts : List Tx} {i : Nat} (I : In54 p q u v A i M) (hi : i ≤ 4) (ht : ∀ t ∈ ts, Nd 6 t) (l0 : 0 < ts.length) (l1 : ts.length ≤ 100)
    (hn : ∀ x5 x6 x10 x11 x12 x13 x14 x15 x16 M', In54 p q u v A (i + 1) M' → D0.nx [x0, some (.ref p), some (.lst (txs ts)), x3, some (.ref q), x5, x6, some (.ref A.m), some (.ref u), some (.ref v), x10, x11, x12, x13, x14, x15, x16] M') :
    w_law_b4 D0 [x0, some (.ref p), some (.lst (txs ts)), x3, some (.ref q), x5, x6, some (.ref A.m), some (.ref u), some (.ref v), x10, x11, x12, x13, x14, x15, x16] M := by
  obtain ⟨f, G, pks, tks, S, lp, lt, t6, B⟩ := I.ex
  have ltx : (txs ts).length = ts.length := by rw [txs, List.length_map]
  unfold w_law_b4
  walk_at "dl"
  refine pick_ S.src (row := .lst (txs ts)) rfl (by rw [ltx]; exact l0) (by rw [ltx]; omega) fun d M1 hd s1 => ?_
  obtain ⟨w, hw, rfl⟩ := List.mem_map.mp hd
  obtain ⟨r, l, nr, ll, sl, rfl⟩ := ht w hw
  have S1 := S.srcTo s1
  obtain ⟨_, _, _, m1, _⟩ := S1.mm
  obtain ⟨_, _, _, _, hm1, _⟩ := id m1
  iterate 10 ((try simp only [hm1]); walk_at "dl")
  refine ⟨by decide, S1.loc nr sl (by omega) (by omega) fun b H2 L2 M2 ⟨h2, k2, KS2, m2, r1, r2, r3, g2, r4⟩ a5 a6 a7 S2 of2 => ?_⟩
  obtain ⟨_, _, _, _, hm2, _, _, _, _, _, _, mp2⟩ := id m2
  have hH2 := mp2.hm.sh _ _ r4
  have vH2 := (mp2.hv _ _ r4).1
  have bb := mp2.hm.le _ _ r4
  obtain ⟨rfl, rfl⟩ := hm_hmL hH2 a6 a7
  walk_at "dl"
  refine ⟨b, r, l, rfl, nr, sl, by omega, ?_⟩
  iterate 10 ((try simp only [S2.tk, S2.pk]); walk_at "dl")
  have lt0 : (txs pks).length = pks.length := by rw [txs, List.length_map]
  rw [lt0, List.length_map]
  refine ⟨by decide, by omega, ?_⟩
  have e2 : tks.map Tk.d ++ [D.lst [.str (r ++ l.flatten), D.tup [.int (b : Nat), .str (inL l).flatten], .int (pks.length : Nat)]] = (tks ++ [Tk.mk r l b pks.length]).map Tk.d := by rw [List.map_append]; rfl
  rw [e2]
  have lA : (tks ++ [Tk.mk r l b pks.length]).length = tks.length + 1 := by rw [List.length_append, List.length_singleton]
  have S3 : S54 p q u v A f (addG G b (r :: hmL l) pks.length) pks (tks ++ [Tk.mk r l b pks.length]) (150 + 820 * i + 9) (150 + 110 * i + 9) (8 + i) (put M2 v (.lst ((tks ++ [Tk.mk r l b pks.length]).map Tk.d))) := { S2 with
    src := by
      obtain ⟨ns, w, r, d, e, y⟩ := S2.src
      exact ⟨ns, w, r, d, by rw [put_ne S2.dj.2.1]; exact e, y⟩
    mm := ⟨h2, k2, KS2, m2.off fun a x ha e => by rw [put_ne fun y => S2.vA (by rw [← y]; exact ha)]; exact e, r1, r2, r3, g2.add r4 bb.1 bb.2 vH2 hH2⟩
    nm := by
      obtain ⟨nk, e, r⟩ := S2.nm.ex
      exact ⟨nk, by rw [put_ne S2.dj.2.2.2.2]; exact e, r⟩
    pk := by rw [put_ne S2.dj.2.2.1]; exact S2.pk
    tk := put_same
    lt := by omega
    ok := fun t ht => by
      rcases List.mem_append.mp ht with ht | ht
      · have o := S2.ok t ht
        exact ⟨o.nr, o.sl, o.ll, .inl o.g⟩
      · rw [List.mem_singleton.mp ht]
        exact ⟨nr, sl, by show l.length ≤ 8; omega, .inr ⟨rfl, rfl, rfl⟩⟩ }
  have B3 : BlkI pks (tks ++ [Tk.mk r l b pks.length]) := B.add g2 mp2.hm S2.ok nr sl rfl r4
  have t63 : ∀ t ∈ tks ++ [Tk.mk r l b pks.length], t.l.length ≤ 6 := fun t ht => by
    rcases List.mem_append.mp ht with ht | ht
    · exact t6 t ht
    · rw [List.mem_singleton.mp ht]; exact ll
  have j3 : ∀ t ∈ tks ++ [Tk.mk r l b pks.length], t.j ≤ pks.length := fun t ht => by
    obtain ⟨_, _, _, _, _, _, _, g⟩ := S3.mm
    exact (g.al _ _ _ (S3.ok t ht).g).2.2.1
  refine ⟨p, .ref v, _, rfl, rowI_ref (Ne.symm S.dj.2.1) put_same, by rw [List.length_map]; omega, by rw [List.length_map]; omega, S3.src, fun d M4 hd s4 => ?_⟩
  obtain ⟨t, ht3, rfl⟩ := List.mem_map.mp hd
  have S4 := S3.srcTo s4
  have fin : ∀ {kd : Int} (x : Tx) {x10 x11 x16 : Option D} M', Tl 2 x → S54 p q u v A f (addG G b (r :: hmL l) pks.length) pks (tks ++ [Tk.mk r l b pks.length]) (150 + 820 * i + 9) (150 + 110 * i + 9) (8 + i) M' →
      w_law_c3 D0 [x0, some (.ref p), some (.lst (txs ts)), x3, some (.ref q), some (.str t.x), x6, some (.ref A.m), some (.ref u), some (.ref v), x10, x11, some t.ad, some (.int (t.j : Nat)), some (.int kd), some (.str x), x16] M' := fun {kd} x {x10 x11 x16} M' hx S' => by
    obtain ⟨l2, ll2, sl2, rfl⟩ := hx
    refine law_c3 S' (by omega) (by omega) (by omega) ht3 (t63 t ht3) sl2 ll2 fun f' pks' x6 x16 M7 hp S7 => hn _ _ _ _ _ _ _ _ _ M7 ⟨f', _, pks', _, S7.mono (by omega) (by omega) (by omega), ?_, by omega, t63, ?_⟩
    · rcases hp with rfl | ⟨X, rfl⟩
      · omega
      · rw [List.length_append, List.length_singleton]; omega
    · rcases hp with rfl | ⟨X, rfl⟩
      · exact B3
      · exact B3.pack j3 X
  unfold Tk.d
  walk_at "dl"
  refine draw_ S4.src (by decide) (by decide) fun kd M5 k0 k1 s5 => ?_
  have S5 := S4.srcTo s5
  walk_at "dl"
  refine draw_ S5.src (by decide) (by decide) fun e M6 e0 e1 s6 => ?_
  have S6 := S5.srcTo s6
  walk_at "dl"
  split
  · refine ⟨p, 2, rfl, S6.src, by decide, by decide, fun x M7 hx s7 => ?_⟩
    have S7 := S6.srcTo s7
    walk_at "dl"
    exact fin x M7 hx S7
  · exact fin [] M6 ⟨[], by decide, Steps.nil, rfl⟩ S6
theorem law_f6 {ts : List Tx} (I : In54 p q u v A 0 M) (ht : ∀ t ∈ ts, Nd 6 t) (l0 : 0 < ts.length) (l1 : ts.length ≤ 100) (hQ : ∀ M', Q (.bl true) M') :
    w_law_f6 (Ret Q E) [x0, some (.ref p), some (.lst (txs ts)), x3, some (.ref q), x5, x6, some (.ref A.m), some (.ref u), some (.ref v), x10, x11, x12, x13, x14, x15, x16] M := by
  unfold w_law_f6
  walk_at "dl"
  obtain ⟨f, G, pks, tks, S, lp, lt, t6, B⟩ := I.ex
  refine draw_ S.src (by decide) (by decide) fun c M1 c0 c1 s1 => ?_
  have I1 : In54 p q u v A 0 M1 := ⟨f, G, pks, tks, S.srcTo s1, lp, lt, t6, B⟩
  walk_at "dl"
  refine ⟨by omega, by omega, ?_⟩
  refine wFor_by (fun i τ M' => (∃ x5 x6 x10 x11 x12 x13 x14 x15 x16, τ = [x0, some (.ref p), some (.lst (txs ts)), x3, some (.ref q), x5, x6, some (.ref A.m), some (.ref u), some (.ref v), x10, x11, x12, x13, x14, x15, x16]) ∧ In54 p q u v A i M') ⟨⟨_, _, _, _, _, _, _, _, _, rfl⟩, I1⟩ ?_ ?_
  · rintro i d τ M' hd ⟨⟨x5, x6, x10, x11, x12, x13, x14, x15, x16, rfl⟩, I2⟩ nxt hnx
    obtain ⟨rfl, hi⟩ := upTo_at hd
    walk_at "dl"
    exact law_b4 I2 (by omega) ht l0 l1 fun x5 x6 x10 x11 x12 x13 x14 x15 x16 M3 I3 => hnx _ _ ⟨⟨_, _, _, _, _, _, _, _, _, rfl⟩, I3⟩
  · rintro τ M' ⟨⟨x5, x6, x10, x11, x12, x13, x14, x15, x16, rfl⟩, I2⟩
    obtain ⟨f, G, pks, tks, S, lp, lt, t6, B⟩ := I2.ex
    obtain ⟨_, _, _, _, _, _, _, g⟩ := S.mm
    unfold w_law_c5
    walk_at "dl"
    exact ⟨u, v, pks, tks, rfl, S.pk, S.tk, S.lp, S.lt, S.pn, fun t ht => ⟨(S.ok t ht).nr, (S.ok t ht).sl, (S.ok t ht).ll, (g.al _ _ _ (S.ok t ht).g).2.2.1⟩, B, hQ M'⟩
theorem law_c7 {x7 x8 x9 : Option D} {ts : List Tx} {ps : List (Tx × Int)} (hs : Src M p) (lp : ps.length ≤ 5) (hp : ∀ y ∈ ps, Nd 6 y.1) (hn : NumAt M q (lastF ps) 8) (ht : ∀ t ∈ ts, Nd 6 t) (l0 : 0 < ts.length) (l1 : ts.length ≤ 100) (hQ : ∀ M', Q (.bl true) M') :
    w_law_c7 (Ret Q E) [x0, some (.ref p), some (.lst (txs ts)), some (.lst (ps.map pD)), some (.ref q), x5, x6, x7, x8, x9, x10, x11, x12, x13, x14, x15, x16] M := by
  unfold w_law_c7
  walk_at "dl"
  intro g hg
  walk_at "dl"
  intro a ha
  have nga : g ≠ a := fun z => by rw [← z, put_same] at ha; cases ha
  have ha0 : M a = none := by rw [put_ne (Ne.symm nga)] at ha; exact ha
  have xa : Xt (put M g (.lst (ps.map pD))) (put (put M g (.lst (ps.map pD))) a (.ins "Memory" [])) := Xt.new ha
  have xg : Xt M (put M g (.lst (ps.map pD))) := Xt.new hg
  refine ⟨a, g, ps, rfl, put_same, xa _ _ put_same, fun y hy => (hp y hy).mono (by decide), by omega, fun A h k M1 am ar ax an ag m1 hk keep => ?_⟩
  have old : ∀ b o, M b = some o → M1 b = some o := fun b o e => keep b o (fun z => by rw [z, ha0] at e; cases e) (xa b o (xg b o e))
  obtain ⟨_, _, _, _, hm1, hr1, hx1, hn1, hg1, _, _, mp⟩ := id m1
  have hA : ∀ z, M1 z = none → z ∉ adL A := fun z hz hq => by
    simp only [adL, List.mem_cons, List.not_mem_nil, or_false] at hq
    rcases hq with rfl | rfl | rfl | rfl | rfl
    · rw [hm1] at hz; cases hz
    · rw [hr1] at hz; cases hz
    · rw [hx1] at hz; cases hz
    · rw [hn1] at hz; cases hz
    · rw [hg1] at hz; cases hz
  have qA : q ∉ adL A := fun hq => by
    obtain ⟨nk, e, _⟩ := hn.ex
    have e2 := xa _ _ (xg _ _ e)
    simp only [adL, List.mem_cons, List.not_mem_nil, or_false] at hq
    rcases hq with rfl | rfl | rfl | rfl | rfl
    · rw [am, ha0] at e; cases e
    · rw [ar] at e2; cases e2
    · rw [ax] at e2; cases e2
    · rw [an] at e2; cases e2
    · rw [ag] at e2; cases e2
  rw [← am]
  walk_at "dl"
  refine ⟨by decide, fun u hu => ⟨by decide, fun v hv => ?_⟩⟩
  have nvu : u ≠ v := fun z => by rw [z, put_same] at hv; cases hv
  have hv1 : M1 v = none := by rw [put_ne (Ne.symm nvu)] at hv; exact hv
  have x2 : Xt M1 (put (put M1 u (.lst [])) v (.lst [])) := (Xt.new hu).trans (Xt.new hv)
  have sp := xt_src old hs
  have nq := hn.xt old
  have np : ∀ z, M1 z = none → p ≠ z := fun z hz y => by
    obtain ⟨ns, t, r, d, e, _⟩ := sp
    rw [y, hz] at e; cases e
  have nqz : ∀ z, M1 z = none → q ≠ z := fun z hz y => by
    obtain ⟨nk, e, _⟩ := nq.ex
    rw [y, hz] at e; cases e
  have g0 : GOk (fun _ _ _ => False) h k [] := ⟨fun X hX => absurd hX List.not_mem_nil, fun _ _ _ g => g.elim⟩
  have S : S54 p q u v A (lastF ps) (fun _ _ _ => False) [] [] 150 150 8 (put (put M1 u (.lst [])) v (.lst [])) :=
    { src := xt_src x2 sp
      mm := ⟨h, k, _, m1.xt x2, by omega, by rw [List.length_map]; omega, (HomesLe.of mp.hm).mono (by omega), g0⟩
      nm := nq.xt x2
      pk := by rw [put_ne nvu]; exact put_same
      tk := put_same
      lp := by decide
      pn := fun y hy => absurd hy List.not_mem_nil
      lt := by decide
      ok := fun t ht => absurd ht List.not_mem_nil
      qA := qA
      uA := hA u hu
      vA := hA v hv1
      dj := ⟨np u hu, np v hv1, nvu, nqz u hu, nqz v hv1⟩ }
  exact law_f6 ⟨lastF ps, _, [], [], S, Nat.le_refl _, Nat.le_refl _, fun t ht => absurd ht List.not_mem_nil, BlkI.nil⟩ ht l0 l1 hQ
theorem law_c9 {x7 x8 x9 : Option D} {ts : List Tx} {ps : List (Tx × Int)} {M1 : Mu} (s1 : Src M1 p) (lp : (ps.length : Int) ≤ 5) (hp : ∀ y ∈ ps, Nd 6 y.1) (hq : M1 q = none) (l0 : 0 < ts.length) (l1 : ts.length ≤ 5) (ht : ∀ t ∈ ts, Nd 6 t) (hQ : ∀ M', Q (.bl true) M') :
    w_law_f8 (Ret Q E) [x0, some (.ref p), some (.lst (txs ts)), some (.lst (ps.map pD)), some (.ref q), x5, x6, x7, x8, x9, x10, x11, x12, x13, x14, x15, x16] (put M1 q (.dK [])) := by
  have lp2 : ps.length ≤ 5 := by omega
  unfold w_law_f8
  walk_at "dl"
  obtain ⟨ns, t, r, d, e, z⟩ := s1
  have nqp : p ≠ q := fun y => by rw [y, hq] at e; cases e
  refine wFor_by (fun i τ M' => (∃ x5 x6, τ = [x0, some (.ref p), some (.lst (txs ts)), some (.lst (ps.map pD)), some (.ref q), x5, x6, x7, x8, x9, x10, x11, x12, x13, x14, x15, x16]) ∧ (∀ b, b ≠ q → M' b = M1 b) ∧ NumAt M' q (lastF (ps.take i)) i) ⟨⟨_, _, rfl⟩, fun b hb => put_ne hb, num_nil put_same⟩ ?_ ?_
  · rintro i d τ M' hd ⟨⟨x5, x6, rfl⟩, hb, hn⟩ nxt hnx
    obtain ⟨⟨u, m⟩, hx, rfl⟩ := map_at hd
    obtain ⟨nk, h1, h2, h3, h4, h5⟩ := hn.ex
    have hi := (List.getElem?_eq_some_iff.mp hx).1
    unfold pD
    walk_at "dl"
    unfold w_law_b1
    iterate 10 ((try simp only [h1]); walk_at "dl")
    rw [List.length_map]
    refine ⟨by omega, hnx _ _ ⟨⟨_, _, rfl⟩, fun b hb2 => by rw [put_ne hb2, hb b hb2], ?_⟩⟩
    have e : lastF (ps.take (i + 1)) = updF (lastF (ps.take i)) u m := by rw [List.take_succ, hx]; exact lastF_snoc _ _
    rw [e]
    exact num_put h2 h3 h4 h5 u m
  · rintro τ M' ⟨⟨x5, x6, rfl⟩, hb, hn⟩
    rw [List.length_map, List.take_length] at hn
    obtain ⟨nk, n1, n2, n3, n4, n5⟩ := hn.ex
    exact law_c7 ⟨ns, t, r, d, by rw [hb p nqp]; exact e, z⟩ lp2 hp ⟨nk, n1, n2, n3, n4, by omega⟩ ht l0 (by omega) hQ
end
theorem p_law : ∀ ds M Q E, sp_law ds M Q E → w_law (Ret Q E) (ds.map some ++ List.replicate (17 - 1) none) M := by
  rintro ds M Q E ⟨ns, rfl, hl, hQ⟩
  unfold w_law
  walk_at "dl"
  refine ⟨ns, rfl, hl, fun ms => ?_⟩
  walk_at "dl"
  refine ⟨ms, rfl, fun p M1 hp s1 => ?_⟩
  walk_at "dl"
  refine ⟨p, 3, rfl, s1.1, by decide, by decide, fun ts h M2 lt hts hh0 nh hh hs2 hb => ?_⟩
  obtain ⟨t0, t1, t2, rfl⟩ : ∃ t0 t1 t2, ts = [t0, t1, t2] := by
    match ts, lt with
    | [t0, t1, t2], _ => exact ⟨t0, t1, t2, rfl⟩
    | [], lt => simp at lt
    | [_], lt => simp at lt
    | [_, _], lt => simp at lt
    | _ :: _ :: _ :: _ :: _, lt => simp at lt; omega
  have n0 := hts t0 (by simp)
  have e0 : atI (txs [t0, t1, t2]) 0 = some (.str t0) := rfl
  iterate 10 ((try simp only [hh, e0]); walk_at "dl")
  refine ⟨p, t0, rfl, n0, hs2, fun y M3 ny s3 => ?_⟩
  have hh3 : M3 h = some (.lst (txs [t0, t1, t2])) := by rw [s3.2 h nh]; exact hh
  iterate 10 ((try simp only [hh3]); walk_at "dl")
  have s4 : Src (put M3 h (.lst (txs [t0, t1, t2, y]))) p := by
    obtain ⟨ns, t, r, d, e, z⟩ := s3.1
    exact ⟨ns, t, r, d, by rw [put_ne (Ne.symm nh)]; exact e, z⟩
  have ht4 : ∀ t ∈ [t0, t1, t2, y], Nd 6 t := fun t ht => by
    rcases List.mem_append.mp (show t ∈ [t0, t1, t2] ++ [y] from ht) with ht | ht
    · exact hts t ht
    · rw [List.mem_singleton.mp ht]; exact ny
  refine ⟨(by decide : 3 < 16777216), p, .ref h, _, rfl, rowI_ref nh put_same, (by decide : 0 < 4), (by decide : 4 < 1000000), s4, fun d M5 hd s5 => ?_⟩
  obtain ⟨w, hw, rfl⟩ : ∃ w, w ∈ [t0, t1, t2, y] ∧ d = .str w := by
    obtain ⟨w, h1, h2⟩ := List.mem_map.mp (show d ∈ txs [t0, t1, t2, y] from hd)
    exact ⟨w, h1, h2.symm⟩
  have hh5 : M5 h = some (.lst (txs [t0, t1, t2, y])) := by rw [s5.2 h nh]; exact put_same
  walk_at "dl"
  refine ⟨p, w, rfl, ht4 w hw, s5.1, fun y2 M6 ny2 s6 => ?_⟩
  have hh6 : M6 h = some (.lst (txs [t0, t1, t2, y])) := by rw [s6.2 h nh]; exact hh5
  iterate 10 ((try simp only [hh6]); walk_at "dl")
  refine ⟨(by decide : 4 < 16777216), ?_⟩
  iterate 10 ((try simp only [put_same]); walk_at "dl")
  have e5 : txs [t0, t1, t2, y] ++ [D.str y2] = txs [t0, t1, t2, y, y2] := rfl
  rw [e5]
  have ht5 : ∀ t ∈ [t0, t1, t2, y, y2], Nd 6 t := fun t ht => by
    rcases List.mem_append.mp (show t ∈ [t0, t1, t2, y] ++ [y2] from ht) with ht | ht
    · exact ht4 t ht
    · rw [List.mem_singleton.mp ht]; exact ny2
  have s7 : Src (del (put M6 h (.lst (txs [t0, t1, t2, y, y2]))) h) p := by
    obtain ⟨ns, t, r, d, e, z⟩ := s6.1
    exact ⟨ns, t, r, d, by rw [del_ne (Ne.symm nh), put_ne (Ne.symm nh)]; exact e, z⟩
  refine ⟨p, [t0, t1, t2, y, y2], 5, rfl, s7, (by decide : 0 < 5), (by decide : 5 ≤ 100), ht5, by decide, by decide, fun ps M8 lp hp s8 => ?_⟩
  walk_at "dl"
  intro q hq
  exact law_c9 s8.1 lp hp hq (by decide : 0 < 5) (by decide : 5 ≤ 5) ht5 hQ
end DL
namespace Lw
open PySem L2 DL
local macro_rules | `(tactic| walk_at "sl") => `(tactic| (intro ds M Q E h; first | (obtain ⟨g, _⟩ := h; subst g; rfl) | (obtain ⟨_, g, _⟩ := h; subst g; rfl) | (obtain ⟨_, _, g, _⟩ := h; subst g; rfl) | (obtain ⟨_, _, _, g, _⟩ := h; subst g; rfl) | (obtain ⟨_, _, _, _, g, _⟩ := h; subst g; rfl) | (obtain ⟨_, _, _, _, _, g, _⟩ := h; subst g; rfl) | (obtain ⟨_, _, _, _, _, _, g, _⟩ := h; subst g; rfl) | (obtain ⟨_, _, _, _, _, _, _, g, _⟩ := h; subst g; rfl) | (obtain ⟨_, _, _, _, _, _, _, _, g, _⟩ := h; subst g; rfl) | (obtain ⟨_, _, _, _, _, _, _, _, _, g, _⟩ := h; subst g; rfl) | (obtain ⟨_, _, _, _, _, _, _, _, _, _, g, _⟩ := h; subst g; rfl) | (obtain ⟨_, _, _, _, _, _, _, _, _, _, _, g, _⟩ := h; subst g; rfl) | (obtain ⟨_, _, _, _, _, _, _, _, _, _, _, _, g, _⟩ := h; subst g; rfl) | (obtain ⟨_, _, _, _, _, _, _, _, _, _, _, _, _, g, _⟩ := h; subst g; rfl) | (obtain ⟨_, _, _, _, _, _, _, _, _, _, _, _, _, _, g, _⟩ := h; subst g; rfl) | (obtain ⟨_, _, _, _, _, _, _, _, _, _, _, _, _, _, _, g, _⟩ := h; subst g; rfl) | (obtain ⟨_, _, _, _, _, _, _, _, _, _, _, _, _, _, _, _, g, _⟩ := h; subst g; rfl) | (obtain ⟨_, _, _, _, _, _, _, _, _, _, _, _, _, _, _, _, _, g, _⟩ := h; subst g; rfl) | (obtain ⟨_, _, _, _, _, _, _, _, _, _, _, _, _, _, _, _, _, _, g, _⟩ := h; subst g; rfl) | (obtain ⟨_, _, _, _, _, _, _, _, _, _, _, _, _, _, _, _, _, _, _, g, _⟩ := h; subst g; rfl) | (obtain ⟨_, _, _, _, _, _, _, _, _, _, _, _, _, _, _, _, _, _, _, _, g, _⟩ := h; subst g; rfl) | (obtain ⟨_, _, _, _, _, _, _, _, _, _, _, _, _, _, _, _, _, _, _, _, _, g, _⟩ := h; subst g; rfl)))
local macro_rules | `(tactic| walk_at "sz") => `(tactic| (intro ds M tn dn g E bd h; first | (obtain ⟨g, _⟩ := h; subst g; rfl) | (obtain ⟨_, g, _⟩ := h; subst g; rfl) | (obtain ⟨_, _, g, _⟩ := h; subst g; rfl) | (obtain ⟨_, _, _, g, _⟩ := h; subst g; rfl) | (obtain ⟨_, _, _, _, g, _⟩ := h; subst g; rfl) | (obtain ⟨_, _, _, _, _, g, _⟩ := h; subst g; rfl) | (obtain ⟨_, _, _, _, _, _, g, _⟩ := h; subst g; rfl) | (obtain ⟨_, _, _, _, _, _, _, g, _⟩ := h; subst g; rfl) | (obtain ⟨_, _, _, _, _, _, _, _, g, _⟩ := h; subst g; rfl) | (obtain ⟨_, _, _, _, _, _, _, _, _, g, _⟩ := h; subst g; rfl) | (obtain ⟨_, _, _, _, _, _, _, _, _, _, g, _⟩ := h; subst g; rfl) | (obtain ⟨_, _, _, _, _, _, _, _, _, _, _, g, _⟩ := h; subst g; rfl) | (obtain ⟨_, _, _, _, _, _, _, _, _, _, _, _, g, _⟩ := h; subst g; rfl) | (obtain ⟨_, _, _, _, _, _, _, _, _, _, _, _, _, g, _⟩ := h; subst g; rfl) | (obtain ⟨_, _, _, _, _, _, _, _, _, _, _, _, _, _, g, _⟩ := h; subst g; rfl) | (obtain ⟨_, _, _, _, _, _, _, _, _, _, _, _, _, _, _, g, _⟩ := h; subst g; rfl) | (obtain ⟨_, _, _, _, _, _, _, _, _, _, _, _, _, _, _, _, g, _⟩ := h; subst g; rfl) | (obtain ⟨_, _, _, _, _, _, _, _, _, _, _, _, _, _, _, _, _, g, _⟩ := h; subst g; rfl) | (obtain ⟨_, _, _, _, _, _, _, _, _, _, _, _, _, _, _, _, _, _, g, _⟩ := h; subst g; rfl) | (obtain ⟨_, _, _, _, _, _, _, _, _, _, _, _, _, _, _, _, _, _, _, g, _⟩ := h; subst g; rfl) | (obtain ⟨_, _, _, _, _, _, _, _, _, _, _, _, _, _, _, _, _, _, _, _, g, _⟩ := h; subst g; rfl) | (obtain ⟨_, _, _, _, _, _, _, _, _, _, _, _, _, _, _, _, _, _, _, _, _, g, _⟩ := h; subst g; rfl)))
local macro_rules | `(tactic| walk_at "hm") => `(tactic| first | exact nomark _ | rfl | with_unfolding_all rfl)
local macro_rules | `(tactic| walk_at "sc") => `(tactic| exact ⟨rfl, rfl, rfl, by decide +kernel, rfl, by decide +kernel, by decide +kernel⟩)
structure Md (w : World) (K : PySem.W.Frag) (mg : Str → Option Value) : Prop where
  n_ValueError : mg "ValueError" = none
  n_all : mg "all" = none
  n_bool : mg "bool" = none
  n_int : mg "int" = none
  n_isinstance : mg "isinstance" = none
  n_len : mg "len" = none
  n_list : mg "list" = none
  n_min : mg "min" = none
  n_range : mg "range" = none
  n_sorted : mg "sorted" = none
  n_str : mg "str" = none
  n_super : mg "super" = none
  n_tuple : mg "tuple" = none
  c_LETTERS : ∃ t, mg "LETTERS" = some (.str "abcdefghijklmnopqrstuvwxyz" t)
  c_MARKS : ∃ t, mg "MARKS" = some (.str ".^" t)
  c_MOST_LETTERS : ∃ t, mg "MOST_LETTERS" = some (.int 8 t)
  mk_Memory : Mk K (He.ga K "Memory") (He.ma K (He.ga K "Memory") "__init__")
  k_Memory : mg "Memory" = some (.ref (He.ga K "Memory"))
  cls_Memory : Cls K (He.ga K "Memory")
  na_Memoryroots : NoAttr K (He.ga K "Memory") "_roots"
  na_Memoryboxes : NoAttr K (He.ga K "Memory") "_boxes"
  na_Memorynumbers : NoAttr K (He.ga K "Memory") "_numbers"
  na_Memorygone : NoAttr K (He.ga K "Memory") "_gone"
  na_Memorymade : NoAttr K (He.ga K "Memory") "_made"
  k_Stale : mg "Stale" = some (.ref (He.ga K "Stale"))
  errT_all : DL.ErrT K ["Stale"] ["Stale", "LentError"]
  errno_address : ∀ C ∈ (["Stale"] : List Str), PySem.W.findIn K (.ref (He.ga K C)) "address" = some none
  k_LentError : mg "LentError" = some (.ref (He.ga K "LentError"))
section
variable {P : Program} {w : World} {K : PySem.W.Frag} {mg : Str → Option Value} {base : Heap}
theorem sc_l_begin : FnScope ["_law_script"] ["_law_script"] (defScope s_l_begin) := by walk_at "sc"
theorem ok_l_begin {f : Addr} {fd : FuncData} (F : FunD K "_law_begin" "_law_begin" (defArgs s_l_begin) (defBody s_l_begin) (defScope s_l_begin) [] [] f fd) (B : Md w K mg)  : FnOk P w K mg base (L2N.CX P w) (1) f fd ["_law_script"] (lsp K sp_l_begin) :=
  def_ok (N := ["_law_script"]) (k := 0) (t := w_l_begin) F sc_l_begin (by walk_at "sl")
    (fun cdv A outer s H E G hr => by exact dss_one (ds_ret (de_lstM (da_cons (de_callTy cb_list call_list_of B.n_list PyProof.Rows.boot_list (da_cons (de_var 0) (da_nil))) (da_cons (de_int) (da_cons (de_un un_neg ud_neg (de_int)) (da_cons (de_int) (da_nil)))))))) p_l_begin
theorem sc_l_grown : FnScope ["_law_script", "_law_rows", "_law_mixed", "_law_number", "_law_k"] ["_law_script"] (defScope s_l_grown) := by walk_at "sc"
theorem ok_l_grown {f : Addr} {fd : FuncData} (F : FunD K "_law_grown" "_law_grown" (defArgs s_l_grown) (defBody s_l_grown) (defScope s_l_grown) [] [] f fd) (B : Md w K mg)  : FnOk P w K mg base (L2N.CX P w) (1) f fd ["_law_script"] (lsp K sp_l_grown) :=
  def_ok (N := ["_law_script", "_law_rows", "_law_mixed", "_law_number", "_law_k"]) (k := 0) (t := w_l_grown) F sc_l_grown (by walk_at "sl")
    (fun cdv A outer s H E G hr => by exact dss_cons (ds_set 1 G (de_callTy cb_listM call_list_of B.n_list PyProof.Rows.boot_list (da_cons (de_var 0) (da_nil)))) (dss_cons (ds_set 2 G (de_int)) (dss_cons (ds_for G (di_scr (de_var 0)) (dg_name 3 G.nd) (dss_one (ds_set 2 G (de_op op_mod od_mod (de_callTy cb_int call_int1 B.n_int PyProof.Rows.boot_int (da_cons (de_op op_addA od_add (de_op op_mul od_mul (de_var 2) (de_int)) (de_var 3)) (da_nil))) (de_int))))) (dss_cons (ds_if (dt_cmp op_gt od_b (de_callB cb_len call_lenA B.n_len PySem.boot_len (da_cons (de_var 0) (da_nil))) (de_int) (by walk_at "hm")) (dss_one (ds_for G (di_rng1 B.n_range (da_cons (de_int) (da_nil))) (dg_name 4 G.nd) (dss_cons (ds_set 2 G (de_op op_mod od_mod (de_callTy cb_int call_int1 B.n_int PyProof.Rows.boot_int (da_cons (de_op op_addA od_add (de_op op_addA od_add (de_op op_mul od_mul (de_var 2) (de_int)) (de_op op_mul od_mul (de_var 4) (de_int))) (de_int)) (da_nil))) (de_int))) (dss_one (ds_expr (de_mt PySem.F.plainAttrs_list PySem.F.slot_list_append PySem.F.type_list_append md_append mt_append (de_var 1) (da_cons (de_var 2) (da_nil)))))))) (dss_nil)) (dss_one (ds_ret (de_frz (de_var 1)))))))) p_l_grown
theorem sc_l_draw : FnScope ["_law_source", "_law_size", "_law_number", "_law_drawn", "_law_mixed"] ["_law_source", "_law_size"] (defScope s_l_draw) := by walk_at "sc"
theorem ok_l_draw {f : Addr} {fd : FuncData} (F : FunD K "_law_draw" "_law_draw" (defArgs s_l_draw) (defBody s_l_draw) (defScope s_l_draw) [] [] f fd) (B : Md w K mg)  : FnOk P w K mg base (L2N.CX P w) (1) f fd ["_law_source", "_law_size"] (lsp K sp_l_draw) :=
  def_ok (N := ["_law_source", "_law_size", "_law_number", "_law_drawn", "_law_mixed"]) (k := 0) (t := w_l_draw) F sc_l_draw (by walk_at "sl")
    (fun cdv A outer s H E G hr => by exact dss_cons (ds_if (dt_cmp op_ge od_b (de_ix G (de_var 0) (de_int)) (de_callB cb_len call_lenA B.n_len PySem.boot_len (da_cons (de_ix G (de_var 0) (de_int)) (da_nil))) (by walk_at "hm")) (dss_one (ds_ret (de_int))) (dss_nil)) (dss_cons (ds_set 2 G (de_ix G (de_ix G (de_var 0) (de_int)) (de_ix G (de_var 0) (de_int)))) (dss_cons (ds_if (dt_cmp op_lt od_b (de_var 2) (de_int) (by walk_at "hm")) (dss_one (ds_set 2 G (de_op op_sub od_sub (de_un un_neg ud_neg (de_int)) (de_var 2)))) (dss_nil)) (dss_cons (ds_if (dt_cmp op_lt od_b (de_ix G (de_var 0) (de_int)) (de_int) (by walk_at "hm")) (dss_cons (ds_asg (de_var 2) (dg_setA G (de_var 0) (de_int))) (dss_one (ds_asg (de_int) (dg_setA G (de_var 0) (de_int))))) (dss_nil)) (dss_cons (ds_asg (de_op op_addA od_add (de_ix G (de_var 0) (de_int)) (de_int)) (dg_setA G (de_var 0) (de_int))) (dss_cons (ds_if (dt_cmp op_ge od_b (de_var 2) (de_op op_pow od_pow (de_int) (de_int)) (by walk_at "hm")) (dss_cons (ds_set 3 G (de_op op_mod od_mod (de_callTy cb_int call_int1 B.n_int PyProof.Rows.boot_int (da_cons (de_ix G (de_var 0) (de_int)) (da_nil))) (de_var 1))) (dss_cons (ds_asg (de_op op_fdiv od_div (de_ix G (de_var 0) (de_int)) (de_var 1)) (dg_setA G (de_var 0) (de_int))) (dss_one (ds_if (dt_w (dw_and (dt_cmp op_gt od_b (de_ix G (de_var 0) (de_int)) (de_int) (by walk_at "hm")) (dw_and1 (dt_cmp op_lt od_b (de_ix G (de_var 0) (de_int)) (de_int) (by walk_at "hm"))))) (dss_one (ds_ret (de_var 3))) (dss_nil))))) (dss_one (ds_if (dt_cmp (op_eqN G) od_eq (de_ix G (de_var 0) (de_int)) (de_int) (by walk_at "hm")) (dss_cons (ds_set 4 G (de_op op_mod od_mod (de_callTy cb_int call_int1 B.n_int PyProof.Rows.boot_int (da_cons (de_op op_addA od_add (de_op op_addA od_add (de_op op_mul od_mul (de_var 2) (de_int)) (de_op op_mul od_mul (de_ix G (de_var 0) (de_int)) (de_int))) (de_int)) (da_nil))) (de_int))) (dss_one (ds_ret (de_op op_mod od_mod (de_callTy cb_int call_int1 B.n_int PyProof.Rows.boot_int (da_cons (de_op op_mod od_mod (de_callTy cb_int call_int1 B.n_int PyProof.Rows.boot_int (da_cons (de_op op_addA od_add (de_op op_mul od_mul (de_var 4) (de_int)) (de_int)) (da_nil))) (de_int)) (da_nil))) (de_var 1))))) (dss_cons (ds_set 4 G (de_op op_mod od_mod (de_callTy cb_int call_int1 B.n_int PyProof.Rows.boot_int (da_cons (de_op op_addA od_add (de_op op_addA od_add (de_op op_mul od_mul (de_var 2) (de_int)) (de_op op_mul od_mul (de_ix G (de_var 0) (de_int)) (de_int))) (de_int)) (da_nil))) (de_int))) (dss_one (ds_set 3 G (de_op op_mod od_mod (de_callTy cb_int call_int1 B.n_int PyProof.Rows.boot_int (da_cons (de_op op_mod od_mod (de_callTy cb_int call_int1 B.n_int PyProof.Rows.boot_int (da_cons (de_op op_addA od_add (de_op op_mul od_mul (de_var 4) (de_int)) (de_int)) (da_nil))) (de_int)) (da_nil))) (de_var 1)))))))) (dss_cons (ds_asg (de_op op_addA od_add (de_ix G (de_var 0) (de_int)) (de_int)) (dg_setA G (de_var 0) (de_int))) (dss_cons (ds_asg (de_un un_neg ud_neg (de_int)) (dg_setA G (de_var 0) (de_int))) (dss_one (ds_ret (de_var 3))))))))))) p_l_draw
theorem sc_l_pick : FnScope ["_law_source", "_law_row"] ["_law_source", "_law_row"] (defScope s_l_pick) := by walk_at "sc"
theorem ok_l_pick {f : Addr} {fd : FuncData} (F : FunD K "_law_pick" "_law_pick" (defArgs s_l_pick) (defBody s_l_pick) (defScope s_l_pick) [] [] f fd) (B : Md w K mg) (F_l_draw : FnM P w K mg base 1 "_law_draw" sp_l_draw) : FnOk P w K mg base (L2N.CX P w) (2) f fd ["_law_source", "_law_row"] (lsp K sp_l_pick) :=
  def_ok (N := ["_law_source", "_law_row"]) (k := 1) (t := w_l_pick) F sc_l_pick (by walk_at "sl")
    (fun cdv A outer s H E G hr => by exact dss_one (ds_ret (de_ix G (de_var 1) (de_call F_l_draw G (hr.mono (by omega)) (da_cons (de_var 0) (da_cons (de_callB cb_len call_lenA B.n_len PySem.boot_len (da_cons (de_var 1) (da_nil))) (da_nil))))))) p_l_pick
theorem sc_l_name : FnScope ["_law_source", "_law_text", "_law_k"] ["_law_source"] (defScope s_l_name) := by walk_at "sc"
theorem ok_l_name {f : Addr} {fd : FuncData} (F : FunD K "_law_name" "_law_name" (defArgs s_l_name) (defBody s_l_name) (defScope s_l_name) [] [] f fd) (B : Md w K mg) (F_l_draw : FnM P w K mg base 1 "_law_draw" sp_l_draw) (F_l_pick : FnM P w K mg base 2 "_law_pick" sp_l_pick) : FnOk P w K mg base (L2N.CX P w) (3) f fd ["_law_source"] (lsp K sp_l_name) :=
  def_ok (N := ["_law_source", "_law_text", "_law_k"]) (k := 2) (t := w_l_name) F sc_l_name (by walk_at "sl")
    (fun cdv A outer s H E G hr => by exact dss_cons (ds_if (dt_cmp op_gt od_b (de_call F_l_draw G (hr.mono (by omega)) (da_cons (de_var 0) (da_cons (de_int) (da_nil)))) (de_int) (by walk_at "hm")) (dss_one (ds_ret (de_call F_l_pick G (hr.mono (by omega)) (da_cons (de_var 0) (da_cons (de_lst (da_cons (de_strc (by decide +kernel)) (da_cons (de_strc (by decide +kernel)) (da_cons (de_strc (by decide +kernel)) (da_cons (de_strc (by decide +kernel)) (da_cons (de_str) (da_cons (de_strc (by decide +kernel)) (da_cons (de_strc (by decide +kernel)) (da_cons (de_str) (da_nil)))))))))) (da_nil)))))) (dss_nil)) (dss_cons (ds_set 1 G (de_strc (by decide +kernel))) (dss_cons (ds_for G (di_rng1 B.n_range (da_cons (de_op op_addA od_add (de_int) (de_call F_l_draw G (hr.mono (by omega)) (da_cons (de_var 0) (da_cons (de_int) (da_nil))))) (da_nil))) (dg_name 2 G.nd) (dss_one (ds_set 1 G (de_op op_addA od_add (de_var 1) (de_call F_l_pick G (hr.mono (by omega)) (da_cons (de_var 0) (da_cons (de_str) (da_nil)))))))) (dss_one (ds_ret (de_var 1)))))) p_l_name
theorem sc_l_step : FnScope ["_law_source"] ["_law_source"] (defScope s_l_step) := by walk_at "sc"
theorem ok_l_step {f : Addr} {fd : FuncData} (F : FunD K "_law_step" "_law_step" (defArgs s_l_step) (defBody s_l_step) (defScope s_l_step) [] [] f fd) (B : Md w K mg) (F_l_pick : FnM P w K mg base 2 "_law_pick" sp_l_pick) (F_l_name : FnM P w K mg base 3 "_law_name" sp_l_name) : FnOk P w K mg base (L2N.CX P w) (4) f fd ["_law_source"] (lsp K sp_l_step) :=
  def_ok (N := ["_law_source"]) (k := 3) (t := w_l_step) F sc_l_step (by walk_at "sl")
    (fun cdv A outer s H E G hr => by exact dss_one (ds_ret (de_op op_addA od_add (de_call F_l_pick G (hr.mono (by omega)) (da_cons (de_var 0) (da_cons (de_lst (da_cons (de_strc (by decide +kernel)) (da_cons (de_strc (by decide +kernel)) (da_nil)))) (da_nil)))) (de_call F_l_name G (hr.mono (by omega)) (da_cons (de_var 0) (da_nil)))))) p_l_step
theorem sc_l_tail : FnScope ["_law_source", "_law_most", "_law_tail_here", "_law_k"] ["_law_source", "_law_most"] (defScope s_l_tail) := by walk_at "sc"
theorem ok_l_tail {f : Addr} {fd : FuncData} (F : FunD K "_law_tail" "_law_tail" (defArgs s_l_tail) (defBody s_l_tail) (defScope s_l_tail) [] [] f fd) (B : Md w K mg) (F_l_draw : FnM P w K mg base 1 "_law_draw" sp_l_draw) (F_l_step : FnM P w K mg base 4 "_law_step" sp_l_step) : FnOk P w K mg base (L2N.CX P w) (5) f fd ["_law_source", "_law_most"] (lsp K sp_l_tail) :=
  def_ok (N := ["_law_source", "_law_most", "_law_tail_here", "_law_k"]) (k := 4) (t := w_l_tail) F sc_l_tail (by walk_at "sl")
    (fun cdv A outer s H E G hr => by exact dss_cons (ds_set 2 G (de_strc (by decide +kernel))) (dss_cons (ds_for G (di_rng1 B.n_range (da_cons (de_call F_l_draw G (hr.mono (by omega)) (da_cons (de_var 0) (da_cons (de_op op_addA od_add (de_var 1) (de_int)) (da_nil)))) (da_nil))) (dg_name 3 G.nd) (dss_one (ds_set 2 G (de_op op_addA od_add (de_var 2) (de_call F_l_step G (hr.mono (by omega)) (da_cons (de_var 0) (da_nil))))))) (dss_one (ds_ret (de_var 2))))) p_l_tail
theorem sc_l_place : FnScope ["_law_source", "_law_most"] ["_law_source"] (defScope s_l_place) := by walk_at "sc"
theorem ok_l_place {f : Addr} {fd : FuncData} (F : FunD K "_law_place" "_law_place" (defArgs s_l_place) (defBody s_l_place) (defScope s_l_place) [] [] f fd) (B : Md w K mg) (F_l_draw : FnM P w K mg base 1 "_law_draw" sp_l_draw) (F_l_name : FnM P w K mg base 3 "_law_name" sp_l_name) (F_l_tail : FnM P w K mg base 5 "_law_tail" sp_l_tail) : FnOk P w K mg base (L2N.CX P w) (6) f fd ["_law_source"] (lsp K sp_l_place) :=
  def_ok (N := ["_law_source", "_law_most"]) (k := 5) (t := w_l_place) F sc_l_place (by walk_at "sl")
    (fun cdv A outer s H E G hr => by exact dss_cons (ds_set 1 G (de_int)) (dss_cons (ds_if (dt_cmp (op_eqN G) od_eq (de_call F_l_draw G (hr.mono (by omega)) (da_cons (de_var 0) (da_cons (de_int) (da_nil)))) (de_int) (by walk_at "hm")) (dss_one (ds_set 1 G (de_int))) (dss_nil)) (dss_one (ds_ret (de_op op_addA od_add (de_call F_l_name G (hr.mono (by omega)) (da_cons (de_var 0) (da_nil))) (de_call F_l_tail G (hr.mono (by omega)) (da_cons (de_var 0) (da_cons (de_var 1) (da_nil))))))))) p_l_place
theorem sc_l_parts : FnScope ["_law_node", "_law_parts_here", "_law_sign"] ["_law_node"] (defScope s_l_parts) := by walk_at "sc"
theorem ok_l_parts {f : Addr} {fd : FuncData} (F : FunD K "_law_parts" "_law_parts" (defArgs s_l_parts) (defBody s_l_parts) (defScope s_l_parts) [] [] f fd) (B : Md w K mg)  : FnOk P w K mg base (L2N.CX P w) (1) f fd ["_law_node"] (lsp K sp_l_parts) :=
  def_ok (N := ["_law_node", "_law_parts_here", "_law_sign"]) (k := 0) (t := w_l_parts) F sc_l_parts (by walk_at "sl")
    (fun cdv A outer s H E G hr => by exact dss_cons (ds_set 1 G (de_lstM (da_cons (de_strc (by decide +kernel)) (da_nil)))) (dss_cons (ds_for G (di_any (de_var 0)) (dg_name 2 G.nd) (dss_one (ds_if (dt_cmp (op_inN G) od_in (de_var 2) (de_strc (by decide +kernel)) (by walk_at "hm")) (dss_one (ds_expr (de_mt PySem.F.plainAttrs_list PySem.F.slot_list_append PySem.F.type_list_append md_append mt_append (de_var 1) (da_cons (de_var 2) (da_nil))))) (dss_one (ds_asg (de_op op_addA od_add (de_ix G (de_var 1) (de_un un_neg ud_neg (de_int))) (de_var 2)) (dg_setA G (de_var 1) (de_un un_neg ud_neg (de_int)))))))) (dss_one (ds_ret (de_frz (de_var 1)))))) p_l_parts
theorem sc_l_near : FnScope ["_law_source", "_law_place_here", "_law_parts_here", "_law_kind", "_law_last", "_law_mark"] ["_law_source", "_law_place_here"] (defScope s_l_near) := by walk_at "sc"
theorem ok_l_near {f : Addr} {fd : FuncData} (F : FunD K "_law_near" "_law_near" (defArgs s_l_near) (defBody s_l_near) (defScope s_l_near) [] [] f fd) (B : Md w K mg) (F_l_parts : FnM P w K mg base 1 "_law_parts" sp_l_parts) (F_l_draw : FnM P w K mg base 1 "_law_draw" sp_l_draw) (F_l_step : FnM P w K mg base 4 "_law_step" sp_l_step) (F_l_pick : FnM P w K mg base 2 "_law_pick" sp_l_pick) (F_l_place : FnM P w K mg base 6 "_law_place" sp_l_place) : FnOk P w K mg base (L2N.CX P w) (7) f fd ["_law_source", "_law_place_here"] (lsp K sp_l_near) :=
  def_ok (N := ["_law_source", "_law_place_here", "_law_parts_here", "_law_kind", "_law_last", "_law_mark"]) (k := 6) (t := w_l_near) F sc_l_near (by walk_at "sl")
    (fun cdv A outer s H E G hr => by exact dss_cons (ds_set 2 G (de_call F_l_parts G (hr.mono (by omega)) (da_cons (de_var 1) (da_nil)))) (dss_cons (ds_set 3 G (de_call F_l_draw G (hr.mono (by omega)) (da_cons (de_var 0) (da_cons (de_int) (da_nil))))) (dss_cons (ds_if (dt_cmp op_lt od_b (de_var 3) (de_int) (by walk_at "hm")) (dss_one (ds_ret (de_var 1))) (dss_nil)) (dss_cons (ds_if (dt_cmp op_lt od_b (de_var 3) (de_int) (by walk_at "hm")) (dss_one (ds_ret (de_mt PySem.F.plainAttrs_str PySem.F.slot_str_join PySem.F.type_str_join md_join mt_join (de_strc (by decide +kernel)) (da_cons (de_sl (de_var 2) (do_none) (do_some (de_op op_addA od_add (de_int) (de_call F_l_draw G (hr.mono (by omega)) (da_cons (de_var 0) (da_cons (de_callB cb_len call_lenA B.n_len PySem.boot_len (da_cons (de_var 2) (da_nil))) (da_nil))))))) (da_nil))))) (dss_nil)) (dss_cons (ds_if (dt_w (dw_and (dt_cmp op_lt od_b (de_var 3) (de_int) (by walk_at "hm")) (dw_and1 (dt_cmp op_lt od_b (de_callB cb_len call_lenA B.n_len PySem.boot_len (da_cons (de_var 2) (da_nil))) (de_int) (by walk_at "hm"))))) (dss_one (ds_ret (de_op op_addA od_add (de_var 1) (de_call F_l_step G (hr.mono (by omega)) (da_cons (de_var 0) (da_nil)))))) (dss_nil)) (dss_cons (ds_set 4 G (de_ix G (de_var 2) (de_un un_neg ud_neg (de_int)))) (dss_cons (ds_if (dt_w (dw_and (dt_cmp (op_eqN G) od_eq (de_var 3) (de_int) (by walk_at "hm")) (dw_and1 (dt_cmp op_gt od_b (de_callB cb_len call_lenA B.n_len PySem.boot_len (da_cons (de_var 2) (da_nil))) (de_int) (by walk_at "hm"))))) (dss_cons (ds_set 5 G (de_strc (by decide +kernel))) (dss_cons (ds_if (dt_cmp (op_eqN G) od_eq (de_ix G (de_var 4) (de_int)) (de_strc (by decide +kernel)) (by walk_at "hm")) (dss_one (ds_set 5 G (de_strc (by decide +kernel)))) (dss_nil)) (dss_one (ds_ret (de_op op_addA od_add (de_op op_addA od_add (de_mt PySem.F.plainAttrs_str PySem.F.slot_str_join PySem.F.type_str_join md_join mt_join (de_strc (by decide +kernel)) (da_cons (de_sl (de_var 2) (do_none) (do_some (de_un un_neg ud_neg (de_int)))) (da_nil))) (de_var 5)) (de_sl (de_var 4) (do_some (de_int)) (do_none))))))) (dss_nil)) (dss_cons (ds_if (dt_w (dw_and (dt_cmp (op_eqN G) od_eq (de_var 3) (de_int) (by walk_at "hm")) (dw_and1 (dt_cmp op_lt od_b (de_callB cb_len call_lenA B.n_len PySem.boot_len (da_cons (de_var 4) (da_nil))) (de_int) (by walk_at "hm"))))) (dss_one (ds_ret (de_op op_addA od_add (de_var 1) (de_call F_l_pick G (hr.mono (by omega)) (da_cons (de_var 0) (da_cons (de_str) (da_nil))))))) (dss_nil)) (dss_one (ds_ret (de_call F_l_place G (hr.mono (by omega)) (da_cons (de_var 0) (da_nil))))))))))))) p_l_near
theorem sc_l_places : FnScope ["_law_source", "_law_count", "_law_places_here", "_law_k"] ["_law_source", "_law_count"] (defScope s_l_places) := by walk_at "sc"
theorem ok_l_places {f : Addr} {fd : FuncData} (F : FunD K "_law_places" "_law_places" (defArgs s_l_places) (defBody s_l_places) (defScope s_l_places) [] [] f fd) (B : Md w K mg) (F_l_place : FnM P w K mg base 6 "_law_place" sp_l_place) (F_l_near : FnM P w K mg base 7 "_law_near" sp_l_near) (F_l_pick : FnM P w K mg base 2 "_law_pick" sp_l_pick) : FnOk P w K mg base (L2N.CX P w) (8) f fd ["_law_source", "_law_count"] (lsp K sp_l_places) :=
  def_ok (N := ["_law_source", "_law_count", "_law_places_here", "_law_k"]) (k := 7) (t := w_l_places) F sc_l_places (by walk_at "sl")
    (fun cdv A outer s H E G hr => by exact dss_cons (ds_set 2 G (de_lstM (da_cons (de_call F_l_place G (hr.mono (by omega)) (da_cons (de_var 0) (da_nil))) (da_nil)))) (dss_cons (ds_for G (di_rng1 B.n_range (da_cons (de_op op_sub od_sub (de_var 1) (de_int)) (da_nil))) (dg_name 3 G.nd) (dss_one (ds_expr (de_mt PySem.F.plainAttrs_list PySem.F.slot_list_append PySem.F.type_list_append md_append mt_append (de_var 2) (da_cons (de_call F_l_near G (hr.mono (by omega)) (da_cons (de_var 0) (da_cons (de_call F_l_pick G (hr.mono (by omega)) (da_cons (de_var 0) (da_cons (de_var 2) (da_nil)))) (da_nil)))) (da_nil)))))) (dss_one (ds_ret (de_var 2))))) p_l_places
theorem sc_l_boxed : FnScope ["_law_source", "_law_place_here"] ["_law_source", "_law_place_here"] (defScope s_l_boxed) := by walk_at "sc"
theorem ok_l_boxed {f : Addr} {fd : FuncData} (F : FunD K "_law_boxed" "_law_boxed" (defArgs s_l_boxed) (defBody s_l_boxed) (defScope s_l_boxed) [] [] f fd) (B : Md w K mg) (F_l_parts : FnM P w K mg base 1 "_law_parts" sp_l_parts) (F_l_name : FnM P w K mg base 3 "_law_name" sp_l_name) : FnOk P w K mg base (L2N.CX P w) (4) f fd ["_law_source", "_law_place_here"] (lsp K sp_l_boxed) :=
  def_ok (N := ["_law_source", "_law_place_here"]) (k := 3) (t := w_l_boxed) F sc_l_boxed (by walk_at "sl")
    (fun cdv A outer s H E G hr => by exact dss_cons (ds_if (dt_cmp op_lt od_b (de_callB cb_len call_lenA B.n_len PySem.boot_len (da_cons (de_call F_l_parts G (hr.mono (by omega)) (da_cons (de_var 1) (da_nil))) (da_nil))) (de_int) (by walk_at "hm")) (dss_one (ds_ret (de_op op_addA od_add (de_op op_addA od_add (de_var 1) (de_strc (by decide +kernel))) (de_call F_l_name G (hr.mono (by omega)) (da_cons (de_var 0) (da_nil)))))) (dss_nil)) (dss_one (ds_ret (de_var 1)))) p_l_boxed
theorem sc_l_numbers : FnScope ["_law_source", "_law_places_here", "_law_most", "_law_pairs", "_law_k", "_law_node"] ["_law_source", "_law_places_here", "_law_most"] (defScope s_l_numbers) := by walk_at "sc"
theorem ok_l_numbers {f : Addr} {fd : FuncData} (F : FunD K "_law_numbers" "_law_numbers" (defArgs s_l_numbers) (defBody s_l_numbers) (defScope s_l_numbers) [] [] f fd) (B : Md w K mg) (F_l_draw : FnM P w K mg base 1 "_law_draw" sp_l_draw) (F_l_near : FnM P w K mg base 7 "_law_near" sp_l_near) (F_l_pick : FnM P w K mg base 2 "_law_pick" sp_l_pick) : FnOk P w K mg base (L2N.CX P w) (8) f fd ["_law_source", "_law_places_here", "_law_most"] (lsp K sp_l_numbers) :=
  def_ok (N := ["_law_source", "_law_places_here", "_law_most", "_law_pairs", "_law_k", "_law_node"]) (k := 7) (t := w_l_numbers) F sc_l_numbers (by walk_at "sl")
    (fun cdv A outer s H E G hr => by exact dss_cons (ds_set 3 G (de_lstM (da_nil))) (dss_cons (ds_for G (di_rng1 B.n_range (da_cons (de_call F_l_draw G (hr.mono (by omega)) (da_cons (de_var 0) (da_cons (de_op op_addA od_add (de_var 2) (de_int)) (da_nil)))) (da_nil))) (dg_name 4 G.nd) (dss_cons (ds_set 5 G (de_call F_l_near G (hr.mono (by omega)) (da_cons (de_var 0) (da_cons (de_call F_l_pick G (hr.mono (by omega)) (da_cons (de_var 0) (da_cons (de_var 1) (da_nil)))) (da_nil))))) (dss_one (ds_expr (de_mt PySem.F.plainAttrs_list PySem.F.slot_list_append PySem.F.type_list_append md_append mt_append (de_var 3) (da_cons (de_tup (da_cons (de_var 5) (da_cons (de_op op_mod od_mod (de_callTy cb_int call_int1 B.n_int PyProof.Rows.boot_int (da_cons (de_call F_l_draw G (hr.mono (by omega)) (da_cons (de_var 0) (da_cons (de_int) (da_nil)))) (da_nil))) (de_int)) (da_nil)))) (da_nil))))))) (dss_one (ds_ret (de_frz (de_var 3)))))) p_l_numbers
theorem sc_Memory_alive : FnScope ["self", "address"] ["self", "address"] (defScope s_Memory_alive) := by walk_at "sc"
theorem ok_Memory_alive {f : Addr} {fd : FuncData} (F : FunD K "alive" "Memory.alive" (defArgs s_Memory_alive) (defBody s_Memory_alive) (defScope s_Memory_alive) [] [] f fd) (B : Md w K mg)  : FnOk P w K mg base (L2N.CX P w) (1) f fd ["self", "address"] (lsp K sp_Memory_alive) :=
  def_ok (N := ["self", "address"]) (k := 0) (t := w_Memory_alive) F sc_Memory_alive (by walk_at "sl")
    (fun cdv A outer s H E G hr => by exact dss_one (ds_ret (de_cmp (op_notInN G) od_in (de_ix G (de_var 1) (de_int)) (de_fld B.cls_Memory B.na_Memorygone (de_var 0)) (by walk_at "hm")))) p_Memory_alive
theorem ok_Stale_init {cc cda : Addr} {fd : FuncData} (D : ErrD K "__init__" "Stale.__init__" (defArgs s_Stale_init) (defBody s_Stale_init) (defScope s_Stale_init) (He.ga K "Stale") (He.ma K (He.ga K "Stale") "__init__") cc cda PySem.Challenge.pw_lentahead_k54_whole_packing.main.file fd)
    (c : errCB "Stale" "address" K = true) (g : mg "Stale" = some (.ref (He.ga K "Stale"))) (hs : mg "super" = none) (h1 : (P.main.file == PySem.Challenge.pw_lentahead_k54_whole_packing.main.file) = true) (h2 : (P.main.scope.names.lookup ("super" : Str)).isSome = false) : FnE P w K mg base 1 "Stale" "address" :=
  fnE_of D (err_ok (N := ["self", "address", "__class__"]) (k := 0) (self := "self") (par := "address") D (errCB_ok c).1 (errCB_ok c).2.1 (NdefX.nscope_by (by decide +kernel)) (by rfl) (by rfl) (by rfl) rfl rfl h1 hs h2 (by decide +kernel) (fun _ => rfl) (fun _ => rfl) (fun _ => rfl) (fun _ => ⟨_, rfl⟩) (by decide) (by decide) (by decide) (by decide)) c g (fun _ _ _ _ _ us hl => match us, hl with | [_, _], _ => rfl)
theorem sc_Memory__check : FnScope ["self", "address"] ["self", "address"] (defScope s_Memory__check) := by walk_at "sc"
theorem ok_Memory__check {f : Addr} {fd : FuncData} (F : FunD K "_check" "Memory._check" (defArgs s_Memory__check) (defBody s_Memory__check) (defScope s_Memory__check) [] [] f fd) (B : Md w K mg) (F_Memory_alive : FnC P w K mg base 1 "Memory" "alive" sp_Memory_alive) (F_Stale_init : FnE P w K mg base 1 "Stale" "address") : FnOk P w K mg base (L2N.CX P w) (3) f fd ["self", "address"] (lsp K sp_Memory__check) :=
  def_ok (N := ["self", "address"]) (k := 2) (t := w_Memory__check) F sc_Memory__check (by intro ds M Q E h; unfold sp_Memory__check at h; rcases h with h | h <;> first | (obtain ⟨rfl, _⟩ := h; rfl) | (obtain ⟨_, rfl, _⟩ := h; rfl) | (obtain ⟨_, _, rfl, _⟩ := h; rfl) | (obtain ⟨_, _, _, rfl, _⟩ := h; rfl) | (obtain ⟨_, _, _, _, rfl, _⟩ := h; rfl) | (obtain ⟨_, _, _, _, _, rfl, _⟩ := h; rfl) | (obtain ⟨_, _, _, _, _, _, rfl, _⟩ := h; rfl) | (obtain ⟨_, _, _, _, _, _, _, rfl, _⟩ := h; rfl) | (obtain ⟨_, _, _, _, _, _, _, _, rfl, _⟩ := h; rfl) | (obtain ⟨_, _, _, _, _, _, _, _, _, rfl, _⟩ := h; rfl) | (obtain ⟨_, _, _, _, _, _, _, _, _, _, rfl, _⟩ := h; rfl) | (obtain ⟨_, _, _, _, _, _, _, _, _, _, _, rfl, _⟩ := h; rfl) | (obtain ⟨_, _, _, _, _, _, _, _, _, _, _, _, rfl, _⟩ := h; rfl) | (obtain ⟨_, _, _, _, _, _, _, _, _, _, _, _, _, rfl, _⟩ := h; rfl) | (obtain ⟨_, _, _, _, _, _, _, _, _, _, _, _, _, _, rfl, _⟩ := h; rfl) | (obtain ⟨_, _, _, _, _, _, _, _, _, _, _, _, _, _, _, rfl, _⟩ := h; rfl) | (obtain ⟨_, _, _, _, _, _, _, _, _, _, _, _, _, _, _, _, rfl, _⟩ := h; rfl) | (obtain ⟨_, _, _, _, _, _, _, _, _, _, _, _, _, _, _, _, _, rfl, _⟩ := h; rfl) | (obtain ⟨_, _, _, _, _, _, _, _, _, _, _, _, _, _, _, _, _, _, rfl, _⟩ := h; rfl) | (obtain ⟨_, _, _, _, _, _, _, _, _, _, _, _, _, _, _, _, _, _, _, rfl, _⟩ := h; rfl) | (obtain ⟨_, _, _, _, _, _, _, _, _, _, _, _, _, _, _, _, _, _, _, _, rfl, _⟩ := h; rfl) | (obtain ⟨_, _, _, _, _, _, _, _, _, _, _, _, _, _, _, _, _, _, _, _, _, rfl, _⟩ := h; rfl))
    (fun cdv A outer s H E G hr => by exact dss_one (ds_if (dt_not (dt_tru (de_meth F_Memory_alive B.cls_Memory G (hr.mono (by omega)) (de_var 0) (da_cons (de_var 1) (da_nil))))) (dss_one (ds_raise F_Stale_init G (hr.mono (by omega)) (de_var 1))) (dss_nil))) p_Memory__check
theorem sc_end_of_name : FnScope ["text", "start", "at"] ["text", "start"] (defScope s_end_of_name) := by walk_at "sc"
theorem ok_end_of_name {f : Addr} {fd : FuncData} (F : FunD K "end_of_name" "end_of_name" (defArgs s_end_of_name) (defBody s_end_of_name) (defScope s_end_of_name) [] [] f fd) (B : Md w K mg)  : FnOk P w K mg base (L2N.CX P w) (1) f fd ["text", "start"] (lsp K sp_end_of_name) :=
  def_ok (N := ["text", "start", "at"]) (k := 0) (t := w_end_of_name) F sc_end_of_name (by walk_at "sl")
    (fun cdv A outer s H E G hr => by exact dss_cons (ds_for G (di_rng2 B.n_range (da_cons (de_var 1) (da_cons (de_callB cb_len call_lenA B.n_len PySem.boot_len (da_cons (de_var 0) (da_nil))) (da_nil)))) (dg_name 2 G.nd) (dss_one (ds_if (dt_cmp (op_inN G) od_in (de_ix G (de_var 0) (de_var 2)) (de_gsc B.c_MARKS (by decide +kernel)) (by walk_at "hm")) (dss_one (ds_ret (de_var 2))) (dss_nil)))) (dss_one (ds_ret (de_callB cb_len call_lenA B.n_len PySem.boot_len (da_cons (de_var 0) (da_nil)))))) p_end_of_name
theorem sc_is_name : FnScope ["text", "letter"] ["text"] (defScope s_is_name) := by walk_at "sc"
theorem ok_is_name {f : Addr} {fd : FuncData} (F : FunD K "is_name" "is_name" (defArgs s_is_name) (defBody s_is_name) (defScope s_is_name) [] [] f fd) (B : Md w K mg)  : FnOk P w K mg base (L2N.CX P w) (1) f fd ["text"] (lsp K sp_is_name) :=
  def_ok (N := ["text", "letter"]) (k := 0) (t := w_is_name) F sc_is_name (by walk_at "sl")
    (fun cdv A outer s H E G hr => by exact dss_cons (ds_if (dt_w (dw_or (dt_cmp (op_eqN G) od_eq (de_var 0) (de_strc (by decide +kernel)) (by walk_at "hm")) (dw_or1 (dt_cmp op_gt od_b (de_callB cb_len call_lenA B.n_len PySem.boot_len (da_cons (de_var 0) (da_nil))) (de_gi B.c_MOST_LETTERS) (by walk_at "hm"))))) (dss_one (ds_ret (de_bl))) (dss_nil)) (dss_one (ds_ret (de_callB cb_all (cr_all G.calm) B.n_all PyProof.Rows.boot_all (da_cons (de_frz (de_lc1 [("letter", 1)] G (di_any (de_var 0)) (fun _ _ _ _ _ G => bk1 (dgw_name 1 G.nd) (dts_nil) (de_cmp (op_inN G) od_in (de_var 1) (de_gsc B.c_LETTERS rfl) (by walk_at "hm"))))) (da_nil)))))) p_is_name
theorem sc_steps_of : FnScope ["tail", "steps", "at", "end"] ["tail"] (defScope s_steps_of) := by walk_at "sc"
theorem ok_steps_of {f : Addr} {fd : FuncData} (F : FunD K "steps_of" "steps_of" (defArgs s_steps_of) (defBody s_steps_of) (defScope s_steps_of) [] [] f fd) (B : Md w K mg) (F_end_of_name : FnM P w K mg base 1 "end_of_name" sp_end_of_name) (F_is_name : FnM P w K mg base 1 "is_name" sp_is_name) : FnOk P w K mg base (L2N.CX P w) (2) f fd ["tail"] (lsp K sp_steps_of) :=
  def_ok (N := ["tail", "steps", "at", "end"]) (k := 1) (t := w_steps_of) F sc_steps_of (by walk_at "sl")
    (fun cdv A outer s H E G hr => by exact dss_cons (ds_set 1 G (de_lstM (da_nil))) (dss_cons (ds_set 2 G (de_int)) (dss_cons (ds_while G (dt_cmp op_lt od_b (de_var 2) (de_callB cb_len call_lenA B.n_len PySem.boot_len (da_cons (de_var 0) (da_nil))) (by walk_at "hm")) (dss_cons (ds_set 3 G (de_call F_end_of_name G (hr.mono (by omega)) (da_cons (de_var 0) (da_cons (de_op op_addA od_add (de_var 2) (de_int)) (da_nil))))) (dss_cons (ds_if (dt_w (dw_or (dt_cmp (op_notInN G) od_in (de_ix G (de_var 0) (de_var 2)) (de_gsc B.c_MARKS (by decide +kernel)) (by walk_at "hm")) (dw_or1 (dt_not (dt_tru (de_call F_is_name G (hr.mono (by omega)) (da_cons (de_sl (de_var 0) (do_some (de_op op_addA od_add (de_var 2) (de_int))) (do_some (de_var 3))) (da_nil)))))))) (dss_one (ds_ret (de_non))) (dss_nil)) (dss_cons (ds_expr (de_mt PySem.F.plainAttrs_list PySem.F.slot_list_append PySem.F.type_list_append md_append mt_append (de_var 1) (da_cons (de_sl (de_var 0) (do_some (de_var 2)) (do_some (de_var 3))) (da_nil)))) (dss_one (ds_set 2 G (de_var 3))))))) (dss_one (ds_ret (de_frz (de_var 1))))))) p_steps_of
theorem sc_Memory__new_block : FnScope ["self"] ["self"] (defScope s_Memory__new_block) := by walk_at "sc"
theorem ok_Memory__new_block {f : Addr} {fd : FuncData} (F : FunD K "_new_block" "Memory._new_block" (defArgs s_Memory__new_block) (defBody s_Memory__new_block) (defScope s_Memory__new_block) [] [] f fd) (B : Md w K mg)  : FnOk P w K mg base (L2N.CX P w) (1) f fd ["self"] (lsp K sp_Memory__new_block) :=
  def_ok (N := ["self"]) (k := 0) (t := w_Memory__new_block) F sc_Memory__new_block (by walk_at "sl")
    (fun cdv A outer s H E G hr => by exact dss_cons (ds_augF B.cls_Memory B.na_Memorymade in_iadd od_iadd (de_var 0) (de_int)) (dss_one (ds_ret (de_fld B.cls_Memory B.na_Memorymade (de_var 0))))) p_Memory__new_block
theorem sc_Memory__walk : FnScope ["self", "address", "tail", "block", "inner", "step", "key"] ["self", "address", "tail"] (defScope s_Memory__walk) := by walk_at "sc"
theorem ok_Memory__walk {f : Addr} {fd : FuncData} (F : FunD K "_walk" "Memory._walk" (defArgs s_Memory__walk) (defBody s_Memory__walk) (defScope s_Memory__walk) [] [] f fd) (B : Md w K mg) (F_steps_of : FnM P w K mg base 2 "steps_of" sp_steps_of) (F_Memory__new_block : FnC P w K mg base 1 "Memory" "_new_block" sp_Memory__new_block) : FnOk P w K mg base (L2N.CX P w) (3) f fd ["self", "address", "tail"] (lsp K sp_Memory__walk) :=
  def_ok (N := ["self", "address", "tail", "block", "inner", "step", "key"]) (k := 2) (t := w_Memory__walk) F sc_Memory__walk (by walk_at "sl")
    (fun cdv A outer s H E G hr => by exact dss_cons (ds_asg (de_var 1) (dg_tup G (dgs_cons 3 G.nd (dgs_cons 4 G.nd (dgs_nil))))) (dss_cons (ds_for G (di_any (de_call F_steps_of G (hr.mono (by omega)) (da_cons (de_var 2) (da_nil)))) (dg_name 5 G.nd) (dss_cons (ds_augN 4 G in_iadd od_iadd (de_var 5)) (dss_one (ds_if (dt_cmp (op_eqN G) od_eq (de_ix G (de_var 5) (de_int)) (de_strc (by decide +kernel)) (by walk_at "hm")) (dss_cons (ds_set 6 G (de_tup (da_cons (de_var 3) (da_cons (de_var 4) (da_nil))))) (dss_cons (ds_if (dt_cmp (op_notInN G) od_inTN (de_var 6) (de_fld B.cls_Memory B.na_Memoryboxes (de_var 0)) (by walk_at "hm")) (dss_one (ds_asg (de_meth0 F_Memory__new_block B.cls_Memory G (hr.mono (by omega)) (de_var 0)) (dg_setT G (de_fld B.cls_Memory B.na_Memoryboxes (de_var 0)) (de_var 6)))) (dss_nil)) (dss_cons (ds_set 3 G (de_ixT G (de_fld B.cls_Memory B.na_Memoryboxes (de_var 0)) (de_var 6))) (dss_one (ds_set 4 G (de_strc (by decide +kernel))))))) (dss_nil))))) (dss_one (ds_ret (de_tup (da_cons (de_var 3) (da_cons (de_var 4) (da_nil)))))))) p_Memory__walk
theorem sc_Memory_set_number : FnScope ["self", "address", "tail", "n"] ["self", "address", "tail", "n"] (defScope s_Memory_set_number) := by walk_at "sc"
theorem ok_Memory_set_number {f : Addr} {fd : FuncData} (F : FunD K "set_number" "Memory.set_number" (defArgs s_Memory_set_number) (defBody s_Memory_set_number) (defScope s_Memory_set_number) [] [] f fd) (B : Md w K mg) (F_Memory__check : FnC P w K mg base 3 "Memory" "_check" sp_Memory__check) (F_Memory__walk : FnC P w K mg base 3 "Memory" "_walk" sp_Memory__walk) : FnOk P w K mg base (L2N.CX P w) (4) f fd ["self", "address", "tail", "n"] (lsp K sp_Memory_set_number) :=
  def_ok (N := ["self", "address", "tail", "n"]) (k := 3) (t := w_Memory_set_number) F sc_Memory_set_number (by intro ds M Q E h; unfold sp_Memory_set_number at h; rcases h with h | h <;> first | (obtain ⟨rfl, _⟩ := h; rfl) | (obtain ⟨_, rfl, _⟩ := h; rfl) | (obtain ⟨_, _, rfl, _⟩ := h; rfl) | (obtain ⟨_, _, _, rfl, _⟩ := h; rfl) | (obtain ⟨_, _, _, _, rfl, _⟩ := h; rfl) | (obtain ⟨_, _, _, _, _, rfl, _⟩ := h; rfl) | (obtain ⟨_, _, _, _, _, _, rfl, _⟩ := h; rfl) | (obtain ⟨_, _, _, _, _, _, _, rfl, _⟩ := h; rfl) | (obtain ⟨_, _, _, _, _, _, _, _, rfl, _⟩ := h; rfl) | (obtain ⟨_, _, _, _, _, _, _, _, _, rfl, _⟩ := h; rfl) | (obtain ⟨_, _, _, _, _, _, _, _, _, _, rfl, _⟩ := h; rfl) | (obtain ⟨_, _, _, _, _, _, _, _, _, _, _, rfl, _⟩ := h; rfl) | (obtain ⟨_, _, _, _, _, _, _, _, _, _, _, _, rfl, _⟩ := h; rfl) | (obtain ⟨_, _, _, _, _, _, _, _, _, _, _, _, _, rfl, _⟩ := h; rfl) | (obtain ⟨_, _, _, _, _, _, _, _, _, _, _, _, _, _, rfl, _⟩ := h; rfl) | (obtain ⟨_, _, _, _, _, _, _, _, _, _, _, _, _, _, _, rfl, _⟩ := h; rfl) | (obtain ⟨_, _, _, _, _, _, _, _, _, _, _, _, _, _, _, _, rfl, _⟩ := h; rfl) | (obtain ⟨_, _, _, _, _, _, _, _, _, _, _, _, _, _, _, _, _, rfl, _⟩ := h; rfl) | (obtain ⟨_, _, _, _, _, _, _, _, _, _, _, _, _, _, _, _, _, _, rfl, _⟩ := h; rfl) | (obtain ⟨_, _, _, _, _, _, _, _, _, _, _, _, _, _, _, _, _, _, _, rfl, _⟩ := h; rfl) | (obtain ⟨_, _, _, _, _, _, _, _, _, _, _, _, _, _, _, _, _, _, _, _, rfl, _⟩ := h; rfl) | (obtain ⟨_, _, _, _, _, _, _, _, _, _, _, _, _, _, _, _, _, _, _, _, _, rfl, _⟩ := h; rfl))
    (fun cdv A outer s H E G hr => by exact dss_cons (ds_expr (de_meth F_Memory__check B.cls_Memory G (hr.mono (by omega)) (de_var 0) (da_cons (de_var 1) (da_nil)))) (dss_one (ds_asg (de_var 3) (dg_setT G (de_fld B.cls_Memory B.na_Memorynumbers (de_var 0)) (de_meth F_Memory__walk B.cls_Memory G (hr.mono (by omega)) (de_var 0) (da_cons (de_var 1) (da_cons (de_var 2) (da_nil)))))))) p_Memory_set_number
theorem sc_root_of : FnScope ["node"] ["node"] (defScope s_root_of) := by walk_at "sc"
theorem ok_root_of {f : Addr} {fd : FuncData} (F : FunD K "root_of" "root_of" (defArgs s_root_of) (defBody s_root_of) (defScope s_root_of) [] [] f fd) (B : Md w K mg) (F_end_of_name : FnM P w K mg base 1 "end_of_name" sp_end_of_name) : FnOk P w K mg base (L2N.CX P w) (2) f fd ["node"] (lsp K sp_root_of) :=
  def_ok (N := ["node"]) (k := 1) (t := w_root_of) F sc_root_of (by walk_at "sl")
    (fun cdv A outer s H E G hr => by exact dss_one (ds_ret (de_sl (de_var 0) (do_none) (do_some (de_call F_end_of_name G (hr.mono (by omega)) (da_cons (de_var 0) (da_cons (de_int) (da_nil)))))))) p_root_of
theorem sc_Memory_locate : FnScope ["self", "node", "root"] ["self", "node"] (defScope s_Memory_locate) := by walk_at "sc"
theorem ok_Memory_locate {f : Addr} {fd : FuncData} (F : FunD K "locate" "Memory.locate" (defArgs s_Memory_locate) (defBody s_Memory_locate) (defScope s_Memory_locate) [] [] f fd) (B : Md w K mg) (F_root_of : FnM P w K mg base 2 "root_of" sp_root_of) (F_Memory__new_block : FnC P w K mg base 1 "Memory" "_new_block" sp_Memory__new_block) (F_Memory__walk : FnC P w K mg base 3 "Memory" "_walk" sp_Memory__walk) : FnOk P w K mg base (L2N.CX P w) (4) f fd ["self", "node"] (lsp K sp_Memory_locate) :=
  def_ok (N := ["self", "node", "root"]) (k := 3) (t := w_Memory_locate) F sc_Memory_locate (by walk_at "sl")
    (fun cdv A outer s H E G hr => by exact dss_cons (ds_set 2 G (de_call F_root_of G (hr.mono (by omega)) (da_cons (de_var 1) (da_nil)))) (dss_cons (ds_if (dt_cmp (op_notInN G) od_in (de_var 2) (de_fld B.cls_Memory B.na_Memoryroots (de_var 0)) (by walk_at "hm")) (dss_one (ds_asg (de_meth0 F_Memory__new_block B.cls_Memory G (hr.mono (by omega)) (de_var 0)) (dg_setA G (de_fld B.cls_Memory B.na_Memoryroots (de_var 0)) (de_var 2)))) (dss_nil)) (dss_one (ds_ret (de_meth F_Memory__walk B.cls_Memory G (hr.mono (by omega)) (de_var 0) (da_cons (de_tup (da_cons (de_ix G (de_fld B.cls_Memory B.na_Memoryroots (de_var 0)) (de_var 2)) (da_cons (de_strc (by decide +kernel)) (da_nil)))) (da_cons (de_sl (de_var 1) (do_some (de_callB cb_len call_lenA B.n_len PySem.boot_len (da_cons (de_var 2) (da_nil)))) (do_none)) (da_nil)))))))) p_Memory_locate
theorem sc_Memory_init : FnScope ["self", "pairs", "node", "n"] ["self", "pairs"] (defScope s_Memory_init) := by walk_at "sc"
theorem ok_Memory_init {f : Addr} {fd : FuncData} (F : FunD K "__init__" "Memory.__init__" (defArgs s_Memory_init) (defBody s_Memory_init) (defScope s_Memory_init) [] [] f fd) (B : Md w K mg) (F_Memory_set_number : FnC P w K mg base 4 "Memory" "set_number" sp_Memory_set_number) (F_Memory_locate : FnC P w K mg base 4 "Memory" "locate" sp_Memory_locate) : FnOk P w K mg base (L2N.CX P w) (5) f fd ["self", "pairs"] (lsp K sp_Memory_init) :=
  def_ok (N := ["self", "pairs", "node", "n"]) (k := 4) (t := w_Memory_init) F sc_Memory_init (by walk_at "sl")
    (fun cdv A outer s H E G hr => by exact dss_cons (ds_setF B.cls_Memory B.na_Memoryroots (de_var 0) (de_dict0)) (dss_cons (ds_setF B.cls_Memory B.na_Memoryboxes (de_var 0) (de_dictT)) (dss_cons (ds_setF B.cls_Memory B.na_Memorynumbers (de_var 0) (de_dictT)) (dss_cons (ds_setF B.cls_Memory B.na_Memorygone (de_var 0) (de_dict0)) (dss_cons (ds_setF B.cls_Memory B.na_Memorymade (de_var 0) (de_int)) (dss_one (ds_forR G (di_ref (de_var 1)) (dg_tup G (dgs_cons 2 G.nd (dgs_cons 3 G.nd (dgs_nil)))) (dss_one (ds_expr (de_meth F_Memory_set_number B.cls_Memory G (hr.mono (by omega)) (de_var 0) (da_cons (de_meth F_Memory_locate B.cls_Memory G (hr.mono (by omega)) (de_var 0) (da_cons (de_var 2) (da_nil))) (da_cons (de_strc (by decide +kernel)) (da_cons (de_var 3) (da_nil)))))))))))))) p_Memory_init
theorem sc_l_same_row : FnScope ["_law_actual", "_law_expected", "_law_k"] ["_law_actual", "_law_expected"] (defScope s_l_same_row) := by walk_at "sc"
theorem ok_l_same_row {n k : Nat} {f : Addr} {fd : FuncData} (F : FunD K "_law_same_row" "_law_same_row" (defArgs s_l_same_row) (defBody s_l_same_row) (defScope s_l_same_row) [] [] f fd) (B : Md w K mg) (F_l_same : FnM P w K mg base k "_law_same" (sp_l_same n)) : FnOk P w K mg base (L2N.CX P w) (k + 1) f fd ["_law_actual", "_law_expected"] (lsp K (sp_l_same_row (n + 1))) :=
  def_ok (N := ["_law_actual", "_law_expected", "_law_k"]) (k := k) (t := (w_l_same_row n)) F sc_l_same_row (by walk_at "sl")
    (fun cdv A outer s H E G hr => by exact dss_cons (ds_if (dt_cmp (op_neN G) od_eq (de_callB cb_len call_lenA B.n_len PySem.boot_len (da_cons (de_var 0) (da_nil))) (de_callB cb_len call_lenA B.n_len PySem.boot_len (da_cons (de_var 1) (da_nil))) (by walk_at "hm")) (dss_one (ds_ret (de_bl))) (dss_nil)) (dss_cons (ds_for G (di_rng1 B.n_range (da_cons (de_callB cb_len call_lenA B.n_len PySem.boot_len (da_cons (de_var 1) (da_nil))) (da_nil))) (dg_name 2 G.nd) (dss_one (ds_if (dt_not (dt_tru (de_call F_l_same G (hr.mono (by omega)) (da_cons (de_ix G (de_var 0) (de_var 2)) (da_cons (de_ix G (de_var 1) (de_var 2)) (da_nil)))))) (dss_one (ds_ret (de_bl))) (dss_nil)))) (dss_one (ds_ret (de_bl))))) (p_l_same_row n)
theorem ok_l_same_row_h {n k : Nat} {f : Addr} {fd : FuncData} (F : FunD K "_law_same_row" "_law_same_row" (defArgs s_l_same_row) (defBody s_l_same_row) (defScope s_l_same_row) [] [] f fd) (B : Md w K mg) (F_l_same : FnMH P w K mg base k "_law_same" (sp_l_same n)) : L2H.FnH P w K mg base (L2N.CX P w) (k + 1) f fd ["_law_actual", "_law_expected"] (lsp K (sp_l_same_row (n + 1))) :=
  def_okH (N := ["_law_actual", "_law_expected", "_law_k"]) (k := k) (t := (w_l_same_row n)) F sc_l_same_row (by walk_at "sl")
    (fun cdv A outer s H E p G hr => by exact dss_cons (ds_if (dt_cmp (op_neH G) od_eq (de_callB cb_len call_lenA B.n_len PySem.boot_len (da_cons (de_var 0) (da_nil))) (de_callB cb_len call_lenA B.n_len PySem.boot_len (da_cons (de_var 1) (da_nil))) (by walk_at "hm")) (dss_one (ds_ret (de_bl))) (dss_nil)) (dss_cons (ds_forH G (di_rng1H B.n_range (da_cons (de_callB cb_len call_lenA B.n_len PySem.boot_len (da_cons (de_var 1) (da_nil))) (da_nil))) (dg_name 2 G.nd) (dss_one (ds_if (dt_not (dt_tru (de_callH F_l_same G (hr.mono (by omega)) (da_cons (de_ixH G (de_var 0) (de_var 2)) (da_cons (de_ixH G (de_var 1) (de_var 2)) (da_nil)))))) (dss_one (ds_ret (de_bl))) (dss_nil)))) (dss_one (ds_ret (de_bl))))) (p_l_same_row n)
theorem sc_l_same : FnScope ["_law_actual", "_law_expected"] ["_law_actual", "_law_expected"] (defScope s_l_same) := by walk_at "sc"
theorem ok_l_same {n k : Nat} {f : Addr} {fd : FuncData} (F : FunD K "_law_same" "_law_same" (defArgs s_l_same) (defBody s_l_same) (defScope s_l_same) [] [] f fd) (B : Md w K mg) (F_l_same_row : FnM P w K mg base k "_law_same_row" (sp_l_same_row n)) : FnOk P w K mg base (L2N.CX P w) (k + 1) f fd ["_law_actual", "_law_expected"] (lsp K (sp_l_same n)) :=
  def_ok (N := ["_law_actual", "_law_expected"]) (k := k) (t := (w_l_same n)) F sc_l_same (by walk_at "sl")
    (fun cdv A outer s H E G hr => by exact dss_cons (ds_if (dt_cmp op_isN od_isN (de_var 1) (de_non) (by walk_at "hm")) (dss_one (ds_ret (de_cmp op_isN od_isN (de_var 0) (de_non) (by walk_at "hm")))) (dss_nil)) (dss_cons (ds_if (dt_tru (de_callB cb_isi call_isi B.n_isinstance PyProof.Rows.boot_isinstance (da_cons (de_var 1) (da_cons (de_ty B.n_bool PyProof.Rows.boot_bool) (da_nil))))) (dss_one (ds_ret (de_and (de_callB cb_isi call_isi B.n_isinstance PyProof.Rows.boot_isinstance (da_cons (de_var 0) (da_cons (de_ty B.n_bool PyProof.Rows.boot_bool) (da_nil)))) (de_one (de_cmp (op_eqN G) od_eq (de_var 0) (de_var 1) (by walk_at "hm")))))) (dss_nil)) (dss_cons (ds_if (dt_tru (de_callB cb_isi call_isi B.n_isinstance PyProof.Rows.boot_isinstance (da_cons (de_var 1) (da_cons (de_ty B.n_int PyProof.Rows.boot_int) (da_nil))))) (dss_one (ds_ret (de_and (de_callB cb_isi call_isi B.n_isinstance PyProof.Rows.boot_isinstance (da_cons (de_var 0) (da_cons (de_ty B.n_int PyProof.Rows.boot_int) (da_nil)))) (de_and (de_not (de_callB cb_isi call_isi B.n_isinstance PyProof.Rows.boot_isinstance (da_cons (de_var 0) (da_cons (de_ty B.n_bool PyProof.Rows.boot_bool) (da_nil))))) (de_one (de_cmp (op_eqN G) od_eq (de_var 0) (de_var 1) (by walk_at "hm"))))))) (dss_nil)) (dss_cons (ds_if (dt_tru (de_callB cb_isi call_isi B.n_isinstance PyProof.Rows.boot_isinstance (da_cons (de_var 1) (da_cons (de_ty B.n_str PyProof.Rows.boot_str) (da_nil))))) (dss_one (ds_ret (de_and (de_callB cb_isi call_isi B.n_isinstance PyProof.Rows.boot_isinstance (da_cons (de_var 0) (da_cons (de_ty B.n_str PyProof.Rows.boot_str) (da_nil)))) (de_one (de_cmp (op_eqN G) od_eq (de_var 0) (de_var 1) (by walk_at "hm")))))) (dss_nil)) (dss_cons (ds_if (dt_tru (de_callB cb_isi call_isi B.n_isinstance PyProof.Rows.boot_isinstance (da_cons (de_var 1) (da_cons (de_ty B.n_list PyProof.Rows.boot_list) (da_nil))))) (dss_one (ds_ret (de_and (de_callB cb_isi call_isi B.n_isinstance PyProof.Rows.boot_isinstance (da_cons (de_var 0) (da_cons (de_ty B.n_list PyProof.Rows.boot_list) (da_nil)))) (de_one (de_call F_l_same_row G (hr.mono (by omega)) (da_cons (de_var 0) (da_cons (de_var 1) (da_nil)))))))) (dss_nil)) (dss_one (ds_ret (de_and (de_callB cb_isi call_isi B.n_isinstance PyProof.Rows.boot_isinstance (da_cons (de_var 0) (da_cons (de_ty B.n_tuple PyProof.Rows.boot_tuple) (da_nil)))) (de_one (de_call F_l_same_row G (hr.mono (by omega)) (da_cons (de_var 0) (da_cons (de_var 1) (da_nil))))))))))))) (p_l_same n)
theorem ok_l_same_h {n k : Nat} {f : Addr} {fd : FuncData} (F : FunD K "_law_same" "_law_same" (defArgs s_l_same) (defBody s_l_same) (defScope s_l_same) [] [] f fd) (B : Md w K mg) (F_l_same_row : FnMH P w K mg base k "_law_same_row" (sp_l_same_row n)) : L2H.FnH P w K mg base (L2N.CX P w) (k + 1) f fd ["_law_actual", "_law_expected"] (lsp K (sp_l_same n)) :=
  def_okH (N := ["_law_actual", "_law_expected"]) (k := k) (t := (w_l_same n)) F sc_l_same (by walk_at "sl")
    (fun cdv A outer s H E p G hr => by exact dss_cons (ds_if (dt_cmp op_isN od_isN (de_var 1) (de_non) (by walk_at "hm")) (dss_one (ds_ret (de_cmp op_isN od_isN (de_var 0) (de_non) (by walk_at "hm")))) (dss_nil)) (dss_cons (ds_if (dt_tru (de_callB cb_isi call_isi B.n_isinstance PyProof.Rows.boot_isinstance (da_cons (de_var 1) (da_cons (de_ty B.n_bool PyProof.Rows.boot_bool) (da_nil))))) (dss_one (ds_ret (de_and (de_callB cb_isi call_isi B.n_isinstance PyProof.Rows.boot_isinstance (da_cons (de_var 0) (da_cons (de_ty B.n_bool PyProof.Rows.boot_bool) (da_nil)))) (de_one (de_cmp (op_eqH G) od_eq (de_var 0) (de_var 1) (by walk_at "hm")))))) (dss_nil)) (dss_cons (ds_if (dt_tru (de_callB cb_isi call_isi B.n_isinstance PyProof.Rows.boot_isinstance (da_cons (de_var 1) (da_cons (de_ty B.n_int PyProof.Rows.boot_int) (da_nil))))) (dss_one (ds_ret (de_and (de_callB cb_isi call_isi B.n_isinstance PyProof.Rows.boot_isinstance (da_cons (de_var 0) (da_cons (de_ty B.n_int PyProof.Rows.boot_int) (da_nil)))) (de_and (de_not (de_callB cb_isi call_isi B.n_isinstance PyProof.Rows.boot_isinstance (da_cons (de_var 0) (da_cons (de_ty B.n_bool PyProof.Rows.boot_bool) (da_nil))))) (de_one (de_cmp (op_eqH G) od_eq (de_var 0) (de_var 1) (by walk_at "hm"))))))) (dss_nil)) (dss_cons (ds_if (dt_tru (de_callB cb_isi call_isi B.n_isinstance PyProof.Rows.boot_isinstance (da_cons (de_var 1) (da_cons (de_ty B.n_str PyProof.Rows.boot_str) (da_nil))))) (dss_one (ds_ret (de_and (de_callB cb_isi call_isi B.n_isinstance PyProof.Rows.boot_isinstance (da_cons (de_var 0) (da_cons (de_ty B.n_str PyProof.Rows.boot_str) (da_nil)))) (de_one (de_cmp (op_eqH G) od_eq (de_var 0) (de_var 1) (by walk_at "hm")))))) (dss_nil)) (dss_cons (ds_if (dt_tru (de_callB cb_isi call_isi B.n_isinstance PyProof.Rows.boot_isinstance (da_cons (de_var 1) (da_cons (de_ty B.n_list PyProof.Rows.boot_list) (da_nil))))) (dss_one (ds_ret (de_and (de_callB cb_isi call_isi B.n_isinstance PyProof.Rows.boot_isinstance (da_cons (de_var 0) (da_cons (de_ty B.n_list PyProof.Rows.boot_list) (da_nil)))) (de_one (de_callH F_l_same_row G (hr.mono (by omega)) (da_cons (de_var 0) (da_cons (de_var 1) (da_nil)))))))) (dss_nil)) (dss_one (ds_ret (de_and (de_callB cb_isi call_isi B.n_isinstance PyProof.Rows.boot_isinstance (da_cons (de_var 0) (da_cons (de_ty B.n_tuple PyProof.Rows.boot_tuple) (da_nil)))) (de_one (de_callH F_l_same_row G (hr.mono (by omega)) (da_cons (de_var 0) (da_cons (de_var 1) (da_nil))))))))))))) (p_l_same n)
theorem sc_l_home : FnScope ["_law_node", "_law_parts_here", "_law_last", "_law_k"] ["_law_node"] (defScope s_l_home) := by walk_at "sc"
theorem ok_l_home {f : Addr} {fd : FuncData} (F : FunD K "_law_home" "_law_home" (defArgs s_l_home) (defBody s_l_home) (defScope s_l_home) [] [] f fd) (B : Md w K mg) (F_l_parts : FnM P w K mg base 1 "_law_parts" sp_l_parts) : FnOk P w K mg base (L2N.CX P w) (2) f fd ["_law_node"] (lsp K sp_l_home) :=
  def_ok (N := ["_law_node", "_law_parts_here", "_law_last", "_law_k"]) (k := 1) (t := w_l_home) F sc_l_home (by walk_at "sl")
    (fun cdv A outer s H E G hr => by exact dss_cons (ds_set 1 G (de_call F_l_parts G (hr.mono (by omega)) (da_cons (de_var 0) (da_nil)))) (dss_cons (ds_set 2 G (de_int)) (dss_cons (ds_for G (di_rng2 B.n_range (da_cons (de_int) (da_cons (de_callB cb_len call_lenA B.n_len PySem.boot_len (da_cons (de_var 1) (da_nil))) (da_nil)))) (dg_name 3 G.nd) (dss_one (ds_if (dt_cmp (op_eqN G) od_eq (de_ix G (de_ix G (de_var 1) (de_var 3)) (de_int)) (de_strc (by decide +kernel)) (by walk_at "hm")) (dss_one (ds_set 2 G (de_var 3))) (dss_nil)))) (dss_one (ds_ret (de_lst (da_cons (de_mt PySem.F.plainAttrs_str PySem.F.slot_str_join PySem.F.type_str_join md_join mt_join (de_strc (by decide +kernel)) (da_cons (de_sl (de_var 1) (do_none) (do_some (de_op op_addA od_add (de_var 2) (de_int)))) (da_nil))) (da_cons (de_mt PySem.F.plainAttrs_str PySem.F.slot_str_join PySem.F.type_str_join md_join mt_join (de_strc (by decide +kernel)) (da_cons (de_sl (de_var 1) (do_some (de_op op_addA od_add (de_var 2) (de_int))) (do_none)) (da_nil))) (da_nil))))))))) p_l_home
theorem sc_l_address : FnScope ["_law_actual", "_law_node"] ["_law_actual", "_law_node"] (defScope s_l_address) := by walk_at "sc"
theorem ok_l_address {f : Addr} {fd : FuncData} (F : FunD K "_law_address" "_law_address" (defArgs s_l_address) (defBody s_l_address) (defScope s_l_address) [] [] f fd) (B : Md w K mg) (F_l_same : FnM P w K mg base 17 "_law_same" (sp_l_same 8)) (F_l_home : FnM P w K mg base 2 "_law_home" sp_l_home) : FnOk P w K mg base (L2N.CX P w) (18) f fd ["_law_actual", "_law_node"] (lsp K sp_l_address) :=
  def_ok (N := ["_law_actual", "_law_node"]) (k := 17) (t := w_l_address) F sc_l_address (by walk_at "sl")
    (fun cdv A outer s H E G hr => by exact dss_cons (ds_if (dt_w (dw_or (dt_not (dt_tru (de_callB cb_isi call_isi B.n_isinstance PyProof.Rows.boot_isinstance (da_cons (de_var 0) (da_cons (de_ty B.n_tuple PyProof.Rows.boot_tuple) (da_nil)))))) (dw_or (dt_cmp (op_neN G) od_eq (de_callB cb_len call_lenA B.n_len PySem.boot_len (da_cons (de_var 0) (da_nil))) (de_int) (by walk_at "hm")) (dw_or1 (dt_not (dt_tru (de_call F_l_same G (hr.mono (by omega)) (da_cons (de_ix G (de_var 0) (de_int)) (da_cons (de_ix G (de_call F_l_home G (hr.mono (by omega)) (da_cons (de_var 1) (da_nil))) (de_int)) (da_nil)))))))))) (dss_one (ds_ret (de_bl))) (dss_nil)) (dss_one (ds_ret (de_and (de_callB cb_isi call_isi B.n_isinstance PyProof.Rows.boot_isinstance (da_cons (de_ix G (de_var 0) (de_int)) (da_cons (de_ty B.n_int PyProof.Rows.boot_int) (da_nil)))) (de_one (de_not (de_callB cb_isi call_isi B.n_isinstance PyProof.Rows.boot_isinstance (da_cons (de_ix G (de_var 0) (de_int)) (da_cons (de_ty B.n_bool PyProof.Rows.boot_bool) (da_nil)))))))))) p_l_address
theorem sc_l_relation : FnScope ["_law_place_here", "_law_other", "_law_mine", "_law_theirs", "_law_word", "_law_rest", "_law_least", "_law_step_here"] ["_law_place_here", "_law_other"] (defScope s_l_relation) := by walk_at "sc"
theorem ok_l_relation {f : Addr} {fd : FuncData} (F : FunD K "_law_relation" "_law_relation" (defArgs s_l_relation) (defBody s_l_relation) (defScope s_l_relation) [] [] f fd) (B : Md w K mg) (F_l_parts : FnM P w K mg base 1 "_law_parts" sp_l_parts) : FnOk P w K mg base (L2N.CX P w) (2) f fd ["_law_place_here", "_law_other"] (lsp K sp_l_relation) :=
  def_ok (N := ["_law_place_here", "_law_other", "_law_mine", "_law_theirs", "_law_word", "_law_rest", "_law_least", "_law_step_here"]) (k := 1) (t := w_l_relation) F sc_l_relation (by walk_at "sl")
    (fun cdv A outer s H E G hr => by exact dss_cons (ds_set 2 G (de_call F_l_parts G (hr.mono (by omega)) (da_cons (de_var 0) (da_nil)))) (dss_cons (ds_set 3 G (de_call F_l_parts G (hr.mono (by omega)) (da_cons (de_var 1) (da_nil)))) (dss_cons (ds_set 4 G (de_str)) (dss_cons (ds_set 5 G (de_sl (de_var 3) (do_some (de_callB cb_len call_lenA B.n_len PySem.boot_len (da_cons (de_var 2) (da_nil)))) (do_none))) (dss_cons (ds_if (dt_cmp (op_eqN G) od_eq (de_var 2) (de_var 3) (by walk_at "hm")) (dss_one (ds_ret (de_str))) (dss_nil)) (dss_cons (ds_if (dt_cmp op_gt od_b (de_callB cb_len call_lenA B.n_len PySem.boot_len (da_cons (de_var 2) (da_nil))) (de_callB cb_len call_lenA B.n_len PySem.boot_len (da_cons (de_var 3) (da_nil))) (by walk_at "hm")) (dss_cons (ds_set 4 G (de_str)) (dss_one (ds_set 5 G (de_sl (de_var 2) (do_some (de_callB cb_len call_lenA B.n_len PySem.boot_len (da_cons (de_var 3) (da_nil)))) (do_none))))) (dss_nil)) (dss_cons (ds_set 6 G (de_callB cb_min (call_min2 G.calm) B.n_min PyProof.Rows.boot_min (da_cons (de_callB cb_len call_lenA B.n_len PySem.boot_len (da_cons (de_var 2) (da_nil))) (da_cons (de_callB cb_len call_lenA B.n_len PySem.boot_len (da_cons (de_var 3) (da_nil))) (da_nil))))) (dss_cons (ds_if (dt_w (dw_or (dt_cmp (op_neN G) od_eq (de_sl (de_var 2) (do_none) (do_some (de_var 6))) (de_sl (de_var 3) (do_none) (do_some (de_var 6))) (by walk_at "hm")) (dw_or1 (dt_cmp (op_eqN G) od_eq (de_var 5) (de_lst (da_nil)) (by walk_at "hm"))))) (dss_one (ds_ret (de_str))) (dss_nil)) (dss_cons (ds_for G (di_any (de_var 5)) (dg_name 7 G.nd) (dss_one (ds_if (dt_cmp (op_eqN G) od_eq (de_ix G (de_var 7) (de_int)) (de_strc (by decide +kernel)) (by walk_at "hm")) (dss_one (ds_ret (de_op op_addA od_add (de_var 4) (de_str)))) (dss_nil)))) (dss_one (ds_ret (de_var 4)))))))))))) p_l_relation
theorem sc_l_stays : FnScope ["_law_node", "_law_packs", "_law_packed"] ["_law_node", "_law_packs"] (defScope s_l_stays) := by walk_at "sc"
theorem ok_l_stays {f : Addr} {fd : FuncData} (F : FunD K "_law_stays" "_law_stays" (defArgs s_l_stays) (defBody s_l_stays) (defScope s_l_stays) [] [] f fd) (B : Md w K mg) (F_l_relation : FnM P w K mg base 2 "_law_relation" sp_l_relation) : FnOk P w K mg base (L2N.CX P w) (3) f fd ["_law_node", "_law_packs"] (lsp K sp_l_stays) :=
  def_ok (N := ["_law_node", "_law_packs", "_law_packed"]) (k := 2) (t := w_l_stays) F sc_l_stays (by walk_at "sl")
    (fun cdv A outer s H E G hr => by exact dss_one (ds_ret (de_callB cb_all (cr_all G.calm) B.n_all PyProof.Rows.boot_all (da_cons (de_frz (de_lc1 [("_law_packed", 2)] G (di_any (de_var 1)) (fun _ _ _ _ _ G => bk1 (dgw_name 2 G.nd) (dts_nil) (de_cmp (op_neN G) od_eq (de_call F_l_relation G (hr.mono (by omega)) (da_cons (de_var 0) (da_cons (de_var 2) (da_nil)))) (de_str) (by walk_at "hm"))))) (da_nil))))) p_l_stays
theorem sc_Memory_number : FnScope ["self", "address", "tail"] ["self", "address", "tail"] (defScope s_Memory_number) := by walk_at "sc"
theorem ok_Memory_number {f : Addr} {fd : FuncData} (F : FunD K "number" "Memory.number" (defArgs s_Memory_number) (defBody s_Memory_number) (defScope s_Memory_number) [] [] f fd) (B : Md w K mg) (F_Memory__check : FnC P w K mg base 3 "Memory" "_check" sp_Memory__check) (F_Memory__walk : FnC P w K mg base 3 "Memory" "_walk" sp_Memory__walk) : FnOk P w K mg base (L2N.CX P w) (4) f fd ["self", "address", "tail"] (lsp K sp_Memory_number) :=
  def_ok (N := ["self", "address", "tail"]) (k := 3) (t := w_Memory_number) F sc_Memory_number (by intro ds M Q E h; unfold sp_Memory_number at h; rcases h with h | h <;> first | (obtain ⟨rfl, _⟩ := h; rfl) | (obtain ⟨_, rfl, _⟩ := h; rfl) | (obtain ⟨_, _, rfl, _⟩ := h; rfl) | (obtain ⟨_, _, _, rfl, _⟩ := h; rfl) | (obtain ⟨_, _, _, _, rfl, _⟩ := h; rfl) | (obtain ⟨_, _, _, _, _, rfl, _⟩ := h; rfl) | (obtain ⟨_, _, _, _, _, _, rfl, _⟩ := h; rfl) | (obtain ⟨_, _, _, _, _, _, _, rfl, _⟩ := h; rfl) | (obtain ⟨_, _, _, _, _, _, _, _, rfl, _⟩ := h; rfl) | (obtain ⟨_, _, _, _, _, _, _, _, _, rfl, _⟩ := h; rfl) | (obtain ⟨_, _, _, _, _, _, _, _, _, _, rfl, _⟩ := h; rfl) | (obtain ⟨_, _, _, _, _, _, _, _, _, _, _, rfl, _⟩ := h; rfl) | (obtain ⟨_, _, _, _, _, _, _, _, _, _, _, _, rfl, _⟩ := h; rfl) | (obtain ⟨_, _, _, _, _, _, _, _, _, _, _, _, _, rfl, _⟩ := h; rfl) | (obtain ⟨_, _, _, _, _, _, _, _, _, _, _, _, _, _, rfl, _⟩ := h; rfl) | (obtain ⟨_, _, _, _, _, _, _, _, _, _, _, _, _, _, _, rfl, _⟩ := h; rfl) | (obtain ⟨_, _, _, _, _, _, _, _, _, _, _, _, _, _, _, _, rfl, _⟩ := h; rfl) | (obtain ⟨_, _, _, _, _, _, _, _, _, _, _, _, _, _, _, _, _, rfl, _⟩ := h; rfl) | (obtain ⟨_, _, _, _, _, _, _, _, _, _, _, _, _, _, _, _, _, _, rfl, _⟩ := h; rfl) | (obtain ⟨_, _, _, _, _, _, _, _, _, _, _, _, _, _, _, _, _, _, _, rfl, _⟩ := h; rfl) | (obtain ⟨_, _, _, _, _, _, _, _, _, _, _, _, _, _, _, _, _, _, _, _, rfl, _⟩ := h; rfl) | (obtain ⟨_, _, _, _, _, _, _, _, _, _, _, _, _, _, _, _, _, _, _, _, _, rfl, _⟩ := h; rfl))
    (fun cdv A outer s H E G hr => by exact dss_cons (ds_expr (de_meth F_Memory__check B.cls_Memory G (hr.mono (by omega)) (de_var 0) (da_cons (de_var 1) (da_nil)))) (dss_one (ds_ret (de_dgetT G (de_fld B.cls_Memory B.na_Memorynumbers (de_var 0)) (de_meth F_Memory__walk B.cls_Memory G (hr.mono (by omega)) (de_var 0) (da_cons (de_var 1) (da_cons (de_var 2) (da_nil)))) (de_int) ⟨by rfl, by rfl, by rfl, by rfl⟩)))) p_Memory_number
theorem sc_in_order : FnScope ["numbers", "texts", "text"] ["numbers"] (defScope s_in_order) := by walk_at "sc"
theorem ok_in_order {f : Addr} {fd : FuncData} (F : FunD K "in_order" "in_order" (defArgs s_in_order) (defBody s_in_order) (defScope s_in_order) [] [] f fd) (B : Md w K mg)  : FnOk P w K mg base (L2N.CX P w) (1) f fd ["numbers"] (lsp K sp_in_order) :=
  def_ok (N := ["numbers", "texts", "text"]) (k := 0) (t := w_in_order) F sc_in_order (by walk_at "sl")
    (fun cdv A outer s H E G hr => by exact dss_cons (ds_lock 0 (ds_set 1 G (de_callB cb_sorted cr_sortedSA B.n_sorted PyProof.Rows.boot_sorted (da_cons (de_frz (de_lcP [("text", 2)] G (di_keys (de_var 0)) (fun _ _ _ _ _ G => ⟨dgw_name 2 G.nd, dts_one (dt_cmp (op_neN G) od_eq (de_ix G (de_var 0) (de_var 2)) (de_int) (by walk_at "hm")), de_callTy cb_str call_str1 B.n_str PyProof.Rows.boot_str (da_cons (de_var 2) (da_nil))⟩))) (da_nil))))) (dss_one (ds_ret (de_frz (de_lc1 [("text", 2)] G (di_any (de_var 1)) (fun _ _ _ _ _ G => bk1 (dgw_name 2 G.nd) (dts_nil) (de_tup (da_cons (de_var 2) (da_cons (de_ix G (de_var 0) (de_var 2)) (da_nil)))))))))) p_in_order
theorem sc_lies_beneath : FnScope ["inner", "outer"] ["inner", "outer"] (defScope s_lies_beneath) := by walk_at "sc"
theorem ok_lies_beneath {f : Addr} {fd : FuncData} (F : FunD K "lies_beneath" "lies_beneath" (defArgs s_lies_beneath) (defBody s_lies_beneath) (defScope s_lies_beneath) [] [] f fd) (B : Md w K mg)  : FnOk P w K mg base (L2N.CX P w) (1) f fd ["inner", "outer"] (lsp K sp_lies_beneath) :=
  def_ok (N := ["inner", "outer"]) (k := 0) (t := w_lies_beneath) F sc_lies_beneath (by walk_at "sl")
    (fun cdv A outer s H E G hr => by exact dss_one (ds_ret (de_and (de_cmp op_gt od_b (de_callB cb_len call_lenA B.n_len PySem.boot_len (da_cons (de_var 0) (da_nil))) (de_callB cb_len call_lenA B.n_len PySem.boot_len (da_cons (de_var 1) (da_nil))) (by walk_at "hm")) (de_and (de_mt PySem.F.plainAttrs_str PySem.F.slot_str_startswith PySem.F.type_str_startswith md_starts mt_startswith (de_var 0) (da_cons (de_var 1) (da_nil))) (de_one (de_cmp (op_inN G) od_in (de_ix G (de_var 0) (de_callB cb_len call_lenA B.n_len PySem.boot_len (da_cons (de_var 1) (da_nil)))) (de_gsc B.c_MARKS (by decide +kernel)) (by walk_at "hm"))))))) p_lies_beneath
theorem sc_Memory__collect : FnScope ["self", "address", "start", "found", "waiting", "block", "inner", "text", "place", "n", "content"] ["self", "address", "start"] (defScope s_Memory__collect) := by walk_at "sc"
theorem ok_Memory__collect {f : Addr} {fd : FuncData} (F : FunD K "_collect" "Memory._collect" (defArgs s_Memory__collect) (defBody s_Memory__collect) (defScope s_Memory__collect) [] [] f fd) (B : Md w K mg) (F_lies_beneath : FnM P w K mg base 1 "lies_beneath" sp_lies_beneath) : FnOk P w K mg base (L2N.CX P w) (2) f fd ["self", "address", "start"] (lsp K sp_Memory__collect) :=
  def_ok (N := ["self", "address", "start", "found", "waiting", "block", "inner", "text", "place", "n", "content"]) (k := 1) (t := w_Memory__collect) F sc_Memory__collect (by walk_at "sl")
    (fun cdv A outer s H E G hr => by exact dss_cons (ds_set 3 G (de_dict0)) (dss_cons (ds_set 4 G (de_lstM (da_cons (de_tup (da_cons (de_var 1) (da_cons (de_var 2) (da_nil)))) (da_nil)))) (dss_cons (ds_while G (dt_tru (de_var 4)) (dss_cons (ds_asg (de_mt0 PySem.F.plainAttrs_list PySem.F.slot_list_pop PySem.F.type_list_pop md_pop mt_pop (de_var 4)) (dg_tup G (dgs_consG (dg_tup G (dgs_cons 5 G.nd (dgs_cons 6 G.nd (dgs_nil)))) (dgs_cons 7 G.nd (dgs_nil))))) (dss_cons (ds_lockT (ds_forT G (de_fld B.cls_Memory B.na_Memorynumbers (de_var 0)) (dg_tup G (dgs_cons 8 G.nd (dgs_cons 9 G.nd (dgs_nil)))) (dss_one (ds_if (dt_w (dw_and (dt_cmp (op_eqN G) od_eq (de_ix G (de_var 8) (de_int)) (de_var 5) (by walk_at "hm")) (dw_and1 (dt_w (dw_or (dt_cmp (op_eqN G) od_eq (de_ix G (de_var 8) (de_int)) (de_var 6) (by walk_at "hm")) (dw_or1 (dt_tru (de_call F_lies_beneath G (hr.mono (by omega)) (da_cons (de_ix G (de_var 8) (de_int)) (da_cons (de_var 6) (da_nil))))))))))) (dss_one (ds_asg (de_var 9) (dg_setA G (de_var 3) (de_op op_addA od_add (de_var 7) (de_sl (de_ix G (de_var 8) (de_int)) (do_some (de_callB cb_len call_lenA B.n_len PySem.boot_len (da_cons (de_var 6) (da_nil)))) (do_none)))))) (dss_nil))))) (dss_one (ds_lockT (ds_forT G (de_fld B.cls_Memory B.na_Memoryboxes (de_var 0)) (dg_tup G (dgs_cons 8 G.nd (dgs_cons 10 G.nd (dgs_nil)))) (dss_one (ds_if (dt_w (dw_and (dt_cmp (op_eqN G) od_eq (de_ix G (de_var 8) (de_int)) (de_var 5) (by walk_at "hm")) (dw_and1 (dt_tru (de_call F_lies_beneath G (hr.mono (by omega)) (da_cons (de_ix G (de_var 8) (de_int)) (da_cons (de_var 6) (da_nil)))))))) (dss_one (ds_expr (de_mt PySem.F.plainAttrs_list PySem.F.slot_list_append PySem.F.type_list_append md_append mt_append (de_var 4) (da_cons (de_tup (da_cons (de_tup (da_cons (de_var 10) (da_cons (de_strc (by decide +kernel)) (da_nil)))) (da_cons (de_op op_addA od_add (de_var 7) (de_sl (de_ix G (de_var 8) (de_int)) (do_some (de_callB cb_len call_lenA B.n_len PySem.boot_len (da_cons (de_var 6) (da_nil)))) (do_none))) (da_nil)))) (da_nil))))) (dss_nil))))))))) (dss_one (ds_ret (de_var 3)))))) p_Memory__collect
theorem sc_Memory_part : FnScope ["self", "address"] ["self", "address"] (defScope s_Memory_part) := by walk_at "sc"
theorem ok_Memory_part {f : Addr} {fd : FuncData} (F : FunD K "part" "Memory.part" (defArgs s_Memory_part) (defBody s_Memory_part) (defScope s_Memory_part) [] [] f fd) (B : Md w K mg) (F_Memory__check : FnC P w K mg base 3 "Memory" "_check" sp_Memory__check) (F_in_order : FnM P w K mg base 1 "in_order" sp_in_order) (F_Memory__collect : FnC P w K mg base 2 "Memory" "_collect" sp_Memory__collect) : FnOk P w K mg base (L2N.CX P w) (4) f fd ["self", "address"] (lsp K sp_Memory_part) :=
  def_ok (N := ["self", "address"]) (k := 3) (t := w_Memory_part) F sc_Memory_part (by walk_at "sl")
    (fun cdv A outer s H E G hr => by exact dss_cons (ds_expr (de_meth F_Memory__check B.cls_Memory G (hr.mono (by omega)) (de_var 0) (da_cons (de_var 1) (da_nil)))) (dss_one (ds_ret (de_call F_in_order G (hr.mono (by omega)) (da_cons (de_meth F_Memory__collect B.cls_Memory G (hr.mono (by omega)) (de_var 0) (da_cons (de_var 1) (da_cons (de_strc (by decide +kernel)) (da_nil)))) (da_nil)))))) p_Memory_part
theorem sc_Memory__move : FnScope ["self", "key", "old", "new", "place"] ["self", "key"] (defScope s_Memory__move) := by walk_at "sc"
theorem ok_Memory__move {f : Addr} {fd : FuncData} (F : FunD K "_move" "Memory._move" (defArgs s_Memory__move) (defBody s_Memory__move) (defScope s_Memory__move) [] [] f fd) (B : Md w K mg) (F_Memory__new_block : FnC P w K mg base 1 "Memory" "_new_block" sp_Memory__new_block) : FnOk P w K mg base (L2N.CX P w) (2) f fd ["self", "key"] (lsp K sp_Memory__move) :=
  def_ok (N := ["self", "key", "old", "new", "place"]) (k := 1) (t := w_Memory__move) F sc_Memory__move (by walk_at "sl")
    (fun cdv A outer s H E G hr => by exact dss_cons (ds_set 2 G (de_ixT G (de_fld B.cls_Memory B.na_Memoryboxes (de_var 0)) (de_var 1))) (dss_cons (ds_set 3 G (de_meth0 F_Memory__new_block B.cls_Memory G (hr.mono (by omega)) (de_var 0))) (dss_cons (ds_for G (di_any (de_callTy cb_listT (call_list_dT G.calm) B.n_list PyProof.Rows.boot_list (da_cons (de_fld B.cls_Memory B.na_Memorynumbers (de_var 0)) (da_nil)))) (dg_name 4 G.nd) (dss_one (ds_if (dt_cmp (op_eqN G) od_eq (de_ix G (de_var 4) (de_int)) (de_var 2) (by walk_at "hm")) (dss_one (ds_asg (de_mt PySem.F.plainAttrs_dict PySem.F.slot_dict_pop PySem.F.type_dict_pop md_popT (mt_popT1 G.hu1) (de_fld B.cls_Memory B.na_Memorynumbers (de_var 0)) (da_cons (de_var 4) (da_nil))) (dg_setT G (de_fld B.cls_Memory B.na_Memorynumbers (de_var 0)) (de_tup (da_cons (de_var 3) (da_cons (de_ix G (de_var 4) (de_int)) (da_nil))))))) (dss_nil)))) (dss_cons (ds_for G (di_any (de_callTy cb_listT (call_list_dT G.calm) B.n_list PyProof.Rows.boot_list (da_cons (de_fld B.cls_Memory B.na_Memoryboxes (de_var 0)) (da_nil)))) (dg_name 4 G.nd) (dss_one (ds_if (dt_cmp (op_eqN G) od_eq (de_ix G (de_var 4) (de_int)) (de_var 2) (by walk_at "hm")) (dss_one (ds_asg (de_mt PySem.F.plainAttrs_dict PySem.F.slot_dict_pop PySem.F.type_dict_pop md_popT (mt_popT1 G.hu1) (de_fld B.cls_Memory B.na_Memoryboxes (de_var 0)) (da_cons (de_var 4) (da_nil))) (dg_setT G (de_fld B.cls_Memory B.na_Memoryboxes (de_var 0)) (de_tup (da_cons (de_var 3) (da_cons (de_ix G (de_var 4) (de_int)) (da_nil))))))) (dss_nil)))) (dss_cons (ds_asg (de_bl) (dg_setA G (de_fld B.cls_Memory B.na_Memorygone (de_var 0)) (de_var 2))) (dss_cons (ds_asg (de_var 3) (dg_setT G (de_fld B.cls_Memory B.na_Memoryboxes (de_var 0)) (de_var 1))) (dss_one (ds_ret (de_var 3))))))))) p_Memory__move
theorem sc_Memory_pack : FnScope ["self", "address", "tail", "regions", "block", "inner", "key"] ["self", "address", "tail"] (defScope s_Memory_pack) := by walk_at "sc"
theorem ok_Memory_pack {f : Addr} {fd : FuncData} (F : FunD K "pack" "Memory.pack" (defArgs s_Memory_pack) (defBody s_Memory_pack) (defScope s_Memory_pack) [] [] f fd) (B : Md w K mg) (F_Memory__check : FnC P w K mg base 3 "Memory" "_check" sp_Memory__check) (F_Memory__walk : FnC P w K mg base 3 "Memory" "_walk" sp_Memory__walk) (F_lies_beneath : FnM P w K mg base 1 "lies_beneath" sp_lies_beneath) (F_Memory__move : FnC P w K mg base 2 "Memory" "_move" sp_Memory__move) : FnOk P w K mg base (L2N.CX P w) (4) f fd ["self", "address", "tail"] (lsp K sp_Memory_pack) :=
  def_ok (N := ["self", "address", "tail", "regions", "block", "inner", "key"]) (k := 3) (t := w_Memory_pack) F sc_Memory_pack (by intro ds M Q E h; unfold sp_Memory_pack at h; rcases h with h | h <;> first | (obtain ⟨rfl, _⟩ := h; rfl) | (obtain ⟨_, rfl, _⟩ := h; rfl) | (obtain ⟨_, _, rfl, _⟩ := h; rfl) | (obtain ⟨_, _, _, rfl, _⟩ := h; rfl) | (obtain ⟨_, _, _, _, rfl, _⟩ := h; rfl) | (obtain ⟨_, _, _, _, _, rfl, _⟩ := h; rfl) | (obtain ⟨_, _, _, _, _, _, rfl, _⟩ := h; rfl) | (obtain ⟨_, _, _, _, _, _, _, rfl, _⟩ := h; rfl) | (obtain ⟨_, _, _, _, _, _, _, _, rfl, _⟩ := h; rfl) | (obtain ⟨_, _, _, _, _, _, _, _, _, rfl, _⟩ := h; rfl) | (obtain ⟨_, _, _, _, _, _, _, _, _, _, rfl, _⟩ := h; rfl) | (obtain ⟨_, _, _, _, _, _, _, _, _, _, _, rfl, _⟩ := h; rfl) | (obtain ⟨_, _, _, _, _, _, _, _, _, _, _, _, rfl, _⟩ := h; rfl) | (obtain ⟨_, _, _, _, _, _, _, _, _, _, _, _, _, rfl, _⟩ := h; rfl) | (obtain ⟨_, _, _, _, _, _, _, _, _, _, _, _, _, _, rfl, _⟩ := h; rfl) | (obtain ⟨_, _, _, _, _, _, _, _, _, _, _, _, _, _, _, rfl, _⟩ := h; rfl) | (obtain ⟨_, _, _, _, _, _, _, _, _, _, _, _, _, _, _, _, rfl, _⟩ := h; rfl) | (obtain ⟨_, _, _, _, _, _, _, _, _, _, _, _, _, _, _, _, _, rfl, _⟩ := h; rfl) | (obtain ⟨_, _, _, _, _, _, _, _, _, _, _, _, _, _, _, _, _, _, rfl, _⟩ := h; rfl) | (obtain ⟨_, _, _, _, _, _, _, _, _, _, _, _, _, _, _, _, _, _, _, rfl, _⟩ := h; rfl) | (obtain ⟨_, _, _, _, _, _, _, _, _, _, _, _, _, _, _, _, _, _, _, _, rfl, _⟩ := h; rfl) | (obtain ⟨_, _, _, _, _, _, _, _, _, _, _, _, _, _, _, _, _, _, _, _, _, rfl, _⟩ := h; rfl))
    (fun cdv A outer s H E G hr => by exact dss_cons (ds_expr (de_meth F_Memory__check B.cls_Memory G (hr.mono (by omega)) (de_var 0) (da_cons (de_var 1) (da_nil)))) (dss_cons (ds_set 3 G (de_lstM (da_cons (de_meth F_Memory__walk B.cls_Memory G (hr.mono (by omega)) (de_var 0) (da_cons (de_var 1) (da_cons (de_var 2) (da_nil)))) (da_nil)))) (dss_one (ds_while G (dt_tru (de_var 3)) (dss_cons (ds_asg (de_mt0 PySem.F.plainAttrs_list PySem.F.slot_list_pop PySem.F.type_list_pop md_pop mt_pop (de_var 3)) (dg_tup G (dgs_cons 4 G.nd (dgs_cons 5 G.nd (dgs_nil))))) (dss_one (ds_for G (di_any (de_callTy cb_listT (call_list_dT G.calm) B.n_list PyProof.Rows.boot_list (da_cons (de_fld B.cls_Memory B.na_Memoryboxes (de_var 0)) (da_nil)))) (dg_name 6 G.nd) (dss_one (ds_if (dt_w (dw_and (dt_cmp (op_eqN G) od_eq (de_ix G (de_var 6) (de_int)) (de_var 4) (by walk_at "hm")) (dw_and1 (dt_tru (de_call F_lies_beneath G (hr.mono (by omega)) (da_cons (de_ix G (de_var 6) (de_int)) (da_cons (de_var 5) (da_nil)))))))) (dss_one (ds_expr (de_mt PySem.F.plainAttrs_list PySem.F.slot_list_append PySem.F.type_list_append md_append mt_append (de_var 3) (da_cons (de_tup (da_cons (de_meth F_Memory__move B.cls_Memory G (hr.mono (by omega)) (de_var 0) (da_cons (de_var 6) (da_nil))) (da_cons (de_strc (by decide +kernel)) (da_nil)))) (da_nil))))) (dss_nil)))))))))) p_Memory_pack
theorem sc_l_refused : FnScope ["_law_memory", "_law_deed", "_law_address_here", "_law_tail_here", "e"] ["_law_memory", "_law_deed", "_law_address_here", "_law_tail_here"] (defScope s_l_refused) := by walk_at "sc"
theorem ok_l_refused {f : Addr} {fd : FuncData} (F : FunD K "_law_refused" "_law_refused" (defArgs s_l_refused) (defBody s_l_refused) (defScope s_l_refused) [] [] f fd) (B : Md w K mg) (F_Memory_number : FnC P w K mg base 4 "Memory" "number" sp_Memory_number) (F_Memory_set_number : FnC P w K mg base 4 "Memory" "set_number" sp_Memory_set_number) (F_Memory_part : FnC P w K mg base 4 "Memory" "part" sp_Memory_part) (F_Memory_pack : FnC P w K mg base 4 "Memory" "pack" sp_Memory_pack) (F_l_same : FnM P w K mg base 17 "_law_same" (sp_l_same 8)) (FH_l_same : FnMH P w K mg base 17 "_law_same" (sp_l_same 8)) : FnOk P w K mg base (L2N.CX P w) (18) f fd ["_law_memory", "_law_deed", "_law_address_here", "_law_tail_here"] (lsp K sp_l_refused) :=
  def_ok (N := ["_law_memory", "_law_deed", "_law_address_here", "_law_tail_here", "e"]) (k := 17) (t := w_l_refused) F sc_l_refused (by walk_at "sl")
    (fun cdv A outer s H E G hr => by exact dss_cons (ds_tryas 4 B.errT_all G B.k_LentError (fun W1 pn xe G => dss_one (ds_if (dt_cmp (op_eqN G) od_eq (de_var 1) (de_str) (by walk_at "hm")) (dss_one (ds_expr (de_meth F_Memory_number B.cls_Memory G (hr.mono (by omega)) (de_var 0) (da_cons (de_var 2) (da_cons (de_var 3) (da_nil)))))) (dss_one (ds_if (dt_cmp (op_eqN G) od_eq (de_var 1) (de_str) (by walk_at "hm")) (dss_one (ds_expr (de_meth F_Memory_set_number B.cls_Memory G (hr.mono (by omega)) (de_var 0) (da_cons (de_var 2) (da_cons (de_var 3) (da_cons (de_int) (da_nil))))))) (dss_one (ds_if (dt_cmp (op_eqN G) od_eq (de_var 1) (de_str) (by walk_at "hm")) (dss_one (ds_expr (de_meth F_Memory_part B.cls_Memory G (hr.mono (by omega)) (de_var 0) (da_cons (de_var 2) (da_nil))))) (dss_one (ds_expr (de_meth F_Memory_pack B.cls_Memory G (hr.mono (by omega)) (de_var 0) (da_cons (de_var 2) (da_cons (de_var 3) (da_nil)))))))))))) (fun a dd C oe pn hC hz hf => dss_one (ds_ret (de_and (de_callB (cb_isE B.errT_all hC) (call_isEx B.errT_all hC hz hf) B.n_isinstance PyProof.Rows.boot_isinstance (da_cons (de_var 4) (da_cons (de_cls B.k_Stale) (da_nil)))) (de_and (de_callB (cb_isE B.errT_all hC) (call_isEx B.errT_all hC hz hf) B.n_isinstance PyProof.Rows.boot_isinstance (da_cons (de_var 4) (da_cons (de_ty B.n_ValueError PyProof.Rows.Boot.«ValueError») (da_nil)))) (de_one (de_callSh FH_l_same hz hf (hr.mono (by omega)) (da_cons (de_xf B.errT_all hC (B.errno_address _ hC) hz hf (de_var 4)) (da_cons (de_var 2) (da_nil)))))))))) (dss_one (ds_ret (de_bl)))) p_l_refused
theorem sc_Memory_pairs : FnScope ["self", "found", "root", "block"] ["self"] (defScope s_Memory_pairs) := by walk_at "sc"
theorem ok_Memory_pairs {f : Addr} {fd : FuncData} (F : FunD K "pairs" "Memory.pairs" (defArgs s_Memory_pairs) (defBody s_Memory_pairs) (defScope s_Memory_pairs) [] [] f fd) (B : Md w K mg) (F_Memory__collect : FnC P w K mg base 2 "Memory" "_collect" sp_Memory__collect) (F_in_order : FnM P w K mg base 1 "in_order" sp_in_order) : FnOk P w K mg base (L2N.CX P w) (3) f fd ["self"] (lsp K sp_Memory_pairs) :=
  def_ok (N := ["self", "found", "root", "block"]) (k := 2) (t := w_Memory_pairs) F sc_Memory_pairs (by walk_at "sl")
    (fun cdv A outer s H E G hr => by exact dss_cons (ds_set 1 G (de_dict0)) (dss_cons (ds_lockD (ds_forI G (de_fld B.cls_Memory B.na_Memoryroots (de_var 0)) (dg_tup G (dgs_cons 2 G.nd (dgs_cons 3 G.nd (dgs_nil)))) (dss_one (ds_expr (de_mt PySem.F.plainAttrs_dict PySem.F.slot_dict_update PySem.F.type_dict_update md_updK mt_updK (de_var 1) (da_cons (de_meth F_Memory__collect B.cls_Memory G (hr.mono (by omega)) (de_var 0) (da_cons (de_tup (da_cons (de_var 3) (da_cons (de_strc (by decide +kernel)) (da_nil)))) (da_cons (de_var 2) (da_nil)))) (da_nil))))))) (dss_one (ds_ret (de_call F_in_order G (hr.mono (by omega)) (da_cons (de_var 1) (da_nil))))))) p_Memory_pairs
theorem sc_l_ordered : FnScope ["_law_pairs", "_law_last", "_law_node", "_law_number", "_law_rows", "_law_text"] ["_law_pairs"] (defScope s_l_ordered) := by walk_at "sc"
theorem ok_l_ordered {f : Addr} {fd : FuncData} (F : FunD K "_law_ordered" "_law_ordered" (defArgs s_l_ordered) (defBody s_l_ordered) (defScope s_l_ordered) [] [] f fd) (B : Md w K mg)  : FnOk P w K mg base (L2N.CX P w) (1) f fd ["_law_pairs"] (lsp K sp_l_ordered) :=
  def_ok (N := ["_law_pairs", "_law_last", "_law_node", "_law_number", "_law_rows", "_law_text"]) (k := 0) (t := w_l_ordered) F sc_l_ordered (by walk_at "sl")
    (fun cdv A outer s H E G hr => by exact dss_cons (ds_set 1 G (de_dict0)) (dss_cons (ds_for G (di_any (de_var 0)) (dg_tup G (dgs_cons 2 G.nd (dgs_cons 3 G.nd (dgs_nil)))) (dss_one (ds_asg (de_var 3) (dg_setA G (de_var 1) (de_var 2))))) (dss_cons (ds_set 4 G (de_lstM (da_nil))) (dss_cons (ds_lock 1 (ds_for G (di_any (de_callB cb_sorted cr_sortedSA B.n_sorted PyProof.Rows.boot_sorted (da_cons (de_frz (de_lcP [("_law_text", 5)] G (di_keys (de_var 1)) (fun _ _ _ _ _ G => ⟨dgw_name 5 G.nd, dts_nil, de_callTy cb_str call_str1 B.n_str PyProof.Rows.boot_str (da_cons (de_var 5) (da_nil))⟩))) (da_nil)))) (dg_name 2 G.nd) (dss_one (ds_if (dt_cmp (op_neN G) od_eq (de_ix G (de_var 1) (de_var 2)) (de_int) (by walk_at "hm")) (dss_one (ds_expr (de_mt PySem.F.plainAttrs_list PySem.F.slot_list_append PySem.F.type_list_append md_append mt_append (de_var 4) (da_cons (de_tup (da_cons (de_var 2) (da_cons (de_ix G (de_var 1) (de_var 2)) (da_nil)))) (da_nil))))) (dss_nil))))) (dss_one (ds_ret (de_frz (de_var 4)))))))) p_l_ordered
theorem sc_l_holds : FnScope ["_law_memory", "_law_numbers_here", "_law_packs", "_law_taken", "_law_node", "_law_address_here", "_law_since", "_law_number", "_law_fresh", "_law_good", "_law_deed"] ["_law_memory", "_law_numbers_here", "_law_packs", "_law_taken"] (defScope s_l_holds) := by walk_at "sc"
theorem ok_l_holds {f : Addr} {fd : FuncData} (F : FunD K "_law_holds" "_law_holds" (defArgs s_l_holds) (defBody s_l_holds) (defScope s_l_holds) [] [] f fd) (B : Md w K mg) (F_Memory_locate : FnC P w K mg base 4 "Memory" "locate" sp_Memory_locate) (F_l_stays : FnM P w K mg base 3 "_law_stays" sp_l_stays) (F_l_same : FnM P w K mg base 17 "_law_same" (sp_l_same 8)) (F_Memory_alive : FnC P w K mg base 1 "Memory" "alive" sp_Memory_alive) (F_l_address : FnM P w K mg base 18 "_law_address" sp_l_address) (F_Memory_number : FnC P w K mg base 4 "Memory" "number" sp_Memory_number) (F_l_refused : FnM P w K mg base 18 "_law_refused" sp_l_refused) (F_Memory_pairs : FnC P w K mg base 3 "Memory" "pairs" sp_Memory_pairs) (F_l_ordered : FnM P w K mg base 1 "_law_ordered" sp_l_ordered) : FnOk P w K mg base (L2N.CX P w) (19) f fd ["_law_memory", "_law_numbers_here", "_law_packs", "_law_taken"] (lsp K sp_l_holds) :=
  def_ok (N := ["_law_memory", "_law_numbers_here", "_law_packs", "_law_taken", "_law_node", "_law_address_here", "_law_since", "_law_number", "_law_fresh", "_law_good", "_law_deed"]) (k := 18) (t := w_l_holds) F sc_l_holds (by walk_at "sl")
    (fun cdv A outer s H E G hr => by exact dss_cons (ds_forR G (di_ref (de_var 3)) (dg_lst G (dgs_cons 4 G.nd (dgs_cons 5 G.nd (dgs_cons 6 G.nd (dgs_nil))))) (dss_cons (ds_set 7 G (de_dget G (de_var 1) (de_var 4) (de_int) ⟨by rfl, by rfl, by rfl, by rfl⟩)) (dss_cons (ds_set 8 G (de_meth F_Memory_locate B.cls_Memory G (hr.mono (by omega)) (de_var 0) (da_cons (de_var 4) (da_nil)))) (dss_cons (ds_set 9 G (de_call F_l_stays G (hr.mono (by omega)) (da_cons (de_var 4) (da_cons (de_sl (de_var 2) (do_some (de_var 6)) (do_none)) (da_nil))))) (dss_cons (ds_if (dt_w (dw_or (dt_not (dt_tru (de_call F_l_same G (hr.mono (by omega)) (da_cons (de_meth F_Memory_alive B.cls_Memory G (hr.mono (by omega)) (de_var 0) (da_cons (de_var 5) (da_nil))) (da_cons (de_var 9) (da_nil)))))) (dw_or1 (dt_cmp (op_neN G) od_eq (de_cmp (op_eqN G) od_eq (de_var 8) (de_var 5) (by walk_at "hm")) (de_var 9) (by walk_at "hm"))))) (dss_one (ds_ret (de_bl))) (dss_nil)) (dss_cons (ds_if (dt_w (dw_or (dt_not (dt_tru (de_call F_l_address G (hr.mono (by omega)) (da_cons (de_var 8) (da_cons (de_var 4) (da_nil)))))) (dw_or1 (dt_not (dt_tru (de_call F_l_same G (hr.mono (by omega)) (da_cons (de_meth F_Memory_number B.cls_Memory G (hr.mono (by omega)) (de_var 0) (da_cons (de_var 8) (da_cons (de_strc (by decide +kernel)) (da_nil)))) (da_cons (de_var 7) (da_nil))))))))) (dss_one (ds_ret (de_bl))) (dss_nil)) (dss_cons (ds_if (dt_w (dw_and (dt_tru (de_var 9)) (dw_and1 (dt_not (dt_tru (de_call F_l_same G (hr.mono (by omega)) (da_cons (de_meth F_Memory_number B.cls_Memory G (hr.mono (by omega)) (de_var 0) (da_cons (de_var 5) (da_cons (de_strc (by decide +kernel)) (da_nil)))) (da_cons (de_var 7) (da_nil))))))))) (dss_one (ds_ret (de_bl))) (dss_nil)) (dss_one (ds_if (dt_not (dt_tru (de_var 9))) (dss_one (ds_for G (di_any (de_lst (da_cons (de_str) (da_cons (de_str) (da_cons (de_str) (da_cons (de_str) (da_nil))))))) (dg_name 10 G.nd) (dss_one (ds_if (dt_not (dt_tru (de_call F_l_refused G (hr.mono (by omega)) (da_cons (de_var 0) (da_cons (de_var 10) (da_cons (de_var 5) (da_cons (de_strc (by decide +kernel)) (da_nil)))))))) (dss_one (ds_ret (de_bl))) (dss_nil))))) (dss_nil)))))))))) (dss_one (ds_lock 1 (ds_ret (de_call F_l_same G (hr.mono (by omega)) (da_cons (de_meth0 F_Memory_pairs B.cls_Memory G (hr.mono (by omega)) (de_var 0)) (da_cons (de_call F_l_ordered G (hr.mono (by omega)) (da_cons (de_frz (de_lcP [("_law_node", 4)] G (di_keys (de_var 1)) (fun _ _ _ _ _ G => ⟨dgw_name 4 G.nd, dts_nil, de_tup (da_cons (de_var 4) (da_cons (de_ix G (de_var 1) (de_var 4)) (da_nil)))⟩))) (da_nil))) (da_nil)))))))) p_l_holds
theorem sc_l_blocks : FnScope ["_law_packs", "_law_taken", "_law_k", "_law_j", "_law_good"] ["_law_packs", "_law_taken"] (defScope s_l_blocks) := by walk_at "sc"
theorem ok_l_blocks {f : Addr} {fd : FuncData} (F : FunD K "_law_blocks" "_law_blocks" (defArgs s_l_blocks) (defBody s_l_blocks) (defScope s_l_blocks) [] [] f fd) (B : Md w K mg) (F_l_home : FnM P w K mg base 2 "_law_home" sp_l_home) (F_l_stays : FnM P w K mg base 3 "_law_stays" sp_l_stays) : FnOk P w K mg base (L2N.CX P w) (4) f fd ["_law_packs", "_law_taken"] (lsp K sp_l_blocks) :=
  def_ok (N := ["_law_packs", "_law_taken", "_law_k", "_law_j", "_law_good"]) (k := 3) (t := w_l_blocks) F sc_l_blocks (by walk_at "sl")
    (fun cdv A outer s H E G hr => by exact dss_cons (ds_for G (di_rng1 B.n_range (da_cons (de_callB cb_len call_lenA B.n_len PySem.boot_len (da_cons (de_var 1) (da_nil))) (da_nil))) (dg_name 2 G.nd) (dss_one (ds_for G (di_rng1 B.n_range (da_cons (de_var 2) (da_nil))) (dg_name 3 G.nd) (dss_cons (ds_set 4 G (de_cmp (op_eqN G) od_eq (de_ix G (de_call F_l_home G (hr.mono (by omega)) (da_cons (de_ix G (de_ix G (de_var 1) (de_var 2)) (de_int)) (da_nil))) (de_int)) (de_ix G (de_call F_l_home G (hr.mono (by omega)) (da_cons (de_ix G (de_ix G (de_var 1) (de_var 3)) (de_int)) (da_nil))) (de_int)) (by walk_at "hm"))) (dss_cons (ds_if (dt_w (dw_and (dt_tru (de_var 4)) (dw_and1 (dt_not (dt_tru (de_call F_l_stays G (hr.mono (by omega)) (da_cons (de_ix G (de_ix G (de_var 1) (de_var 3)) (de_int)) (da_cons (de_sl (de_var 0) (do_some (de_ix G (de_ix G (de_var 1) (de_var 3)) (de_int))) (do_some (de_ix G (de_ix G (de_var 1) (de_var 2)) (de_int)))) (da_nil))))))))) (dss_one (ds_set 4 G (de_bl))) (dss_nil)) (dss_one (ds_if (dt_cmp (op_neN G) od_eq (de_cmp (op_eqN G) od_eq (de_ix G (de_ix G (de_ix G (de_var 1) (de_var 2)) (de_int)) (de_int)) (de_ix G (de_ix G (de_ix G (de_var 1) (de_var 3)) (de_int)) (de_int)) (by walk_at "hm")) (de_var 4) (by walk_at "hm")) (dss_one (ds_ret (de_bl))) (dss_nil)))))))) (dss_one (ds_ret (de_bl)))) p_l_blocks
theorem sc_law : FnScope ["_law_script", "_law_source", "_law_places_here", "_law_pairs", "_law_numbers_here", "_law_node", "_law_number", "_law_memory", "_law_packs", "_law_taken", "_law_k", "_law_place_here", "_law_address_here", "_law_since", "_law_kind", "_law_tail_here", "_law_deed"] ["_law_script"] (defScope s_law) := by walk_at "sc"
theorem ok_law {f : Addr} {fd : FuncData} (F : FunD K "law" "law" (defArgs s_law) (defBody s_law) (defScope s_law) [] [] f fd) (B : Md w K mg) (F_l_begin : FnM P w K mg base 1 "_law_begin" sp_l_begin) (F_l_grown : FnM P w K mg base 1 "_law_grown" sp_l_grown) (F_l_places : FnM P w K mg base 8 "_law_places" sp_l_places) (F_l_boxed : FnM P w K mg base 4 "_law_boxed" sp_l_boxed) (F_l_pick : FnM P w K mg base 2 "_law_pick" sp_l_pick) (F_l_numbers : FnM P w K mg base 8 "_law_numbers" sp_l_numbers) (F_Memory_init : FnC P w K mg base 5 "Memory" "__init__" sp_Memory_init) (F_l_draw : FnM P w K mg base 1 "_law_draw" sp_l_draw) (F_Memory_locate : FnC P w K mg base 4 "Memory" "locate" sp_Memory_locate) (F_l_address : FnM P w K mg base 18 "_law_address" sp_l_address) (F_l_tail : FnM P w K mg base 5 "_law_tail" sp_l_tail) (F_l_stays : FnM P w K mg base 3 "_law_stays" sp_l_stays) (F_l_refused : FnM P w K mg base 18 "_law_refused" sp_l_refused) (F_Memory_pack : FnC P w K mg base 4 "Memory" "pack" sp_Memory_pack) (F_Memory_set_number : FnC P w K mg base 4 "Memory" "set_number" sp_Memory_set_number) (F_l_same : FnM P w K mg base 17 "_law_same" (sp_l_same 8)) (F_Memory_number : FnC P w K mg base 4 "Memory" "number" sp_Memory_number) (F_l_holds : FnM P w K mg base 19 "_law_holds" sp_l_holds) (F_l_blocks : FnM P w K mg base 4 "_law_blocks" sp_l_blocks) : FnOk P w K mg base (L2N.CX P w) (20) f fd ["_law_script"] (lsp K sp_law) :=
  def_ok (N := ["_law_script", "_law_source", "_law_places_here", "_law_pairs", "_law_numbers_here", "_law_node", "_law_number", "_law_memory", "_law_packs", "_law_taken", "_law_k", "_law_place_here", "_law_address_here", "_law_since", "_law_kind", "_law_tail_here", "_law_deed"]) (k := 19) (t := w_law) F sc_law (by walk_at "sl")
    (fun cdv A outer s H E G hr => by exact dss_cons (ds_set 1 G (de_call F_l_begin G (hr.mono (by omega)) (da_cons (de_call F_l_grown G (hr.mono (by omega)) (da_cons (de_var 0) (da_nil))) (da_nil)))) (dss_cons (ds_set 2 G (de_call F_l_places G (hr.mono (by omega)) (da_cons (de_var 1) (da_cons (de_int) (da_nil))))) (dss_cons (ds_expr (de_mt PySem.F.plainAttrs_list PySem.F.slot_list_append PySem.F.type_list_append md_append mt_append (de_var 2) (da_cons (de_call F_l_boxed G (hr.mono (by omega)) (da_cons (de_var 1) (da_cons (de_ix G (de_var 2) (de_int)) (da_nil)))) (da_nil)))) (dss_cons (ds_expr (de_mt PySem.F.plainAttrs_list PySem.F.slot_list_append PySem.F.type_list_append md_append mt_append (de_var 2) (da_cons (de_call F_l_boxed G (hr.mono (by omega)) (da_cons (de_var 1) (da_cons (de_call F_l_pick G (hr.mono (by omega)) (da_cons (de_var 1) (da_cons (de_var 2) (da_nil)))) (da_nil)))) (da_nil)))) (dss_fz 2 (dss_cons (ds_set 3 G (de_call F_l_numbers G (hr.mono (by omega)) (da_cons (de_var 1) (da_cons (de_var 2) (da_cons (de_int) (da_nil)))))) (dss_cons (ds_set 4 G (de_dict0)) (dss_cons (ds_for G (di_any (de_var 3)) (dg_tup G (dgs_cons 5 G.nd (dgs_cons 6 G.nd (dgs_nil)))) (dss_one (ds_asg (de_var 6) (dg_setA G (de_var 4) (de_var 5))))) (dss_cons (ds_set 7 G (de_make F_Memory_init B.mk_Memory G B.k_Memory (hr.mono (by omega)) (da_cons (de_callTy cb_listM call_list_of B.n_list PyProof.Rows.boot_list (da_cons (de_var 3) (da_nil))) (da_nil)))) (dss_cons (ds_set 8 G (de_lstM (da_nil))) (dss_cons (ds_set 9 G (de_lstM (da_nil))) (dss_cons (ds_for G (di_rng1 B.n_range (da_cons (de_op op_addA od_add (de_int) (de_call F_l_draw G (hr.mono (by omega)) (da_cons (de_var 1) (da_cons (de_int) (da_nil))))) (da_nil))) (dg_name 10 G.nd) (dss_cons (ds_set 11 G (de_call F_l_pick G (hr.mono (by omega)) (da_cons (de_var 1) (da_cons (de_var 2) (da_nil))))) (dss_cons (ds_set 12 G (de_meth F_Memory_locate B.cls_Memory G (hr.mono (by omega)) (de_var 7) (da_cons (de_var 11) (da_nil)))) (dss_cons (ds_if (dt_not (dt_tru (de_call F_l_address G (hr.mono (by omega)) (da_cons (de_var 12) (da_cons (de_var 11) (da_nil)))))) (dss_one (ds_ret (de_bl))) (dss_nil)) (dss_cons (ds_expr (de_mt PySem.F.plainAttrs_list PySem.F.slot_list_append PySem.F.type_list_append md_append mt_append (de_var 9) (da_cons (de_lst (da_cons (de_var 11) (da_cons (de_var 12) (da_cons (de_callB cb_len call_lenA B.n_len PySem.boot_len (da_cons (de_var 8) (da_nil))) (da_nil))))) (da_nil)))) (dss_cons (ds_asg (de_call F_l_pick G (hr.mono (by omega)) (da_cons (de_var 1) (da_cons (de_var 9) (da_nil)))) (dg_lst G (dgs_cons 5 G.nd (dgs_cons 12 G.nd (dgs_cons 13 G.nd (dgs_nil)))))) (dss_cons (ds_set 14 G (de_call F_l_draw G (hr.mono (by omega)) (da_cons (de_var 1) (da_cons (de_int) (da_nil))))) (dss_cons (ds_set 15 G (de_strc (by decide +kernel))) (dss_cons (ds_if (dt_cmp (op_eqN G) od_eq (de_call F_l_draw G (hr.mono (by omega)) (da_cons (de_var 1) (da_cons (de_int) (da_nil)))) (de_int) (by walk_at "hm")) (dss_one (ds_set 15 G (de_call F_l_tail G (hr.mono (by omega)) (da_cons (de_var 1) (da_cons (de_int) (da_nil)))))) (dss_nil)) (dss_cons (ds_if (dt_not (dt_tru (de_call F_l_stays G (hr.mono (by omega)) (da_cons (de_var 5) (da_cons (de_sl (de_var 8) (do_some (de_var 13)) (do_none)) (da_nil)))))) (dss_cons (ds_set 16 G (de_call F_l_pick G (hr.mono (by omega)) (da_cons (de_var 1) (da_cons (de_lst (da_cons (de_str) (da_cons (de_str) (da_cons (de_str) (da_cons (de_str) (da_nil)))))) (da_nil))))) (dss_one (ds_if (dt_not (dt_tru (de_call F_l_refused G (hr.mono (by omega)) (da_cons (de_var 7) (da_cons (de_var 16) (da_cons (de_var 12) (da_cons (de_var 15) (da_nil)))))))) (dss_one (ds_ret (de_bl))) (dss_nil)))) (dss_one (ds_if (dt_cmp op_lt od_b (de_var 14) (de_int) (by walk_at "hm")) (dss_cons (ds_if (dt_cmp op_notN od_notN (de_meth F_Memory_pack B.cls_Memory G (hr.mono (by omega)) (de_var 7) (da_cons (de_var 12) (da_cons (de_var 15) (da_nil)))) (de_non) (by walk_at "hm")) (dss_one (ds_ret (de_bl))) (dss_nil)) (dss_one (ds_expr (de_mt PySem.F.plainAttrs_list PySem.F.slot_list_append PySem.F.type_list_append md_append mt_append (de_var 8) (da_cons (de_op op_addA od_add (de_var 5) (de_var 15)) (da_nil)))))) (dss_cons (ds_set 6 G (de_call F_l_draw G (hr.mono (by omega)) (da_cons (de_var 1) (da_cons (de_int) (da_nil))))) (dss_cons (ds_if (dt_cmp op_notN od_notN (de_meth F_Memory_set_number B.cls_Memory G (hr.mono (by omega)) (de_var 7) (da_cons (de_var 12) (da_cons (de_var 15) (da_cons (de_var 6) (da_nil))))) (de_non) (by walk_at "hm")) (dss_one (ds_ret (de_bl))) (dss_nil)) (dss_cons (ds_if (dt_not (dt_tru (de_call F_l_same G (hr.mono (by omega)) (da_cons (de_meth F_Memory_number B.cls_Memory G (hr.mono (by omega)) (de_var 7) (da_cons (de_var 12) (da_cons (de_var 15) (da_nil)))) (da_cons (de_var 6) (da_nil)))))) (dss_one (ds_ret (de_bl))) (dss_nil)) (dss_one (ds_asg (de_var 6) (dg_setA G (de_var 4) (de_op op_addA od_add (de_var 5) (de_var 15))))))))))) (dss_one (ds_if (dt_not (dt_tru (de_call F_l_holds G (hr.mono (by omega)) (da_cons (de_var 7) (da_cons (de_var 4) (da_cons (de_var 8) (da_cons (de_var 9) (da_nil)))))))) (dss_one (ds_ret (de_bl))) (dss_nil))))))))))))) (dss_one (ds_ret (de_call F_l_blocks G (hr.mono (by omega)) (da_cons (de_var 8) (da_cons (de_var 9) (da_nil)))))))))))))))))) p_law
end
theorem facts {P : Program} {w : World} {K : PySem.W.Frag} {h : Heap} {mg : Str → Option Value} {f : Addr} (X : K.In h) (G : h.Ns mainGlobals mg) (hfa : mg ("law" : Str) = some (.ref f)) (hP1 : (P.main.file == PySem.Challenge.pw_lentahead_k54_whole_packing.main.file) = true) (hP2 : (P.main.scope.names.lookup ("super" : Str)).isSome = false) (c : DL.SaysE fa fn gb ts fx fe w K) :
    ∃ fd : FuncData, (∀ (s : Shared) (v : Value), BindsTo s fd ⟨[v], []⟩ [("_law_script", v)]) ∧ ∀ base : Heap, K.In base → base.Ns mainGlobals mg → FnOk P w K mg base (L2N.CX P w) 20 f fd ["_law_script"] (lsp K sp_law) := by
  have B : Md w K mg := ⟨(He.free_ok X G (c.z.y.x.d.fact 43 (f := .free "ValueError") rfl)), (He.free_ok X G (c.z.y.x.d.fact 44 (f := .free "all") rfl)), (He.free_ok X G (c.z.y.x.d.fact 45 (f := .free "bool") rfl)), (He.free_ok X G (c.z.y.x.d.fact 46 (f := .free "int") rfl)), (He.free_ok X G (c.z.y.x.d.fact 47 (f := .free "isinstance") rfl)), (He.free_ok X G (c.z.y.x.d.fact 48 (f := .free "len") rfl)), (He.free_ok X G (c.z.y.x.d.fact 49 (f := .free "list") rfl)), (He.free_ok X G (c.z.y.x.d.fact 50 (f := .free "min") rfl)), (He.free_ok X G (c.z.y.x.d.fact 51 (f := .free "range") rfl)), (He.free_ok X G (c.z.y.x.d.fact 52 (f := .free "sorted") rfl)), (He.free_ok X G (c.z.y.x.d.fact 53 (f := .free "str") rfl)), (He.free_ok X G (c.z.y.x.d.fact 54 (f := .free "super") rfl)), (He.free_ok X G (c.z.y.x.d.fact 55 (f := .free "tuple") rfl)), (He.str_ok X G (c.z.y.x.d.fact 56 (f := .str "LETTERS" "abcdefghijklmnopqrstuvwxyz") rfl)), (He.str_ok X G (c.z.y.x.d.fact 57 (f := .str "MARKS" ".^") rfl)), (He.int_ok X G (c.z.y.x.d.fact 58 (f := .int "MOST_LETTERS" 8) rfl)), (He.mkr_ok (c.z.y.x.d.fact 59 (f := .mkr "Memory") rfl)), (He.glo_ok X G (c.z.y.x.d.fact 60 (f := .glo "Memory") rfl)), (He.cls_ok (c.z.y.x.d.fact 61 (f := .cls "Memory") rfl)), (He.noat_ok (c.z.y.x.d.fact 62 (f := .noat "Memory" "_roots") rfl)), (He.noat_ok (c.z.y.x.d.fact 63 (f := .noat "Memory" "_boxes") rfl)), (He.noat_ok (c.z.y.x.d.fact 64 (f := .noat "Memory" "_numbers") rfl)), (He.noat_ok (c.z.y.x.d.fact 65 (f := .noat "Memory" "_gone") rfl)), (He.noat_ok (c.z.y.x.d.fact 66 (f := .noat "Memory" "_made") rfl)), (He.glo_ok X G (c.z.y.x.d.fact 67 (f := .glo "Stale") rfl)), (DL.errTB_ok (c.z.y.x.b 1 rfl)), ((fun C m => He.eqO_ok (List.all_eq_true.mp (c.z.y.x.b 2 rfl) C m))), (He.glo_ok X G (c.z.y.x.d.fact 68 (f := .glo "LentError") rfl))⟩
  obtain ⟨fd_l_begin, D_l_begin⟩ := c.z.y.x.d.def_ 0 (d := ⟨("_law_begin", none), "_law_begin", "_law_begin", defArgs (top 16), defBody (top 16), defScope (top 16), [], []⟩) rfl
  have g_l_begin : mg "_law_begin" = some (.ref (He.ga K "_law_begin")) := He.glo_ok X G (c.z.y.x.d.fact 0 (f := .glo "_law_begin") rfl)
  have b_l_begin : Binds K fd_l_begin ["_law_script"] [] := D_l_begin.bindsN (ps := ["_law_script"]) fun _ _ _ _ _ _ us hl => match us, hl with | [_], _ => rfl
  obtain ⟨fd_l_grown, D_l_grown⟩ := c.z.y.x.d.def_ 1 (d := ⟨("_law_grown", none), "_law_grown", "_law_grown", defArgs (top 31), defBody (top 31), defScope (top 31), [], []⟩) rfl
  have g_l_grown : mg "_law_grown" = some (.ref (He.ga K "_law_grown")) := He.glo_ok X G (c.z.y.x.d.fact 1 (f := .glo "_law_grown") rfl)
  have b_l_grown : Binds K fd_l_grown ["_law_script"] [] := D_l_grown.bindsN (ps := ["_law_script"]) fun _ _ _ _ _ _ us hl => match us, hl with | [_], _ => rfl
  obtain ⟨fd_l_draw, D_l_draw⟩ := c.z.y.x.d.def_ 2 (d := ⟨("_law_draw", none), "_law_draw", "_law_draw", defArgs (top 17), defBody (top 17), defScope (top 17), [], []⟩) rfl
  have g_l_draw : mg "_law_draw" = some (.ref (He.ga K "_law_draw")) := He.glo_ok X G (c.z.y.x.d.fact 2 (f := .glo "_law_draw") rfl)
  have b_l_draw : Binds K fd_l_draw ["_law_source", "_law_size"] [] := D_l_draw.bindsN (ps := ["_law_source", "_law_size"]) fun _ _ _ _ _ _ us hl => match us, hl with | [_, _], _ => rfl
  obtain ⟨fd_l_pick, D_l_pick⟩ := c.z.y.x.d.def_ 3 (d := ⟨("_law_pick", none), "_law_pick", "_law_pick", defArgs (top 18), defBody (top 18), defScope (top 18), [], []⟩) rfl
  have g_l_pick : mg "_law_pick" = some (.ref (He.ga K "_law_pick")) := He.glo_ok X G (c.z.y.x.d.fact 3 (f := .glo "_law_pick") rfl)
  have b_l_pick : Binds K fd_l_pick ["_law_source", "_law_row"] [] := D_l_pick.bindsN (ps := ["_law_source", "_law_row"]) fun _ _ _ _ _ _ us hl => match us, hl with | [_, _], _ => rfl
  obtain ⟨fd_l_name, D_l_name⟩ := c.z.y.x.d.def_ 4 (d := ⟨("_law_name", none), "_law_name", "_law_name", defArgs (top 21), defBody (top 21), defScope (top 21), [], []⟩) rfl
  have g_l_name : mg "_law_name" = some (.ref (He.ga K "_law_name")) := He.glo_ok X G (c.z.y.x.d.fact 4 (f := .glo "_law_name") rfl)
  have b_l_name : Binds K fd_l_name ["_law_source"] [] := D_l_name.bindsN (ps := ["_law_source"]) fun _ _ _ _ _ _ us hl => match us, hl with | [_], _ => rfl
  obtain ⟨fd_l_step, D_l_step⟩ := c.z.y.x.d.def_ 5 (d := ⟨("_law_step", none), "_law_step", "_law_step", defArgs (top 22), defBody (top 22), defScope (top 22), [], []⟩) rfl
  have g_l_step : mg "_law_step" = some (.ref (He.ga K "_law_step")) := He.glo_ok X G (c.z.y.x.d.fact 5 (f := .glo "_law_step") rfl)
  have b_l_step : Binds K fd_l_step ["_law_source"] [] := D_l_step.bindsN (ps := ["_law_source"]) fun _ _ _ _ _ _ us hl => match us, hl with | [_], _ => rfl
  obtain ⟨fd_l_tail, D_l_tail⟩ := c.z.y.x.d.def_ 6 (d := ⟨("_law_tail", none), "_law_tail", "_law_tail", defArgs (top 23), defBody (top 23), defScope (top 23), [], []⟩) rfl
  have g_l_tail : mg "_law_tail" = some (.ref (He.ga K "_law_tail")) := He.glo_ok X G (c.z.y.x.d.fact 6 (f := .glo "_law_tail") rfl)
  have b_l_tail : Binds K fd_l_tail ["_law_source", "_law_most"] [] := D_l_tail.bindsN (ps := ["_law_source", "_law_most"]) fun _ _ _ _ _ _ us hl => match us, hl with | [_, _], _ => rfl
  obtain ⟨fd_l_place, D_l_place⟩ := c.z.y.x.d.def_ 7 (d := ⟨("_law_place", none), "_law_place", "_law_place", defArgs (top 24), defBody (top 24), defScope (top 24), [], []⟩) rfl
  have g_l_place : mg "_law_place" = some (.ref (He.ga K "_law_place")) := He.glo_ok X G (c.z.y.x.d.fact 7 (f := .glo "_law_place") rfl)
  have b_l_place : Binds K fd_l_place ["_law_source"] [] := D_l_place.bindsN (ps := ["_law_source"]) fun _ _ _ _ _ _ us hl => match us, hl with | [_], _ => rfl
  obtain ⟨fd_l_parts, D_l_parts⟩ := c.z.y.x.d.def_ 8 (d := ⟨("_law_parts", none), "_law_parts", "_law_parts", defArgs (top 25), defBody (top 25), defScope (top 25), [], []⟩) rfl
  have g_l_parts : mg "_law_parts" = some (.ref (He.ga K "_law_parts")) := He.glo_ok X G (c.z.y.x.d.fact 8 (f := .glo "_law_parts") rfl)
  have b_l_parts : Binds K fd_l_parts ["_law_node"] [] := D_l_parts.bindsN (ps := ["_law_node"]) fun _ _ _ _ _ _ us hl => match us, hl with | [_], _ => rfl
  obtain ⟨fd_l_near, D_l_near⟩ := c.z.y.x.d.def_ 9 (d := ⟨("_law_near", none), "_law_near", "_law_near", defArgs (top 26), defBody (top 26), defScope (top 26), [], []⟩) rfl
  have g_l_near : mg "_law_near" = some (.ref (He.ga K "_law_near")) := He.glo_ok X G (c.z.y.x.d.fact 9 (f := .glo "_law_near") rfl)
  have b_l_near : Binds K fd_l_near ["_law_source", "_law_place_here"] [] := D_l_near.bindsN (ps := ["_law_source", "_law_place_here"]) fun _ _ _ _ _ _ us hl => match us, hl with | [_, _], _ => rfl
  obtain ⟨fd_l_places, D_l_places⟩ := c.z.y.x.d.def_ 10 (d := ⟨("_law_places", none), "_law_places", "_law_places", defArgs (top 27), defBody (top 27), defScope (top 27), [], []⟩) rfl
  have g_l_places : mg "_law_places" = some (.ref (He.ga K "_law_places")) := He.glo_ok X G (c.z.y.x.d.fact 10 (f := .glo "_law_places") rfl)
  have b_l_places : Binds K fd_l_places ["_law_source", "_law_count"] [] := D_l_places.bindsN (ps := ["_law_source", "_law_count"]) fun _ _ _ _ _ _ us hl => match us, hl with | [_, _], _ => rfl
  obtain ⟨fd_l_boxed, D_l_boxed⟩ := c.z.y.x.d.def_ 11 (d := ⟨("_law_boxed", none), "_law_boxed", "_law_boxed", defArgs (top 32), defBody (top 32), defScope (top 32), [], []⟩) rfl
  have g_l_boxed : mg "_law_boxed" = some (.ref (He.ga K "_law_boxed")) := He.glo_ok X G (c.z.y.x.d.fact 11 (f := .glo "_law_boxed") rfl)
  have b_l_boxed : Binds K fd_l_boxed ["_law_source", "_law_place_here"] [] := D_l_boxed.bindsN (ps := ["_law_source", "_law_place_here"]) fun _ _ _ _ _ _ us hl => match us, hl with | [_, _], _ => rfl
  obtain ⟨fd_l_numbers, D_l_numbers⟩ := c.z.y.x.d.def_ 12 (d := ⟨("_law_numbers", none), "_law_numbers", "_law_numbers", defArgs (top 29), defBody (top 29), defScope (top 29), [], []⟩) rfl
  have g_l_numbers : mg "_law_numbers" = some (.ref (He.ga K "_law_numbers")) := He.glo_ok X G (c.z.y.x.d.fact 12 (f := .glo "_law_numbers") rfl)
  have b_l_numbers : Binds K fd_l_numbers ["_law_source", "_law_places_here", "_law_most"] [] := D_l_numbers.bindsN (ps := ["_law_source", "_law_places_here", "_law_most"]) fun _ _ _ _ _ _ us hl => match us, hl with | [_, _, _], _ => rfl
  obtain ⟨fd_Memory_alive, D_Memory_alive⟩ := c.z.y.x.d.def_ 13 (d := ⟨("Memory", some "alive"), "alive", "Memory.alive", defArgs (mth 14 5), defBody (mth 14 5), defScope (mth 14 5), [], []⟩) rfl
  have M_Memory_alive := He.meth_ok (c.z.y.x.d.fact 13 (f := .meth "Memory" "alive") rfl)
  have b_Memory_alive : Binds K fd_Memory_alive ["self", "address"] [] := D_Memory_alive.bindsN (ps := ["self", "address"]) fun _ _ _ _ _ _ us hl => match us, hl with | [_, _], _ => rfl
  obtain ⟨fd_Memory__check, D_Memory__check⟩ := c.z.y.x.d.def_ 14 (d := ⟨("Memory", some "_check"), "_check", "Memory._check", defArgs (mth 14 4), defBody (mth 14 4), defScope (mth 14 4), [], []⟩) rfl
  have M_Memory__check := He.meth_ok (c.z.y.x.d.fact 14 (f := .meth "Memory" "_check") rfl)
  have b_Memory__check : Binds K fd_Memory__check ["self", "address"] [] := D_Memory__check.bindsN (ps := ["self", "address"]) fun _ _ _ _ _ _ us hl => match us, hl with | [_, _], _ => rfl
  obtain ⟨fd_end_of_name, D_end_of_name⟩ := c.z.y.x.d.def_ 15 (d := ⟨("end_of_name", none), "end_of_name", "end_of_name", defArgs (top 8), defBody (top 8), defScope (top 8), [], []⟩) rfl
  have g_end_of_name : mg "end_of_name" = some (.ref (He.ga K "end_of_name")) := He.glo_ok X G (c.z.y.x.d.fact 15 (f := .glo "end_of_name") rfl)
  have b_end_of_name : Binds K fd_end_of_name ["text", "start"] [] := D_end_of_name.bindsN (ps := ["text", "start"]) fun _ _ _ _ _ _ us hl => match us, hl with | [_, _], _ => rfl
  obtain ⟨fd_is_name, D_is_name⟩ := c.z.y.x.d.def_ 16 (d := ⟨("is_name", none), "is_name", "is_name", defArgs (top 7), defBody (top 7), defScope (top 7), [], []⟩) rfl
  have g_is_name : mg "is_name" = some (.ref (He.ga K "is_name")) := He.glo_ok X G (c.z.y.x.d.fact 16 (f := .glo "is_name") rfl)
  have b_is_name : Binds K fd_is_name ["text"] [] := D_is_name.bindsN (ps := ["text"]) fun _ _ _ _ _ _ us hl => match us, hl with | [_], _ => rfl
  obtain ⟨fd_steps_of, D_steps_of⟩ := c.z.y.x.d.def_ 17 (d := ⟨("steps_of", none), "steps_of", "steps_of", defArgs (top 9), defBody (top 9), defScope (top 9), [], []⟩) rfl
  have g_steps_of : mg "steps_of" = some (.ref (He.ga K "steps_of")) := He.glo_ok X G (c.z.y.x.d.fact 17 (f := .glo "steps_of") rfl)
  have b_steps_of : Binds K fd_steps_of ["tail"] [] := D_steps_of.bindsN (ps := ["tail"]) fun _ _ _ _ _ _ us hl => match us, hl with | [_], _ => rfl
  obtain ⟨fd_Memory__new_block, D_Memory__new_block⟩ := c.z.y.x.d.def_ 18 (d := ⟨("Memory", some "_new_block"), "_new_block", "Memory._new_block", defArgs (mth 14 1), defBody (mth 14 1), defScope (mth 14 1), [], []⟩) rfl
  have M_Memory__new_block := He.meth_ok (c.z.y.x.d.fact 18 (f := .meth "Memory" "_new_block") rfl)
  have b_Memory__new_block : Binds K fd_Memory__new_block ["self"] [] := D_Memory__new_block.bindsN (ps := ["self"]) fun _ _ _ _ _ _ us hl => match us, hl with | [_], _ => rfl
  obtain ⟨fd_Memory__walk, D_Memory__walk⟩ := c.z.y.x.d.def_ 19 (d := ⟨("Memory", some "_walk"), "_walk", "Memory._walk", defArgs (mth 14 3), defBody (mth 14 3), defScope (mth 14 3), [], []⟩) rfl
  have M_Memory__walk := He.meth_ok (c.z.y.x.d.fact 19 (f := .meth "Memory" "_walk") rfl)
  have b_Memory__walk : Binds K fd_Memory__walk ["self", "address", "tail"] [] := D_Memory__walk.bindsN (ps := ["self", "address", "tail"]) fun _ _ _ _ _ _ us hl => match us, hl with | [_, _, _], _ => rfl
  obtain ⟨fd_Memory_set_number, D_Memory_set_number⟩ := c.z.y.x.d.def_ 20 (d := ⟨("Memory", some "set_number"), "set_number", "Memory.set_number", defArgs (mth 14 7), defBody (mth 14 7), defScope (mth 14 7), [], []⟩) rfl
  have M_Memory_set_number := He.meth_ok (c.z.y.x.d.fact 20 (f := .meth "Memory" "set_number") rfl)
  have b_Memory_set_number : Binds K fd_Memory_set_number ["self", "address", "tail", "n"] [] := D_Memory_set_number.bindsN (ps := ["self", "address", "tail", "n"]) fun _ _ _ _ _ _ us hl => match us, hl with | [_, _, _, _], _ => rfl
  obtain ⟨fd_root_of, D_root_of⟩ := c.z.y.x.d.def_ 21 (d := ⟨("root_of", none), "root_of", "root_of", defArgs (top 10), defBody (top 10), defScope (top 10), [], []⟩) rfl
  have g_root_of : mg "root_of" = some (.ref (He.ga K "root_of")) := He.glo_ok X G (c.z.y.x.d.fact 21 (f := .glo "root_of") rfl)
  have b_root_of : Binds K fd_root_of ["node"] [] := D_root_of.bindsN (ps := ["node"]) fun _ _ _ _ _ _ us hl => match us, hl with | [_], _ => rfl
  obtain ⟨fd_Memory_locate, D_Memory_locate⟩ := c.z.y.x.d.def_ 22 (d := ⟨("Memory", some "locate"), "locate", "Memory.locate", defArgs (mth 14 2), defBody (mth 14 2), defScope (mth 14 2), [], []⟩) rfl
  have M_Memory_locate := He.meth_ok (c.z.y.x.d.fact 22 (f := .meth "Memory" "locate") rfl)
  have b_Memory_locate : Binds K fd_Memory_locate ["self", "node"] [] := D_Memory_locate.bindsN (ps := ["self", "node"]) fun _ _ _ _ _ _ us hl => match us, hl with | [_, _], _ => rfl
  obtain ⟨fd_Memory_init, D_Memory_init⟩ := c.z.y.x.d.def_ 23 (d := ⟨("Memory", some "__init__"), "__init__", "Memory.__init__", defArgs (mth 14 0), defBody (mth 14 0), defScope (mth 14 0), [], []⟩) rfl
  have M_Memory_init := He.meth_ok (c.z.y.x.d.fact 23 (f := .meth "Memory" "__init__") rfl)
  have b_Memory_init : Binds K fd_Memory_init ["self", "pairs"] [] := D_Memory_init.bindsN (ps := ["self", "pairs"]) fun _ _ _ _ _ _ us hl => match us, hl with | [_, _], _ => rfl
  obtain ⟨fd_l_same_row, D_l_same_row⟩ := c.z.y.x.d.def_ 24 (d := ⟨("_law_same_row", none), "_law_same_row", "_law_same_row", defArgs (top 19), defBody (top 19), defScope (top 19), [], []⟩) rfl
  have g_l_same_row : mg "_law_same_row" = some (.ref (He.ga K "_law_same_row")) := He.glo_ok X G (c.z.y.x.d.fact 24 (f := .glo "_law_same_row") rfl)
  have b_l_same_row : Binds K fd_l_same_row ["_law_actual", "_law_expected"] [] := D_l_same_row.bindsN (ps := ["_law_actual", "_law_expected"]) fun _ _ _ _ _ _ us hl => match us, hl with | [_, _], _ => rfl
  obtain ⟨fd_l_same, D_l_same⟩ := c.z.y.x.d.def_ 25 (d := ⟨("_law_same", none), "_law_same", "_law_same", defArgs (top 20), defBody (top 20), defScope (top 20), [], []⟩) rfl
  have g_l_same : mg "_law_same" = some (.ref (He.ga K "_law_same")) := He.glo_ok X G (c.z.y.x.d.fact 25 (f := .glo "_law_same") rfl)
  have b_l_same : Binds K fd_l_same ["_law_actual", "_law_expected"] [] := D_l_same.bindsN (ps := ["_law_actual", "_law_expected"]) fun _ _ _ _ _ _ us hl => match us, hl with | [_, _], _ => rfl
  obtain ⟨fd_l_home, D_l_home⟩ := c.z.y.x.d.def_ 26 (d := ⟨("_law_home", none), "_law_home", "_law_home", defArgs (top 33), defBody (top 33), defScope (top 33), [], []⟩) rfl
  have g_l_home : mg "_law_home" = some (.ref (He.ga K "_law_home")) := He.glo_ok X G (c.z.y.x.d.fact 26 (f := .glo "_law_home") rfl)
  have b_l_home : Binds K fd_l_home ["_law_node"] [] := D_l_home.bindsN (ps := ["_law_node"]) fun _ _ _ _ _ _ us hl => match us, hl with | [_], _ => rfl
  obtain ⟨fd_l_address, D_l_address⟩ := c.z.y.x.d.def_ 27 (d := ⟨("_law_address", none), "_law_address", "_law_address", defArgs (top 35), defBody (top 35), defScope (top 35), [], []⟩) rfl
  have g_l_address : mg "_law_address" = some (.ref (He.ga K "_law_address")) := He.glo_ok X G (c.z.y.x.d.fact 27 (f := .glo "_law_address") rfl)
  have b_l_address : Binds K fd_l_address ["_law_actual", "_law_node"] [] := D_l_address.bindsN (ps := ["_law_actual", "_law_node"]) fun _ _ _ _ _ _ us hl => match us, hl with | [_, _], _ => rfl
  obtain ⟨fd_l_relation, D_l_relation⟩ := c.z.y.x.d.def_ 28 (d := ⟨("_law_relation", none), "_law_relation", "_law_relation", defArgs (top 28), defBody (top 28), defScope (top 28), [], []⟩) rfl
  have g_l_relation : mg "_law_relation" = some (.ref (He.ga K "_law_relation")) := He.glo_ok X G (c.z.y.x.d.fact 28 (f := .glo "_law_relation") rfl)
  have b_l_relation : Binds K fd_l_relation ["_law_place_here", "_law_other"] [] := D_l_relation.bindsN (ps := ["_law_place_here", "_law_other"]) fun _ _ _ _ _ _ us hl => match us, hl with | [_, _], _ => rfl
  obtain ⟨fd_l_stays, D_l_stays⟩ := c.z.y.x.d.def_ 29 (d := ⟨("_law_stays", none), "_law_stays", "_law_stays", defArgs (top 34), defBody (top 34), defScope (top 34), [], []⟩) rfl
  have g_l_stays : mg "_law_stays" = some (.ref (He.ga K "_law_stays")) := He.glo_ok X G (c.z.y.x.d.fact 29 (f := .glo "_law_stays") rfl)
  have b_l_stays : Binds K fd_l_stays ["_law_node", "_law_packs"] [] := D_l_stays.bindsN (ps := ["_law_node", "_law_packs"]) fun _ _ _ _ _ _ us hl => match us, hl with | [_, _], _ => rfl
  obtain ⟨fd_Memory_number, D_Memory_number⟩ := c.z.y.x.d.def_ 30 (d := ⟨("Memory", some "number"), "number", "Memory.number", defArgs (mth 14 6), defBody (mth 14 6), defScope (mth 14 6), [], []⟩) rfl
  have M_Memory_number := He.meth_ok (c.z.y.x.d.fact 30 (f := .meth "Memory" "number") rfl)
  have b_Memory_number : Binds K fd_Memory_number ["self", "address", "tail"] [] := D_Memory_number.bindsN (ps := ["self", "address", "tail"]) fun _ _ _ _ _ _ us hl => match us, hl with | [_, _, _], _ => rfl
  obtain ⟨fd_in_order, D_in_order⟩ := c.z.y.x.d.def_ 31 (d := ⟨("in_order", none), "in_order", "in_order", defArgs (top 13), defBody (top 13), defScope (top 13), [], []⟩) rfl
  have g_in_order : mg "in_order" = some (.ref (He.ga K "in_order")) := He.glo_ok X G (c.z.y.x.d.fact 31 (f := .glo "in_order") rfl)
  have b_in_order : Binds K fd_in_order ["numbers"] [] := D_in_order.bindsN (ps := ["numbers"]) fun _ _ _ _ _ _ us hl => match us, hl with | [_], _ => rfl
  obtain ⟨fd_lies_beneath, D_lies_beneath⟩ := c.z.y.x.d.def_ 32 (d := ⟨("lies_beneath", none), "lies_beneath", "lies_beneath", defArgs (top 11), defBody (top 11), defScope (top 11), [], []⟩) rfl
  have g_lies_beneath : mg "lies_beneath" = some (.ref (He.ga K "lies_beneath")) := He.glo_ok X G (c.z.y.x.d.fact 32 (f := .glo "lies_beneath") rfl)
  have b_lies_beneath : Binds K fd_lies_beneath ["inner", "outer"] [] := D_lies_beneath.bindsN (ps := ["inner", "outer"]) fun _ _ _ _ _ _ us hl => match us, hl with | [_, _], _ => rfl
  obtain ⟨fd_Memory__collect, D_Memory__collect⟩ := c.z.y.x.d.def_ 33 (d := ⟨("Memory", some "_collect"), "_collect", "Memory._collect", defArgs (mth 14 10), defBody (mth 14 10), defScope (mth 14 10), [], []⟩) rfl
  have M_Memory__collect := He.meth_ok (c.z.y.x.d.fact 33 (f := .meth "Memory" "_collect") rfl)
  have b_Memory__collect : Binds K fd_Memory__collect ["self", "address", "start"] [] := D_Memory__collect.bindsN (ps := ["self", "address", "start"]) fun _ _ _ _ _ _ us hl => match us, hl with | [_, _, _], _ => rfl
  obtain ⟨fd_Memory_part, D_Memory_part⟩ := c.z.y.x.d.def_ 34 (d := ⟨("Memory", some "part"), "part", "Memory.part", defArgs (mth 14 11), defBody (mth 14 11), defScope (mth 14 11), [], []⟩) rfl
  have M_Memory_part := He.meth_ok (c.z.y.x.d.fact 34 (f := .meth "Memory" "part") rfl)
  have b_Memory_part : Binds K fd_Memory_part ["self", "address"] [] := D_Memory_part.bindsN (ps := ["self", "address"]) fun _ _ _ _ _ _ us hl => match us, hl with | [_, _], _ => rfl
  obtain ⟨fd_Memory__move, D_Memory__move⟩ := c.z.y.x.d.def_ 35 (d := ⟨("Memory", some "_move"), "_move", "Memory._move", defArgs (mth 14 9), defBody (mth 14 9), defScope (mth 14 9), [], []⟩) rfl
  have M_Memory__move := He.meth_ok (c.z.y.x.d.fact 35 (f := .meth "Memory" "_move") rfl)
  have b_Memory__move : Binds K fd_Memory__move ["self", "key"] [] := D_Memory__move.bindsN (ps := ["self", "key"]) fun _ _ _ _ _ _ us hl => match us, hl with | [_, _], _ => rfl
  obtain ⟨fd_Memory_pack, D_Memory_pack⟩ := c.z.y.x.d.def_ 36 (d := ⟨("Memory", some "pack"), "pack", "Memory.pack", defArgs (mth 14 8), defBody (mth 14 8), defScope (mth 14 8), [], []⟩) rfl
  have M_Memory_pack := He.meth_ok (c.z.y.x.d.fact 36 (f := .meth "Memory" "pack") rfl)
  have b_Memory_pack : Binds K fd_Memory_pack ["self", "address", "tail"] [] := D_Memory_pack.bindsN (ps := ["self", "address", "tail"]) fun _ _ _ _ _ _ us hl => match us, hl with | [_, _, _], _ => rfl
  obtain ⟨fd_l_refused, D_l_refused⟩ := c.z.y.x.d.def_ 37 (d := ⟨("_law_refused", none), "_law_refused", "_law_refused", defArgs (top 36), defBody (top 36), defScope (top 36), [], []⟩) rfl
  have g_l_refused : mg "_law_refused" = some (.ref (He.ga K "_law_refused")) := He.glo_ok X G (c.z.y.x.d.fact 37 (f := .glo "_law_refused") rfl)
  have b_l_refused : Binds K fd_l_refused ["_law_memory", "_law_deed", "_law_address_here", "_law_tail_here"] [] := D_l_refused.bindsN (ps := ["_law_memory", "_law_deed", "_law_address_here", "_law_tail_here"]) fun _ _ _ _ _ _ us hl => match us, hl with | [_, _, _, _], _ => rfl
  obtain ⟨fd_Memory_pairs, D_Memory_pairs⟩ := c.z.y.x.d.def_ 38 (d := ⟨("Memory", some "pairs"), "pairs", "Memory.pairs", defArgs (mth 14 12), defBody (mth 14 12), defScope (mth 14 12), [], []⟩) rfl
  have M_Memory_pairs := He.meth_ok (c.z.y.x.d.fact 38 (f := .meth "Memory" "pairs") rfl)
  have b_Memory_pairs : Binds K fd_Memory_pairs ["self"] [] := D_Memory_pairs.bindsN (ps := ["self"]) fun _ _ _ _ _ _ us hl => match us, hl with | [_], _ => rfl
  obtain ⟨fd_l_ordered, D_l_ordered⟩ := c.z.y.x.d.def_ 39 (d := ⟨("_law_ordered", none), "_law_ordered", "_law_ordered", defArgs (top 30), defBody (top 30), defScope (top 30), [], []⟩) rfl
  have g_l_ordered : mg "_law_ordered" = some (.ref (He.ga K "_law_ordered")) := He.glo_ok X G (c.z.y.x.d.fact 39 (f := .glo "_law_ordered") rfl)
  have b_l_ordered : Binds K fd_l_ordered ["_law_pairs"] [] := D_l_ordered.bindsN (ps := ["_law_pairs"]) fun _ _ _ _ _ _ us hl => match us, hl with | [_], _ => rfl
  obtain ⟨fd_l_holds, D_l_holds⟩ := c.z.y.x.d.def_ 40 (d := ⟨("_law_holds", none), "_law_holds", "_law_holds", defArgs (top 37), defBody (top 37), defScope (top 37), [], []⟩) rfl
  have g_l_holds : mg "_law_holds" = some (.ref (He.ga K "_law_holds")) := He.glo_ok X G (c.z.y.x.d.fact 40 (f := .glo "_law_holds") rfl)
  have b_l_holds : Binds K fd_l_holds ["_law_memory", "_law_numbers_here", "_law_packs", "_law_taken"] [] := D_l_holds.bindsN (ps := ["_law_memory", "_law_numbers_here", "_law_packs", "_law_taken"]) fun _ _ _ _ _ _ us hl => match us, hl with | [_, _, _, _], _ => rfl
  obtain ⟨fd_l_blocks, D_l_blocks⟩ := c.z.y.x.d.def_ 41 (d := ⟨("_law_blocks", none), "_law_blocks", "_law_blocks", defArgs (top 38), defBody (top 38), defScope (top 38), [], []⟩) rfl
  have g_l_blocks : mg "_law_blocks" = some (.ref (He.ga K "_law_blocks")) := He.glo_ok X G (c.z.y.x.d.fact 41 (f := .glo "_law_blocks") rfl)
  have b_l_blocks : Binds K fd_l_blocks ["_law_packs", "_law_taken"] [] := D_l_blocks.bindsN (ps := ["_law_packs", "_law_taken"]) fun _ _ _ _ _ _ us hl => match us, hl with | [_, _], _ => rfl
  obtain ⟨fd_law, D_law⟩ := c.z.y.x.d.def_ 42 (d := ⟨("law", none), "law", "law", defArgs (top 39), defBody (top 39), defScope (top 39), [], []⟩) rfl
  have e := hfa.symm.trans (He.glo_ok X G (c.z.y.x.d.fact 42 (f := .glo "law") rfl))
  cases e
  refine ⟨fd_law, fun s v => FunD.bindsA (ps := ["_law_script"]) D_law (fun _ _ _ _ _ _ us hl => match us, hl with | [_], _ => rfl) s [v] rfl, fun base _ _ => ?_⟩
  have FH_l_same_all : ∀ n, FnMH P w K mg base (2 * n + 1) "_law_same" (sp_l_same n) := by
    intro n
    induction n with
    | zero => exact FnMH.of (ok_l_same_h (n := 0) (k := 0) D_l_same B (FnMH.never no_row0 g_l_same_row D_l_same_row.kp b_l_same_row)) g_l_same D_l_same.kp b_l_same
    | succ n ih => exact FnMH.of (ok_l_same_h (n := n + 1) (k := 2 * n + 2) D_l_same B (FnMH.of (ok_l_same_row_h (n := n) (k := 2 * n + 1) D_l_same_row B ih) g_l_same_row D_l_same_row.kp b_l_same_row)) g_l_same D_l_same.kp b_l_same
  have FH_l_same : FnMH P w K mg base 17 "_law_same" (sp_l_same 8) := FH_l_same_all 8
  have F_l_begin : FnM P w K mg base 1 "_law_begin" sp_l_begin := FnM.of (ok_l_begin D_l_begin B ) g_l_begin D_l_begin.kp b_l_begin
  have F_l_grown : FnM P w K mg base 1 "_law_grown" sp_l_grown := FnM.of (ok_l_grown D_l_grown B ) g_l_grown D_l_grown.kp b_l_grown
  have F_l_draw : FnM P w K mg base 1 "_law_draw" sp_l_draw := FnM.of (ok_l_draw D_l_draw B ) g_l_draw D_l_draw.kp b_l_draw
  have F_l_pick : FnM P w K mg base 2 "_law_pick" sp_l_pick := FnM.of (ok_l_pick D_l_pick B F_l_draw) g_l_pick D_l_pick.kp b_l_pick
  have F_l_name : FnM P w K mg base 3 "_law_name" sp_l_name := FnM.of (ok_l_name D_l_name B F_l_draw F_l_pick) g_l_name D_l_name.kp b_l_name
  have F_l_step : FnM P w K mg base 4 "_law_step" sp_l_step := FnM.of (ok_l_step D_l_step B F_l_pick F_l_name) g_l_step D_l_step.kp b_l_step
  have F_l_tail : FnM P w K mg base 5 "_law_tail" sp_l_tail := FnM.of (ok_l_tail D_l_tail B F_l_draw F_l_step) g_l_tail D_l_tail.kp b_l_tail
  have F_l_place : FnM P w K mg base 6 "_law_place" sp_l_place := FnM.of (ok_l_place D_l_place B F_l_draw F_l_name F_l_tail) g_l_place D_l_place.kp b_l_place
  have F_l_parts : FnM P w K mg base 1 "_law_parts" sp_l_parts := FnM.of (ok_l_parts D_l_parts B ) g_l_parts D_l_parts.kp b_l_parts
  have F_l_near : FnM P w K mg base 7 "_law_near" sp_l_near := FnM.of (ok_l_near D_l_near B F_l_parts F_l_draw F_l_step F_l_pick F_l_place) g_l_near D_l_near.kp b_l_near
  have F_l_places : FnM P w K mg base 8 "_law_places" sp_l_places := FnM.of (ok_l_places D_l_places B F_l_place F_l_near F_l_pick) g_l_places D_l_places.kp b_l_places
  have F_l_boxed : FnM P w K mg base 4 "_law_boxed" sp_l_boxed := FnM.of (ok_l_boxed D_l_boxed B F_l_parts F_l_name) g_l_boxed D_l_boxed.kp b_l_boxed
  have F_l_numbers : FnM P w K mg base 8 "_law_numbers" sp_l_numbers := FnM.of (ok_l_numbers D_l_numbers B F_l_draw F_l_near F_l_pick) g_l_numbers D_l_numbers.kp b_l_numbers
  have F_Memory_alive : FnC P w K mg base 1 "Memory" "alive" sp_Memory_alive := FnC.of (ok_Memory_alive D_Memory_alive B ) M_Memory_alive b_Memory_alive
  obtain ⟨cc_Stale_init, cda_Stale_init, fd_Stale_init, D_Stale_init⟩ := c.err_ 0 (d := ⟨"Stale", "Stale.__init__", defArgs (mth 2 0), defBody (mth 2 0), defScope (mth 2 0), PySem.Challenge.pw_lentahead_k54_whole_packing.main.file⟩) rfl
  have F_Stale_init : FnE P w K mg base 1 "Stale" "address" := ok_Stale_init D_Stale_init (c.z.y.x.b 0 rfl) B.k_Stale B.n_super hP1 hP2
  have F_Memory__check : FnC P w K mg base 3 "Memory" "_check" sp_Memory__check := FnC.of (ok_Memory__check D_Memory__check B F_Memory_alive F_Stale_init) M_Memory__check b_Memory__check
  have F_end_of_name : FnM P w K mg base 1 "end_of_name" sp_end_of_name := FnM.of (ok_end_of_name D_end_of_name B ) g_end_of_name D_end_of_name.kp b_end_of_name
  have F_is_name : FnM P w K mg base 1 "is_name" sp_is_name := FnM.of (ok_is_name D_is_name B ) g_is_name D_is_name.kp b_is_name
  have F_steps_of : FnM P w K mg base 2 "steps_of" sp_steps_of := FnM.of (ok_steps_of D_steps_of B F_end_of_name F_is_name) g_steps_of D_steps_of.kp b_steps_of
  have F_Memory__new_block : FnC P w K mg base 1 "Memory" "_new_block" sp_Memory__new_block := FnC.of (ok_Memory__new_block D_Memory__new_block B ) M_Memory__new_block b_Memory__new_block
  have F_Memory__walk : FnC P w K mg base 3 "Memory" "_walk" sp_Memory__walk := FnC.of (ok_Memory__walk D_Memory__walk B F_steps_of F_Memory__new_block) M_Memory__walk b_Memory__walk
  have F_Memory_set_number : FnC P w K mg base 4 "Memory" "set_number" sp_Memory_set_number := FnC.of (ok_Memory_set_number D_Memory_set_number B F_Memory__check F_Memory__walk) M_Memory_set_number b_Memory_set_number
  have F_root_of : FnM P w K mg base 2 "root_of" sp_root_of := FnM.of (ok_root_of D_root_of B F_end_of_name) g_root_of D_root_of.kp b_root_of
  have F_Memory_locate : FnC P w K mg base 4 "Memory" "locate" sp_Memory_locate := FnC.of (ok_Memory_locate D_Memory_locate B F_root_of F_Memory__new_block F_Memory__walk) M_Memory_locate b_Memory_locate
  have F_Memory_init : FnC P w K mg base 5 "Memory" "__init__" sp_Memory_init := FnC.of (ok_Memory_init D_Memory_init B F_Memory_set_number F_Memory_locate) M_Memory_init b_Memory_init
  have F_l_same_all : ∀ n, FnM P w K mg base (2 * n + 1) "_law_same" (sp_l_same n) := by
    intro n
    induction n with
    | zero => exact FnM.of (ok_l_same (n := 0) (k := 0) D_l_same B (FnM.never no_row0 g_l_same_row D_l_same_row.kp b_l_same_row)) g_l_same D_l_same.kp b_l_same
    | succ n ih => exact FnM.of (ok_l_same (n := n + 1) (k := 2 * n + 2) D_l_same B (FnM.of (ok_l_same_row (n := n) (k := 2 * n + 1) D_l_same_row B ih) g_l_same_row D_l_same_row.kp b_l_same_row)) g_l_same D_l_same.kp b_l_same
  have F_l_same : FnM P w K mg base 17 "_law_same" (sp_l_same 8) := F_l_same_all 8
  have F_l_home : FnM P w K mg base 2 "_law_home" sp_l_home := FnM.of (ok_l_home D_l_home B F_l_parts) g_l_home D_l_home.kp b_l_home
  have F_l_address : FnM P w K mg base 18 "_law_address" sp_l_address := FnM.of (ok_l_address D_l_address B F_l_same F_l_home) g_l_address D_l_address.kp b_l_address
  have F_l_relation : FnM P w K mg base 2 "_law_relation" sp_l_relation := FnM.of (ok_l_relation D_l_relation B F_l_parts) g_l_relation D_l_relation.kp b_l_relation
  have F_l_stays : FnM P w K mg base 3 "_law_stays" sp_l_stays := FnM.of (ok_l_stays D_l_stays B F_l_relation) g_l_stays D_l_stays.kp b_l_stays
  have F_Memory_number : FnC P w K mg base 4 "Memory" "number" sp_Memory_number := FnC.of (ok_Memory_number D_Memory_number B F_Memory__check F_Memory__walk) M_Memory_number b_Memory_number
  have F_in_order : FnM P w K mg base 1 "in_order" sp_in_order := FnM.of (ok_in_order D_in_order B ) g_in_order D_in_order.kp b_in_order
  have F_lies_beneath : FnM P w K mg base 1 "lies_beneath" sp_lies_beneath := FnM.of (ok_lies_beneath D_lies_beneath B ) g_lies_beneath D_lies_beneath.kp b_lies_beneath
  have F_Memory__collect : FnC P w K mg base 2 "Memory" "_collect" sp_Memory__collect := FnC.of (ok_Memory__collect D_Memory__collect B F_lies_beneath) M_Memory__collect b_Memory__collect
  have F_Memory_part : FnC P w K mg base 4 "Memory" "part" sp_Memory_part := FnC.of (ok_Memory_part D_Memory_part B F_Memory__check F_in_order F_Memory__collect) M_Memory_part b_Memory_part
  have F_Memory__move : FnC P w K mg base 2 "Memory" "_move" sp_Memory__move := FnC.of (ok_Memory__move D_Memory__move B F_Memory__new_block) M_Memory__move b_Memory__move
  have F_Memory_pack : FnC P w K mg base 4 "Memory" "pack" sp_Memory_pack := FnC.of (ok_Memory_pack D_Memory_pack B F_Memory__check F_Memory__walk F_lies_beneath F_Memory__move) M_Memory_pack b_Memory_pack
  have F_l_refused : FnM P w K mg base 18 "_law_refused" sp_l_refused := FnM.of (ok_l_refused D_l_refused B F_Memory_number F_Memory_set_number F_Memory_part F_Memory_pack F_l_same FH_l_same) g_l_refused D_l_refused.kp b_l_refused
  have F_Memory_pairs : FnC P w K mg base 3 "Memory" "pairs" sp_Memory_pairs := FnC.of (ok_Memory_pairs D_Memory_pairs B F_Memory__collect F_in_order) M_Memory_pairs b_Memory_pairs
  have F_l_ordered : FnM P w K mg base 1 "_law_ordered" sp_l_ordered := FnM.of (ok_l_ordered D_l_ordered B ) g_l_ordered D_l_ordered.kp b_l_ordered
  have F_l_holds : FnM P w K mg base 19 "_law_holds" sp_l_holds := FnM.of (ok_l_holds D_l_holds B F_Memory_locate F_l_stays F_l_same F_Memory_alive F_l_address F_Memory_number F_l_refused F_Memory_pairs F_l_ordered) g_l_holds D_l_holds.kp b_l_holds
  have F_l_blocks : FnM P w K mg base 4 "_law_blocks" sp_l_blocks := FnM.of (ok_l_blocks D_l_blocks B F_l_home F_l_stays) g_l_blocks D_l_blocks.kp b_l_blocks
  exact ok_law D_law B F_l_begin F_l_grown F_l_places F_l_boxed F_l_pick F_l_numbers F_Memory_init F_l_draw F_Memory_locate F_l_address F_l_tail F_l_stays F_l_refused F_Memory_pack F_Memory_set_number F_l_same F_Memory_number F_l_holds F_l_blocks
end Lw
open PySem PySem.W PySem.Calls PyProof.Rows
theorem PySem.Challenge.cw_lentahead_k54_whole_packing_holds : PySem.Challenge.rw_lentahead_k54_whole_packing.Holds :=
  Lw.holds_of (sp := DL.sp_law) (fun ns hl => by first | exact ⟨ns, rfl, fun _ => rfl⟩ | exact ⟨ns, rfl, hl, fun _ => rfl⟩) fun X G h c => Lw.facts X G h (by kernel_rfl) (by kernel_rfl) c
