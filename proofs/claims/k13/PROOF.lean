import PyProof.Rows.All
import HandS.List
import HandS.RevRange
import PyProof.Rows.SortStr
import PyProof.Rows.SortShellAny
import Wide.All
import OpenK.AllK
import Wide.FinOn
import KE.KStateDown
import Lean
import HandS.ForMost
import HandS.ForExc
import HandS.HotCalls
import HandS.Defaults
import HandS.Steps
import HandS.IsInst
import HandS.Head0
import HandS.Head1
import HandS.Head2
import HandS.HeadEnd
import HandS.HeadHook1
import HandS.HeadHook2
import HandS.HeadHook3
import HandS.Small
import HandS.RaiseMore
import HandS.Star
import HandS.FStr
import KE.KOpsOwn
import KE.KOwnIter
import HandS.SlotsOwn
import HandS.ClsMeth
import HandS.HeadNt
import HandS.IterVal
import HandS.Property
import HandS.OwnIter
import HandS.DictComp
import HandS.TryMany
import HandS.Iter
import KE.KCallOwn
import HandS.ExcInit
import HandS.ExcField
import HandS.Nested
import KE.KExcSuper
import KE.KExcIs
import HandS.Text
import HandS.Strs
import HandS.TupLe
import HandS.Dict
import HandS.More
import HandS.GenList
import HandS.MakeKwOnly
import HandS.ExcCtx
import HandS.SuiteRaise
import HandS.RaiseFrom
import HandS.ExcInitHot
import HandS.NestedHot
import PySem.Challenge.RW_lentahead_k13_rules_read_from_lines
set_option Elab.async false
set_option linter.all false
set_option maxRecDepth 100000
set_option maxHeartbeats 4000000
namespace DL
open PySem L2
abbrev Tx := List Nat
def sx (t : Tx) : Str := ⟨t.toArray⟩
def T (s : Str) : Tx := s.cps.toList
theorem sx_T (s : Str) : sx (T s) = s := by cases s; simp [sx, T]
theorem T_sx (t : Tx) : T (sx t) = t := by simp [sx, T]
theorem sx_inj {a b : Tx} (h : sx a = sx b) : a = b := by rw [← T_sx a, ← T_sx b, h]
theorem sx_len (t : Tx) : (sx t).length = t.length := by simp [sx, PySem.Str.length]
theorem sx_add (a b : Tx) : sx a ++ sx b = sx (a ++ b) := by
  show Str.mk _ = Str.mk _
  simp [sx]
inductive D where
  | non | bl (b : Bool) | int (i : Int) | str (x : Tx) | ref (a : Addr) | ty (n : String)
  | lst (ds : List D) | tup (ds : List D) | scr (ns : List Int)
  /-- an own class, by its name in the module -/
  | cl (x : Str)
  /-- a caught exception of an own class: where it stands, where its dict stands, its class, its fields -/
  | exc (a dd : Addr) (C : Str) (ns : List Str) (ds : List D)
abbrev DKey := Sum Int Tx
def kO : DKey → Key
  | .inl i => .inl i
  | .inr x => .inr (sx x)
theorem kO_inj {a b : DKey} (h : kO a = kO b) : a = b := by
  cases a <;> cases b <;> simp only [kO, Sum.inl.injEq, Sum.inr.injEq, reduceCtorEq] at h
  · rw [h]
  · rw [sx_inj h]
def kD : DKey → D
  | .inl i => .int i
  | .inr x => .str x
inductive MO where
  | lst (ds : List D)
  | dK (kvs : List (DKey × D))
  /-- a dict that is walked: read only -/
  | fK (kvs : List (DKey × D)) (u : HO)
  /-- a dict whose keys are tuples -/
  | dT (kvs : List (List DKey × D))
  | fT (kvs : List (List DKey × D)) (u : HO)
  | ins (C : Str) (fs : List (Str × D))
abbrev Mu := Addr → Option MO
def dOf : MO → Option (List (DKey × D))
  | .dK kvs => some kvs
  | .fK kvs _ => some kvs
  | _ => none
def put (M : Mu) (a : Addr) (o : MO) : Mu := fun b => if b = a then some o else M b
def del (M : Mu) (a : Addr) : Mu := fun b => if b = a then none else M b
theorem put_same {M : Mu} {a : Addr} {o : MO} : put M a o a = some o := if_pos rfl
theorem put_ne {M : Mu} {a b : Addr} {o : MO} (h : b ≠ a) : put M a o b = M b := if_neg h
theorem del_same {M : Mu} {a : Addr} : del M a a = none := if_pos rfl
theorem del_ne {M : Mu} {a b : Addr} (h : b ≠ a) : del M a b = M b := if_neg h
theorem put_put {M : Mu} {a : Addr} {o p : MO} : put (put M a o) a p = put M a p := by
  funext b
  by_cases e : b = a
  · rw [e, put_same, put_same]
  · rw [put_ne e, put_ne e, put_ne e]
theorem del_put {M : Mu} {a : Addr} {o : MO} : del (put M a o) a = del M a := by
  funext b
  by_cases e : b = a
  · rw [e, del_same, del_same]
  · rw [del_ne e, del_ne e, put_ne e]
theorem del_new {M : Mu} {a : Addr} (h : M a = none) : del M a = M := by
  funext b
  by_cases e : b = a
  · rw [e, del_same, h]
  · rw [del_ne e]
theorem del_put_new {M : Mu} {a : Addr} {o : MO} (h : M a = none) : del (put M a o) a = M := by rw [del_put, del_new h]
section
variable (K : PySem.W.Frag) (M : Mu) (H : Hp)
def WrT (a : Addr) (vs : List V) : Prop := ∃ (o : Obj) (its : Array Value) (n : Nat), K.lookup a = some o ∧ o.cls = .type "tuple" ∧ o.data = .seq its n ∧ its.size ≤ sizeLine ∧ Vals vs its.toList
def WrN (a : Addr) (vs : List V) : Prop := WrT K a vs ∧ ∀ i, V.int i ∉ vs
def WrL (a : Addr) (vs : List V) : Prop := ∃ (o : Obj) (its : Array Value) (n : Nat), K.lookup a = some o ∧ o.cls = .type "list" ∧ o.dict = none ∧ o.data = .seq its n ∧ its.size ≤ sizeLine ∧ Vals vs its.toList
mutual
def Rep : D → V → Prop
  | .non, v => v = .non
  | .bl b, v => v = .bl b
  | .int i, v => v = .int i
  | .str x, v => v = .str (sx x)
  | .ref a, v => v = .ref a
  | .ty n, v => v = .ty n
  | .cl x, v => v = .ref (He.ga K x)
  | .scr ns, v => ∃ a, v = .ref a ∧ (((∃ o, H a = some (.frz o (.lst (ns.map V.int)))) ∧ M a = none) ∨ WrL K a (ns.map V.int))
  | .lst ds, v => ∃ a vs, v = .ref a ∧ H a = some (.lst vs) ∧ M a = none ∧ Reps ds vs
  | .tup ds, v => ∃ a vs, v = .ref a ∧ ((H a = some (.tup vs) ∧ M a = none) ∨ WrN K a vs) ∧ Reps ds vs
  | .exc a dd _ ns ds, v => v = .ref a ∧ ∃ gs : List (Str × V), H dd = some (.xd gs) ∧ M dd = none ∧ gs.map (·.1) = ns ∧ Reps ds (gs.map (·.2))
def Reps : List D → List V → Prop
  | [], vs => vs = []
  | d :: ds, vs => ∃ v r, vs = v :: r ∧ Rep d v ∧ Reps ds r
end
def RepO : MO → HO → Prop
  | .lst ds, o => ∃ vs, o = .lst vs ∧ Reps K M H ds vs
  | .dK kvs, o => ∃ ks, o = .dK ks ∧ ks.map (·.1) = kvs.map (fun q => kO q.1) ∧ Reps K M H (kvs.map (·.2)) (ks.map (·.2))
  | .fK kvs u, o => o = u ∧ ∃ od ks, u = .frz od (.dK ks) ∧ ks.map (·.1) = kvs.map (fun q => kO q.1) ∧ Reps K M H (kvs.map (·.2)) (ks.map (·.2))
  | .dT kvs, o => ∃ ks, o = .dT ks ∧ ks.map (·.1) = kvs.map (fun q => q.1.map kO) ∧ Reps K M H (kvs.map (·.2)) (ks.map (·.2))
  | .fT kvs u, o => o = u ∧ ∃ od ks, u = .frz od (.dT ks) ∧ ks.map (·.1) = kvs.map (fun q => q.1.map kO) ∧ Reps K M H (kvs.map (·.2)) (ks.map (·.2))
  | .ins C fs, o => ∃ dx gs, o = .ins (He.ga K C) dx gs ∧ gs.map (·.1) = fs.map (·.1) ∧ Reps K M H (fs.map (·.2)) (gs.map (·.2))
def Cor : Prop := ∀ a mo, M a = some mo → ∃ o, H a = some o ∧ RepO K M H mo o
def RepS : List (Option D) → List (Option V) → Prop
  | [], vs => vs = []
  | none :: ds, vs => ∃ v r, vs = v :: r ∧ RepS ds r
  | some d :: ds, vs => ∃ v r, vs = some v :: r ∧ Rep K M H d v ∧ RepS ds r
end
def Stp (M : Mu) (H : Hp) (M' : Mu) (H' : Hp) : Prop := ∀ b o, H b = some o → M b = none → H' b = some o ∧ M' b = none
theorem Stp.refl (M : Mu) (H : Hp) : Stp M H M H := fun _ _ h m => ⟨h, m⟩
theorem Stp.trans {M M1 M2 : Mu} {H H1 H2 : Hp} (a : Stp M H M1 H1) (b : Stp M1 H1 M2 H2) : Stp M H M2 H2 := fun c o h m => b c o (a c o h m).1 (a c o h m).2
section
variable {K : PySem.W.Frag} {M M' : Mu} {H H' : Hp}
mutual
theorem Rep.stp (s : Stp M H M' H') : ∀ {d : D} {v : V}, Rep K M H d v → Rep K M' H' d v
  | .non, _, h => h
  | .bl _, _, h => h
  | .int _, _, h => h
  | .str _, _, h => h
  | .ref _, _, h => h
  | .ty _, _, h => h
  | .cl _, _, h => h
  | .scr ns, v, h => by
    unfold Rep at h ⊢
    obtain ⟨a, e, h⟩ := h
    refine ⟨a, e, ?_⟩
    rcases h with ⟨⟨o, h1⟩, h2⟩ | h
    · obtain ⟨h1, h2⟩ := s a _ h1 h2
      exact .inl ⟨⟨o, h1⟩, h2⟩
    · exact .inr h
  | .lst ds, v, h => by
    unfold Rep at h ⊢
    obtain ⟨a, vs, e, h1, h2, h3⟩ := h
    obtain ⟨h1, h2⟩ := s a _ h1 h2
    exact ⟨a, vs, e, h1, h2, Reps.stp s h3⟩
  | .tup ds, v, h => by
    unfold Rep at h ⊢
    obtain ⟨a, vs, e, h1, h3⟩ := h
    refine ⟨a, vs, e, ?_, Reps.stp s h3⟩
    rcases h1 with ⟨h1, h2⟩ | h1
    · exact .inl (s a _ h1 h2)
    · exact .inr h1
  | .exc a dd C ns ds, v, h => by
    unfold Rep at h ⊢
    obtain ⟨e, gs, h1, h2, h3, h4⟩ := h
    obtain ⟨h1, h2⟩ := s dd _ h1 h2
    exact ⟨e, gs, h1, h2, h3, Reps.stp s h4⟩
theorem Reps.stp (s : Stp M H M' H') : ∀ {ds : List D} {vs : List V}, Reps K M H ds vs → Reps K M' H' ds vs
  | [], _, h => h
  | d :: ds, vs, h => by
    unfold Reps at h ⊢
    obtain ⟨v, r, e, h1, h2⟩ := h
    exact ⟨v, r, e, Rep.stp s h1, Reps.stp s h2⟩
end
theorem RepO.stp (s : Stp M H M' H') : ∀ {m : MO} {o : HO}, RepO K M H m o → RepO K M' H' m o
  | .lst _, _, ⟨vs, e, r⟩ => ⟨vs, e, r.stp s⟩
  | .dK _, _, ⟨ks, e, e2, r⟩ => ⟨ks, e, e2, r.stp s⟩
  | .fK _ _, _, ⟨e0, od, ks, e, e2, r⟩ => ⟨e0, od, ks, e, e2, r.stp s⟩
  | .dT _, _, ⟨ks, e, e2, r⟩ => ⟨ks, e, e2, r.stp s⟩
  | .fT _ _, _, ⟨e0, od, ks, e, e2, r⟩ => ⟨e0, od, ks, e, e2, r.stp s⟩
  | .ins _ _, _, ⟨dx, gs, e, e2, r⟩ => ⟨dx, gs, e, e2, r.stp s⟩
theorem RepS.stp (s : Stp M H M' H') : ∀ {ds : List (Option D)} {vs : List (Option V)}, RepS K M H ds vs → RepS K M' H' ds vs
  | [], _, h => h
  | none :: ds, _, ⟨v, r, e, h⟩ => ⟨v, r, e, RepS.stp s h⟩
  | some d :: ds, _, ⟨v, r, e, h1, h⟩ => ⟨v, r, e, h1.stp s, RepS.stp s h⟩
theorem Reps.nil : Reps K M H [] [] := rfl
theorem Reps.cons {d : D} {v : V} {ds : List D} {vs : List V} (h : Rep K M H d v) (t : Reps K M H ds vs) : Reps K M H (d :: ds) (v :: vs) := ⟨v, vs, rfl, h, t⟩
theorem Reps.length : ∀ {ds : List D} {vs : List V}, Reps K M H ds vs → vs.length = ds.length
  | [], _, h => by cases (show _ = [] from h); rfl
  | d :: ds, _, h => by
    obtain ⟨v, r, rfl, _, h⟩ := (show ∃ v r, _ = v :: r ∧ Rep K M H d v ∧ Reps K M H ds r from h)
    rw [List.length_cons, List.length_cons, h.length]
theorem Reps.uncons {d : D} {ds : List D} {vs : List V} (h : Reps K M H (d :: ds) vs) : ∃ v r, vs = v :: r ∧ Rep K M H d v ∧ Reps K M H ds r := h
theorem Reps.unnil {vs : List V} (h : Reps K M H [] vs) : vs = [] := h
theorem Reps.get : ∀ {ds : List D} {vs : List V} {i : Nat} {d : D}, Reps K M H ds vs → ds[i]? = some d → ∃ v, vs[i]? = some v ∧ Rep K M H d v
  | [], _, _, _, _, e => by simp at e
  | d :: ds, _, 0, x, h, e => by
    obtain ⟨v, r, rfl, h1, _⟩ := h.uncons
    simp at e; subst e
    exact ⟨v, rfl, h1⟩
  | d :: ds, _, i + 1, x, h, e => by
    obtain ⟨v, r, rfl, _, h⟩ := h.uncons
    obtain ⟨u, h1, h2⟩ := Reps.get (i := i) h (by simpa using e)
    exact ⟨u, by simpa using h1, h2⟩
theorem Reps.set {d : D} {v : V} (r : Rep K M H d v) : ∀ {ds : List D} {vs : List V} (i : Nat), Reps K M H ds vs → Reps K M H (ds.set i d) (vs.set i v)
  | [], _, _, h => by cases h.unnil; exact .nil
  | x :: ds, _, 0, h => by
    obtain ⟨u, s, rfl, h1, h2⟩ := h.uncons
    exact .cons r h2
  | x :: ds, _, i + 1, h => by
    obtain ⟨u, s, rfl, h1, h2⟩ := h.uncons
    exact .cons h1 (Reps.set r i h2)
theorem Reps.append : ∀ {ds es : List D} {vs us : List V}, Reps K M H ds vs → Reps K M H es us → Reps K M H (ds ++ es) (vs ++ us)
  | [], _, _, _, h, h2 => by cases h.unnil; exact h2
  | d :: ds, _, _, _, h, h2 => by
    obtain ⟨v, r, rfl, h1, h⟩ := h.uncons
    exact .cons h1 (h.append h2)
theorem Reps.snoc {ds : List D} {vs : List V} {d : D} {v : V} (h : Reps K M H ds vs) (h1 : Rep K M H d v) : Reps K M H (ds ++ [d]) (vs ++ [v]) := h.append (.cons h1 .nil)
theorem Reps.take : ∀ {ds : List D} {vs : List V} (n : Nat), Reps K M H ds vs → Reps K M H (ds.take n) (vs.take n)
  | _, _, 0, _ => by simp only [List.take_zero]; exact .nil
  | [], _, _ + 1, h => by cases h.unnil; exact .nil
  | d :: ds, _, n + 1, h => by
    obtain ⟨v, r, rfl, h1, h⟩ := h.uncons
    exact .cons h1 (Reps.take n h)
theorem Reps.drop : ∀ {ds : List D} {vs : List V} (n : Nat), Reps K M H ds vs → Reps K M H (ds.drop n) (vs.drop n)
  | _, _, 0, h => h
  | [], _, _ + 1, h => by cases h.unnil; exact .nil
  | d :: ds, _, n + 1, h => by
    obtain ⟨v, r, rfl, h1, h⟩ := h.uncons
    exact Reps.drop n h
theorem Reps.dropLast {ds : List D} {vs : List V} (h : Reps K M H ds vs) : Reps K M H ds.dropLast vs.dropLast := by
  rw [List.dropLast_eq_take, List.dropLast_eq_take, h.length]
  exact h.take _
theorem Reps.reverse : ∀ {ds : List D} {vs : List V}, Reps K M H ds vs → Reps K M H ds.reverse vs.reverse
  | [], _, h => by cases h.unnil; exact .nil
  | d :: ds, _, h => by
    obtain ⟨v, r, rfl, h1, h⟩ := h.uncons
    rw [List.reverse_cons, List.reverse_cons]
    exact h.reverse.snoc h1
theorem Reps.strs : ∀ {xs : List Tx} {vs : List V}, Reps K M H (xs.map D.str) vs → vs = (xs.map sx).map V.str
  | [], _, h => h.unnil
  | x :: xs, _, h => by
    obtain ⟨v, r, rfl, h1, h⟩ := h.uncons
    rw [(show v = _ from h1), h.strs]; rfl
theorem Reps.of_strs : ∀ (xs : List Tx), Reps K M H (xs.map D.str) ((xs.map sx).map V.str)
  | [] => .nil
  | _ :: xs => .cons rfl (Reps.of_strs xs)
theorem Reps.of_ints : ∀ (xs : List Int), Reps K M H (xs.map D.int) (xs.map V.int)
  | [] => .nil
  | _ :: xs => .cons rfl (Reps.of_ints xs)
theorem Reps.bls : ∀ {xs : List Bool} {vs : List V}, Reps K M H (xs.map D.bl) vs → vs = xs.map V.bl
  | [], _, h => h.unnil
  | x :: xs, _, h => by
    obtain ⟨v, r, rfl, h1, h⟩ := h.uncons
    rw [(show v = _ from h1), h.bls]; rfl
theorem RepS.get : ∀ {ds : List (Option D)} {vs : List (Option V)} {i : Nat} {d : D}, RepS K M H ds vs → ds[i]? = some (some d) → ∃ v, vs[i]? = some (some v) ∧ Rep K M H d v
  | [], _, _, _, _, e => by simp at e
  | none :: ds, _, 0, _, _, e => by simp at e
  | some d :: ds, _, 0, _, ⟨v, r, e1, h1, _⟩, e => by
    subst e1; simp at e; subst e
    exact ⟨v, rfl, h1⟩
  | none :: ds, _, i + 1, d, ⟨v, r, e1, h⟩, e => by
    subst e1
    obtain ⟨u, h1, h2⟩ := RepS.get (i := i) (d := d) h (by simpa using e)
    exact ⟨u, by simpa using h1, h2⟩
  | some _ :: ds, _, i + 1, d, ⟨v, r, e1, _, h⟩, e => by
    subst e1
    obtain ⟨u, h1, h2⟩ := RepS.get (i := i) (d := d) h (by simpa using e)
    exact ⟨u, by simpa using h1, h2⟩
theorem RepS.set {d : D} {v : V} (rp : Rep K M H d v) : ∀ {ds : List (Option D)} {vs : List (Option V)} (i : Nat), RepS K M H ds vs → RepS K M H (ds.set i (some d)) (vs.set i (some v))
  | [], _, _, h => by cases (show _ = [] from h); exact rfl
  | none :: ds, _, 0, ⟨u, r, e, h⟩ => by subst e; exact ⟨v, r, rfl, rp, h⟩
  | some _ :: ds, _, 0, ⟨u, r, e, _, h⟩ => by subst e; exact ⟨v, r, rfl, rp, h⟩
  | none :: ds, _, i + 1, ⟨u, r, e, h⟩ => by subst e; exact ⟨u, r.set i (some v), rfl, RepS.set rp i h⟩
  | some x :: ds, _, i + 1, ⟨u, r, e, h1, h⟩ => by subst e; exact ⟨u, r.set i (some v), rfl, h1, RepS.set rp i h⟩
theorem RepS.none : ∀ {ds : List (Option D)} {vs : List (Option V)} (i : Nat) (x : Option V), RepS K M H ds vs → RepS K M H (ds.set i none) (vs.set i x)
  | [], _, _, _, h => by cases (show _ = [] from h); exact rfl
  | .none :: ds, _, 0, x, ⟨u, r, e, h⟩ => by subst e; exact ⟨x, r, rfl, h⟩
  | some _ :: ds, _, 0, x, ⟨u, r, e, _, h⟩ => by subst e; exact ⟨x, r, rfl, h⟩
  | .none :: ds, _, i + 1, x, ⟨u, r, e, h⟩ => by subst e; exact ⟨u, r.set i x, rfl, RepS.none i x h⟩
  | some y :: ds, _, i + 1, x, ⟨u, r, e, h1, h⟩ => by subst e; exact ⟨u, r.set i x, rfl, h1, RepS.none i x h⟩
theorem RepS.start : ∀ {ds : List D} {vs : List V} (n : Nat), Reps K M H ds vs → RepS K M H (ds.map some ++ List.replicate n Option.none) (vs.map some ++ List.replicate n Option.none)
  | [], _, n, h => by
    cases h.unnil
    show RepS K M H (List.replicate n Option.none) (List.replicate n Option.none)
    induction n with
    | zero => exact rfl
    | succ n ih => exact ⟨.none, _, rfl, ih⟩
  | d :: ds, _, n, h => by
    obtain ⟨v, r, rfl, h1, h⟩ := h.uncons
    exact ⟨v, _, rfl, h1, RepS.start n h⟩
theorem Cor.free (c : Cor K M H) {p : Addr} (h : H p = none) : M p = none := by
  cases e : M p with
  | none => rfl
  | some mo => obtain ⟨o, h2, _⟩ := c p mo e; rw [h] at h2; cases h2
theorem Stp.new {p : Addr} {o : HO} (h : H p = none) : Stp M H M (upd H p o) := fun b u e m => ⟨by rw [upd_ne (ne_of_none e h)]; exact e, m⟩
theorem Stp.newM {p : Addr} {o : HO} {mo : MO} (h : H p = none) : Stp M H (put M p mo) (upd H p o) := fun b u e m =>
  have n := ne_of_none e h
  ⟨by rw [upd_ne n]; exact e, by rw [put_ne n]; exact m⟩
theorem Stp.write {a : Addr} {o : HO} {mo mo' : MO} (h : M a = some mo) : Stp M H (put M a mo') (upd H a o) := fun b u e m => by
  have n : b ≠ a := fun z => by rw [z, h] at m; cases m
  exact ⟨by rw [upd_ne n]; exact e, by rw [put_ne n]; exact m⟩
theorem Stp.frz {a : Addr} : Stp M H (del M a) H := fun b u e m => ⟨e, by
  by_cases z : b = a
  · rw [z, del_same]
  · rw [del_ne z]; exact m⟩
theorem Cor.new (c : Cor K M H) {p : Addr} {o : HO} (h : H p = none) : Cor K M (upd H p o) := fun a mo e => by
  obtain ⟨u, h1, r⟩ := c a mo e
  exact ⟨u, by rw [upd_ne (ne_of_none h1 h)]; exact h1, r.stp (Stp.new h)⟩
theorem Cor.newM (c : Cor K M H) {p : Addr} {o : HO} {mo : MO} (h : H p = none) (r0 : RepO K M H mo o) : Cor K (put M p mo) (upd H p o) := fun a m e => by
  by_cases z : a = p
  · subst z
    rw [put_same] at e; cases e
    exact ⟨o, upd_same, r0.stp (Stp.newM h)⟩
  · rw [put_ne z] at e
    obtain ⟨u, h1, r⟩ := c a m e
    exact ⟨u, by rw [upd_ne z]; exact h1, r.stp (Stp.newM h)⟩
theorem Cor.write (c : Cor K M H) {a : Addr} {o : HO} {mo mo' : MO} (h : M a = some mo) (r0 : RepO K M H mo' o) : Cor K (put M a mo') (upd H a o) := fun b m e => by
  by_cases z : b = a
  · subst z
    rw [put_same] at e; cases e
    exact ⟨o, upd_same, r0.stp (Stp.write h)⟩
  · rw [put_ne z] at e
    obtain ⟨u, h1, r⟩ := c b m e
    exact ⟨u, by rw [upd_ne z]; exact h1, r.stp (Stp.write h)⟩
theorem Cor.frz (c : Cor K M H) {a : Addr} : Cor K (del M a) H := fun b m e => by
  have z : b ≠ a := fun z => by rw [z, del_same] at e; cases e
  rw [del_ne z] at e
  obtain ⟨u, h1, r⟩ := c b m e
  exact ⟨u, h1, r.stp Stp.frz⟩
end
end DL
namespace DL
open PySem PySem.Spec PyProof.Rows L2
theorem takes_none5N {X : Cx} : L2N.Takes X (fun _ _ _ _ => False) := fun _ _ ⟨_, _, _, _, _, _, _, _, _, _, _, _, _, _, _, _, w⟩ => w.elim
theorem mk_endN {X : Cx} {pins : List (Addr × Obj)} {σ : L2.St} {H1 H2 : Hp} {Q : XK} {hp hp2 h2 : Heap} {g1 g2 : Array GenState} {d1 d2 : Drawn} {t1 t2 : Nat} {os1 os2 : OsState} {a C d : Addr} {fs : List (Str × V)} (T : Raises X (.ref C)) (I1 : Inv X pins σ H1 ⟨hp, g1, d1, t1, os1⟩)
    (ha : hp.objs.size ≤ a) (k : ∀ b o, hp.get? b = some o → hp2.get? b = some o) (un : Un (frs X.stack) [] (upd H1 a (exo a C none)) H2 hp2 h2) (hok : HOk X.prog X.w H2 h2) (ho : os2 = os1) (hb : AllBare g2)
    (ea : H2 a = some (exo a C (some d))) (ed : H2 d = some (exd d fs)) (hd1 : H1 d = none) (q : Q (.ref C) (some d) (upd (L2.del H2 a) d (.xd fs))) : L2N.MkP X pins σ Q (.ref a) ⟨h2, g2, d2, t2, os2⟩ := by
  obtain ⟨t0, G, J, kG, ge, hoe, na⟩ := mk_end0 (d2 := d2) (t2 := t2) I1 ha k un hok ho hb ea ed hd1
  exact ⟨a, _, _, ⟨G, g2, d2, t2, os2⟩, _, .ref C, some d, rfl, J, kG, ge, hoe, ⟨rfl, rfl, fun vs e => by cases e; rfl⟩, rfl, rfl, na, rfl, hb, T, q⟩
theorem cxUpN {P : Program} {w : World} : StX.CXUp (L2N.CX P w) := by
  rintro outer s H s2 H2 E e s' un kp ho ⟨a, B, H', cls, d, ea, fl, hok, ub, na, os, ag, he⟩
  have fr : ∀ {b : Addr} {o : Obj}, s.heap.get? b = some o → H b = none → H2 b = none := fun {b o} q n => un.free b o q n (by simp)
  refine ⟨a, B, H', cls, d, ea, fl, hok, ⟨fun b o q n hb => ub.keep b o (kp b o q) (fr q n) hb, fun b o q hb => ub.slot b o (kp b o q) hb, fun b o q n => ub.free b o (kp b o q) (fr q n),
    fun b o q hb => ub.there b o (kp b o q) hb, fun b xs q => ub.tups b xs (un.tups b xs q), fun b o xs q => ub.frzs b o xs (un.frzs b o xs q), fun b ps q => ?_⟩, na, os.trans ho, ag, he⟩
  obtain ⟨m1, e1⟩ := un.tbls b ps q
  obtain ⟨m2, e2⟩ := ub.tbls b _ e1
  exact ⟨m1 ++ m2, by rw [e2, Array.append_assoc]⟩
section
variable {X : Cx} {e : Expr} {es : List Expr} {ta : TA} {p pos : Pos}
theorem pmk_oexN {CX : CXT} {x : Str} {C fI : Addr} {k : Nat} {fd : FuncData} {ps : List Str} {sp : Sp} {ds : List Value} {dvs : List V} (T : OexC X.K C) (iC : PySem.W.findIn X.K (.ref C) "__init__" = some (some (.ref fI))) (tI : PySem.W.typeIn X.K (.ref fI) = some (.type "function"))
    (F1 : FnOk X.prog X.w X.K X.mg X.base CX k fI fd ps sp) (hr : Room (k + 1) X.A) (hb : Binds X.K fd ps ds) (hd : Vals dvs ds) (hx : Passes CX X (fun _ _ _ => False)) (hg : Gl X x) (hm : X.mg x = some (.ref C)) (ha : PA X (e :: es) ta)
    (hdb : (x == ("__debug__" : Str)) = false := by decide) (he : starEach (e :: es) X.env = (false, eval e X.env) :: starEach es X.env := by rfl) (hpl : (backTo pos (starEach es X.env)).any (·.1) = false := by rfl) :
    L2N.PMk X (.Call (.Name x p) (e :: es) [] pos) (tMkO C sp dvs ta) := by
  intro pins s σ H Q I h
  obtain ⟨nm, q, N, bs, bm, sn, sub, ab, col, dd, k0, k1, k2, k3, k5, hC, hbm⟩ := T.cls
  refine wpAny_Call_Name_kw (ld_glob I hg hm ?_ hdb)
  refine PySem.W.callWith_K (h₀ := X.base) I.ok.mod.kin T.kC (thn (ha.run pos pins s σ H _ I h) fun us s1 ⟨vs, H1, I1, r1, hz, q1⟩ => ⟨I1.kIn, ?_⟩) he hpl
  show wpAny _ _ (call (.ref C) us) _ _ _
  obtain ⟨hp, g, dr, tk, os⟩ := s1
  have hsz : hp.objs.size ≤ hp.objs.size + 1 := Nat.le_succ _
  have hq := q1 (hp.objs.size + 1) (I1.hok.fresh hsz)
  have hget : ((hp.push (PySem.W.kdv_tup us)).push (PySem.HandSPX.excO C hp.objs.size)).get? (hp.objs.size + 1) = some (PySem.HandSPX.excO C hp.objs.size) := by heap_get
  have kk : ∀ b o, hp.get? b = some o → ((hp.push (PySem.W.kdv_tup us)).push (PySem.HandSPX.excO C hp.objs.size)).get? b = some o := fun b o e => Heap.get?_push_of_some _ (Heap.get?_push_of_some _ e)
  have I2 : Inv X pins σ (upd H1 (hp.objs.size + 1) (exo (hp.objs.size + 1) C none)) ⟨(hp.push (PySem.W.kdv_tup us)).push (PySem.HandSPX.excO C hp.objs.size), g, dr, tk, os⟩ :=
    I1.laid (t' := tk) (a := hp.objs.size + 1) (o := exo (hp.objs.size + 1) C none) (h' := (hp.push (PySem.W.kdv_tup us)).push (PySem.HandSPX.excO C hp.objs.size)) kk hsz (exo_ok hget)
  have r2 : Vals (V.ref (hp.objs.size + 1) :: (vs ++ dvs)) (Value.ref (hp.objs.size + 1) :: (us ++ ds)) := .cons rfl (r1.append hd)
  have hl : (Value.ref (hp.objs.size + 1) :: us ++ ds).length = ps.length := (r2.length.symm.trans (F1.len _ _ _ _ hq))
  have hus : us.length ≤ sizeLine := by
    rw [← Paired.length r1, sizeLine_eq]
    omega
  refine wpAny_call (PySem.HandSPX.call_own F.excBase_ValueError (fun Y => PySem.HandSPX.refsVE_contains Y bm hbm) (I1.kIn _ _ hC) (PySem.W.looks_findIn I1.kIn iC) (fun self => PySem.W.bind_fn I1.kIn self tI) hus
    (codeAny_mono (F1.run _ X.stack _ _ ⟨Value.ref (hp.objs.size + 1) :: us, []⟩ (Value.ref (hp.objs.size + 1) :: (us ++ ds)) _ _ (fun _ _ _ => False) (hr.make C us []) (I2.env0.make C us []) (hb _ (Value.ref (hp.objs.size + 1) :: us) I2.kIn hl) r2 hq) fun r s' hq' => ?_))
  match r, hq' with
  | .error er, hq' => exact hx pins σ _ _ er s' I2 hq'
  | .ok (.ret u), ⟨v, H2, os2, bare2, un2, hok2, rv, ev, d, fs, ea, ed, hd1, q2⟩ =>
    subst ev
    obtain ⟨h2, g2, d2, t2, os'⟩ := s'
    exact ⟨rv, mk_endN (raises_own T.exC T.tyC) I1 hsz kk un2 hok2 os2 bare2 ea ed hd1 q2⟩
  | .ok .next, hq' => exact False.elim hq'
  | .ok .brk, hq' => exact False.elim hq'
  | .ok .cont, hq' => exact False.elim hq'
end
end DL
namespace DL
open PySem L2
abbrev DSt := List (Option D)
abbrev DK := D → Mu → Prop
structure XD where
  cls : Str
  fs : List (Str × D)
abbrev DX := XD → Mu → Prop
abbrev DR (α : Type) := DSt → Mu → (α → Mu → Prop) → DX → Prop
abbrev DTE := DR D
abbrev DTT := DR Bool
abbrev DTA := DR (List D)
def RepX (K : PySem.W.Frag) (M : Mu) (H : Hp) (x : XD) (c : Value) (d : Option Addr) : Prop :=
  c = .ref (He.ga K x.cls) ∧ match d with
    | none => x.fs = []
    | some a => ∃ gs, H a = some (.xd gs) ∧ M a = none ∧ gs.map (·.1) = x.fs.map (·.1) ∧ Reps K M H (x.fs.map (·.2)) (gs.map (·.2))
theorem RepX.stp {K : PySem.W.Frag} {M M' : Mu} {H H' : Hp} {x : XD} {c : Value} {d : Option Addr} (h : RepX K M H x c d) (s : Stp M H M' H') : RepX K M' H' x c d := by
  obtain ⟨e, h⟩ := h
  refine ⟨e, ?_⟩
  cases d with
  | none => exact h
  | some a =>
    obtain ⟨gs, h1, h2, h3, h4⟩ := h
    obtain ⟨h1, h2⟩ := s a _ h1 h2
    exact ⟨gs, h1, h2, h3, h4.stp s⟩
structure Sit (K : PySem.W.Frag) (W : WX) {α β : Type} (R : Mu → Hp → α → β → Prop) (τ : DSt) (M : Mu) (σ : L2.St) (H : Hp) (Q0 : α → Mu → Prop) (E0 : DX) (Q : β → Hp → Prop) : Prop where
  rs : RepS K M H τ σ
  co : Cor K M H
  q : ∀ d M' v H', Q0 d M' → R M' H' d v → Cor K M' H' → Stp M H M' H' → Q v H'
  e : ∀ x M' c d H', E0 x M' → RepX K M' H' x c d → Cor K M' H' → Stp M H M' H' → W c d σ H'
def lif (K : PySem.W.Frag) (W : WX) {α β : Type} (R : Mu → Hp → α → β → Prop) (t : DR α) (σ : L2.St) (H : Hp) (Q : β → Hp → Prop) : Prop :=
  ∃ τ M Q0 E0, Sit K W R τ M σ H Q0 E0 Q ∧ t τ M Q0 E0
abbrev RD (K : PySem.W.Frag) : Mu → Hp → D → V → Prop := fun M H d v => Rep K M H d v
abbrev RB : Mu → Hp → Bool → Bool → Prop := fun _ _ a b => b = a
abbrev RA (K : PySem.W.Frag) : Mu → Hp → List D → List V → Prop := fun M H d v => Reps K M H d v
section
variable {K : PySem.W.Frag} {W : WX} {α β γ δ : Type} {R : Mu → Hp → α → β → Prop} {R1 : Mu → Hp → γ → δ → Prop} {τ : DSt} {M M1 : Mu} {σ : L2.St} {H H1 : Hp} {Q0 : α → Mu → Prop} {E0 : DX} {Q : β → Hp → Prop}
theorem Sit.go (S : Sit K W R τ M σ H Q0 E0 Q) (c : Cor K M1 H1) (s : Stp M H M1 H1) : Sit K W R τ M1 σ H1 Q0 E0 Q :=
  ⟨S.rs.stp s, c, fun d M' v H' h r c' s' => S.q d M' v H' h r c' (s.trans s'), fun x M' c d H' h r c' s' => S.e x M' c d H' h r c' (s.trans s')⟩
theorem Sit.sub (S : Sit K W R τ M σ H Q0 E0 Q) {t : DR γ} {G : γ → Mu → Prop} {Q1 : δ → Hp → Prop} (h : t τ M G E0)
    (k : ∀ d M1 v H1, G d M1 → R1 M1 H1 d v → Sit K W R τ M1 σ H1 Q0 E0 Q → Stp M H M1 H1 → Q1 v H1) : lif K W R1 t σ H Q1 :=
  ⟨τ, M, G, E0, ⟨S.rs, S.co, fun d M' v H' g r c s => k d M' v H' g r (S.go c s) s, S.e⟩, h⟩
theorem Sit.end_ (S : Sit K W R τ M σ H Q0 E0 Q) {d : α} {v : β} (h : Q0 d M) (r : R M H d v) : Q v H := S.q d M v H h r S.co (Stp.refl _ _)
end
theorem PE.of {X : Cx} {e : Expr} {t t0 : TE} (h : PE X e t0) (k : ∀ σ H Q, t σ H Q → t0 σ H Q) : PE X e t := ⟨fun pins s σ H Q I q => h.run pins s σ H Q I (k σ H Q q)⟩
theorem PT.of {X : Cx} {e : Expr} {t t0 : TT} (h : PT X e t0) (k : ∀ σ H Q, t σ H Q → t0 σ H Q) : PT X e t := ⟨fun pins s σ H Q I q => h.run pins s σ H Q I (k σ H Q q)⟩
theorem PA.of {X : Cx} {e : List Expr} {t t0 : TA} (h : PA X e t0) (k : ∀ σ H Q, t σ H Q → t0 σ H Q) : PA X e t := ⟨fun pos pins s σ H Q I q => h.run pos pins s σ H Q I (k σ H Q q)⟩
theorem PS.of {X : Cx} {e : Stmt} {t t0 : TS} (h : PS X e t0) (k : ∀ D σ H, t D σ H → t0 D σ H) : PS X e t := ⟨fun pins s σ H D I q => h.run pins s σ H D I (k D σ H q)⟩
theorem PSs.of {X : Cx} {e : List Stmt} {t t0 : TS} (h : PSs X e t0) (k : ∀ D σ H, t D σ H → t0 D σ H) : PSs X e t := ⟨fun pins s σ H D I q => h.run pins s σ H D I (k D σ H q)⟩
structure Gd (X : Cx) (W : WX) : Prop where
  calm : X.calm = true
  tk : L2N.Takes X W
  hu : X.A.units + 64 < cLine
  own : PassesOwn (model X.prog X.w) X.A X.env X.xe
  nd : X.N.Nodup
theorem Gd.hu1 {X : Cx} {W : WX} (G : Gd X W) : X.A.units + 1 < cLine := Nat.lt_of_le_of_lt (Nat.add_le_add_left (by decide) _) G.hu
abbrev DE (X : Cx) (W : WX) (e : Expr) (t : DTE) : Prop := PE X e (lif X.K W (RD X.K) t)
abbrev DT (X : Cx) (W : WX) (e : Expr) (t : DTT) : Prop := PT X e (lif X.K W RB t)
abbrev DA (X : Cx) (W : WX) (es : List Expr) (t : DTA) : Prop := PA X es (lif X.K W (RA X.K) t)
def dVar (i : Nat) : DTE := fun τ M Q _ => match τ[i]? with
  | some (some d) => Q d M
  | _ => False
def dC (d : D) : DTE := fun _ M Q _ => Q d M
abbrev DOp := D → D → Mu → DK → Prop
def dOp (g : DOp) (ta tb : DTE) : DTE := fun τ M Q E => ta τ M (fun x M1 => tb τ M1 (fun y M2 => g x y M2 Q) E) E
abbrev DUn := D → Mu → DK → Prop
def dUn (g : DUn) (ta : DTE) : DTE := fun τ M Q E => ta τ M (fun x M1 => g x M1 Q) E
section
variable {X : Cx} {W : WX} {a b c e : Expr} {ta tb tc : DTE} {pos : Pos}
theorem de_var (i : Nat) {x : Str} (hN : X.N[i]? = some x := by rfl) (hv : Vis X.env.scope x := by first | exact Or.inl rfl | exact Or.inr (Or.inl rfl) | exact Or.inr (Or.inr rfl)) (hd : (x == ("__debug__" : Str)) = false := by decide)
    (hcd : (x == ("__classdict__" : Str)) = false := by decide) : DE X W (.Name x pos) (dVar i) := by
  refine PE.of (pe_var hN hv hd hcd) fun σ H Q ⟨τ, M, Q0, E0, S, h⟩ => ?_
  unfold dVar at h
  split at h
  · rename_i d e
    obtain ⟨v, e2, r⟩ := S.rs.get e
    exact ⟨v, e2, S.end_ h r⟩
  · exact h.elim
theorem de_c {t0 : TE} {d : D} {v : V} (h : PE X e (tC v)) (r : ∀ M H, Rep X.K M H d v) : DE X W e (dC d) := by
  refine PE.of h fun σ H Q ⟨τ, M, Q0, E0, S, h⟩ => ?_
  exact S.end_ h (r M H)
theorem de_int {i : Int} {j : Nat} : DE X W (.Constant (.int i) j pos) (dC (.int i)) := de_c (t0 := tC .non) pe_int fun _ _ => rfl
theorem de_bl {i : Bool} {j : Nat} : DE X W (.Constant (.bool i) j pos) (dC (.bl i)) := de_c (t0 := tC .non) pe_bl fun _ _ => rfl
theorem de_non {j : Nat} : DE X W (.Constant .none j pos) (dC .non) := de_c (t0 := tC .non) pe_non fun _ _ => rfl
theorem de_str {x : Str} {j : Nat} : DE X W (.Constant (.str x) j pos) (dC (.str (T x))) := de_c (t0 := tC .non) pe_str fun _ _ => by
  show V.str x = V.str (sx (T x))
  rw [sx_T]
theorem de_glob {x : Str} {d : D} {v : V} {u : Value} (hg : Gl X x) (hm : X.mg x = some u) (r : RelV v u) (rd : ∀ M H, Rep X.K M H d v) (hd : (x == ("__debug__" : Str)) = false := by decide) : DE X W (.Name x pos) (dC d) :=
  de_c (t0 := tC .non) (pe_glob hg hm r hd) rd
def OpD (K : PySem.W.Frag) (g : DOp) (r : R2) : Prop := ∀ (M : Mu) (H : Hp) (x y : D) (v u : V) (Q0 : DK) (Q : VK), Cor K M H → Rep K M H x v → Rep K M H y u → g x y M Q0 →
  (∀ d M' z H', Q0 d M' → Rep K M' H' d z → Cor K M' H' → Stp M H M' H' → Q z H') → r v u H Q
def UnD (K : PySem.W.Frag) (g : DUn) (r : V → Hp → VK → Prop) : Prop := ∀ (M : Mu) (H : Hp) (x : D) (v : V) (Q0 : DK) (Q : VK), Cor K M H → Rep K M H x v → g x M Q0 →
  (∀ d M' z H', Q0 d M' → Rep K M' H' d z → Cor K M' H' → Stp M H M' H' → Q z H') → r v H Q
theorem lif_op {g : DOp} {r : R2} (o : OpD X.K g r) {σ : L2.St} {H : Hp} {Q : VK} (h : lif X.K W (RD X.K) (dOp g ta tb) σ H Q) : tOp r (lif X.K W (RD X.K) ta) (lif X.K W (RD X.K) tb) σ H Q := by
  obtain ⟨τ, M, Q0, E0, S, h⟩ := h
  refine S.sub h fun d M1 v H1 h1 r1 S1 s1 => ?_
  refine S1.sub h1 fun d2 M2 v2 H2 h2 r2 S2 s2 => ?_
  exact o M2 H2 d d2 v v2 Q0 Q S2.co (r1.stp s2) r2 h2 S2.q
theorem de_op {op : Operator} {g : DOp} {r : R2} (ho : OpR X (binaryOp op) r) (o : OpD X.K g r) (ha : DE X W a ta) (hb : DE X W b tb) : DE X W (.BinOp a op b pos) (dOp g ta tb) :=
  PE.of (pe_op ho ha hb) fun _ _ _ h => lif_op o h
theorem de_un {op : UnaryOp} {g : DUn} {r : V → Hp → VK → Prop} (ho : UnR X (unaryOp op) r) (o : UnD X.K g r) (ha : DE X W a ta) : DE X W (.UnaryOp op a pos) (dUn g ta) := by
  refine PE.of (pe_un ho ha) fun σ H Q ⟨τ, M, Q0, E0, S, h⟩ => ?_
  refine S.sub h fun d M1 v H1 h1 r1 S1 s1 => ?_
  exact o M1 H1 d v Q0 Q S1.co r1 h1 S1.q
theorem de_cmp {op : CmpOp} {g : DOp} {r : R2} (ho : OpR X (compareOp op) r) (o : OpD X.K g r) (ha : DE X W a ta) (hb : DE X W b tb) (hm : behindInMarks op b = false) : DE X W (.Compare a [op] [b] pos) (dOp g ta tb) :=
  PE.of (pe_cmpR ho ha hb hm) fun _ _ _ h => lif_op o h
end
end DL
namespace DL
open PySem L2
theorem line24 : (sizeLine : Nat) = 16777216 := sizeLine_eq
def dTest (t : DTE) : DTT := fun τ M Q E => t τ M (fun d M1 => match d with
  | .bl b => Q b M1
  | _ => False) E
def dAnd (t u : DTT) : DTT := fun τ M Q E => t τ M (fun b M1 => if b = true then u τ M1 Q E else Q false M1) E
def dOr (t u : DTT) : DTT := fun τ M Q E => t τ M (fun b M1 => if b = true then Q true M1 else u τ M1 Q E) E
def dNot (t : DTT) : DTT := fun τ M Q E => t τ M (fun b M1 => Q (!b) M1) E
def dAndV (t u : DTE) : DTE := fun τ M Q E => t τ M (fun d M1 => match d with
  | .bl b => if b = true then u τ M1 Q E else Q (.bl false) M1
  | _ => False) E
def dOrV (t u : DTE) : DTE := fun τ M Q E => t τ M (fun d M1 => match d with
  | .bl b => if b = true then Q (.bl true) M1 else u τ M1 Q E
  | _ => False) E
def dNotV (t : DTE) : DTE := fun τ M Q E => t τ M (fun d M1 => match d with
  | .bl b => Q (.bl (!b)) M1
  | _ => False) E
def dIf (t : DTT) (ta tb : DTE) : DTE := fun τ M Q E => t τ M (fun b M1 => if b = true then ta τ M1 Q E else tb τ M1 Q E) E
def truD (M : Mu) : D → Option Bool
  | .non => some false
  | .bl b => some b
  | .int i => some (i != 0)
  | .str x => some !x.isEmpty
  | .lst ds => some !ds.isEmpty
  | .tup ds => some !ds.isEmpty
  | .ref a => match M a with
    | some (.lst ds) => some !ds.isEmpty
    | some (.dK kvs) => some !kvs.isEmpty
    | _ => none
  | .ty _ => none
  | .scr _ => none
  | .cl _ => none
  | .exc _ _ _ _ _ => none
def dTru (t : DTE) : DTT := fun τ M Q E => t τ M (fun d M1 => match d with
  | .str x => x.length ≤ 16777216 ∧ Q (!x.isEmpty) M1
  | d => match truD M1 d with
    | some b => Q b M1
    | none => False) E
abbrev DW (X : Cx) (W : WX) (e : Expr) (t : DTT) : Prop := PW X e (lif X.K W RB t)
theorem PW.of {X : Cx} {e : Expr} {t t0 : TT} (h : PW X e t0) (k : ∀ σ H Q, t σ H Q → t0 σ H Q) : PW X e t := ⟨fun w pins s σ H Q I q => h.run w pins s σ H Q I (k σ H Q q)⟩
theorem isE_len {α β : Type} {a : List α} {b : List β} (h : a.length = b.length) : a.isEmpty = b.isEmpty := by
  cases a <;> cases b <;> simp at h ⊢
section
variable {X : Cx} {W : WX} {a b c e o : Expr} {rest es : List Expr} {ta tb tc te to : DTE} {t u v : DTT} {pos apos cpos : Pos}
theorem lif_test {σ : L2.St} {H : Hp} {Q : Bool → Hp → Prop} (h : lif X.K W RB (dTest ta) σ H Q) : lif X.K W (RD X.K) ta σ H (fun x H' => ∃ k, x = .bl k ∧ Q k H') := by
  obtain ⟨τ, M, Q0, E0, S, h⟩ := h
  refine S.sub h fun d M1 v H1 h1 r1 S1 s1 => ?_
  cases d with
  | bl b => exact ⟨b, r1, S1.end_ h1 rfl⟩
  | _ => exact h1.elim
theorem dt_cmp {op : CmpOp} {g : DOp} {r : R2} (ho : OpR X (compareOp op) r) (oo : OpD X.K g r) (ha : DE X W a ta) (hb : DE X W b tb) (hm : behindInMarks op b = false) : DT X W (.Compare a [op] [b] pos) (dTest (dOp g ta tb)) :=
  PT.of (pt_cmpR ho ha hb hm) fun _ _ _ h => lif_op oo (lif_test h)
theorem dt_tru (ha : DE X W a ta) (he : ∀ whole, isTrue a X.env whole = (do let v ← whole; standAt a.pos; holding [v] (truthy v)) := by intro _; rfl) : DT X W a (dTru ta) := by
  refine PT.of (pt_truth ha he) fun σ H Q ⟨τ, M, Q0, E0, S, h⟩ => ?_
  refine S.sub h fun d M1 v H1 h1 r1 S1 s1 => ?_
  have z : ∀ k, TruV X.K v H1 k → Q0 k M1 → ∃ k, TruV X.K v H1 k ∧ Q k H1 := fun k h q => ⟨k, h, S1.end_ q rfl⟩
  cases d with
  | non => cases r1; exact z false rfl h1
  | bl b => cases r1; exact z b rfl h1
  | int i => cases r1; exact z _ rfl h1
  | str x =>
    cases r1
    refine z (!x.isEmpty) ⟨by rw [sx_len, line24]; exact h1.1, ?_⟩ h1.2
    rw [sx_len]
    cases x with
    | nil => rfl
    | cons a l =>
      show true = _
      have : ((List.length (a :: l) : Int) != 0) = true := by
        rw [bne_iff_ne]
        simp only [List.length_cons]
        omega
      exact this.symm
  | ty n => exact h1.elim
  | scr n => exact h1.elim
  | cl n => exact h1.elim
  | exc _ _ _ _ _ => exact h1.elim
  | lst ds =>
    obtain ⟨a, vs, e, hh, hm, hr⟩ := (show ∃ a vs, _ from r1)
    subst e
    exact z (!ds.isEmpty) (.inl ⟨vs, .inl (.inl hh), by rw [isE_len hr.length]⟩) h1
  | tup ds =>
    obtain ⟨a, vs, e, hh, hr⟩ := (show ∃ a vs, _ from r1)
    subst e
    exact z (!ds.isEmpty) (.inr (.inl ⟨vs, hh.elim (fun q => .inl (.inl q.1)) (fun q => .inr q.1), by rw [isE_len hr.length]⟩)) h1
  | ref a =>
    cases r1
    have h2 : (match (match M1 a with
      | some (.lst ds) => some !ds.isEmpty
      | some (.dK kvs) => some !kvs.isEmpty
      | _ => none) with
      | some b => Q0 b M1
      | none => False) := h1
    cases q : M1 a with
    | none => rw [q] at h2; exact h2.elim
    | some mo =>
      rw [q] at h2
      obtain ⟨ho, e1, e2⟩ := S1.co a mo q
      cases mo with
      | lst ds =>
        obtain ⟨vs, e, hr⟩ := e2
        subst e
        exact z (!ds.isEmpty) (.inl ⟨vs, .inl (.inl e1), by rw [isE_len hr.length]⟩) h2
      | dK kvs =>
        obtain ⟨ks, e, e3, hr⟩ := e2
        subst e
        refine z (!kvs.isEmpty) (.inr (.inr ⟨ks, e1, ?_⟩)) h2
        have := congrArg List.length e3
        rw [List.length_map, List.length_map] at this
        rw [isE_len this]
      | _ => exact h2.elim
theorem dt_not (h : DT X W a t) : DT X W (.UnaryOp .Not a pos) (dNot t) := PT.of (pt_not h) fun σ H Q ⟨τ, M, Q0, E0, S, h⟩ =>
  S.sub h fun d M1 v H1 h1 r1 S1 s1 => by cases r1; exact S1.end_ h1 rfl
theorem dw_and1 (h : DT X W a t) : DW X W (.BoolOp .And [a] pos) t := pw_and1 h
theorem dw_or1 (h : DT X W a t) : DW X W (.BoolOp .Or [a] pos) t := pw_or1 h
theorem dw_and (ha : DT X W a t) (hb : DW X W (.BoolOp .And (b :: rest) pos) u) : DW X W (.BoolOp .And (a :: b :: rest) pos) (dAnd t u) :=
  PW.of (pw_and ha hb) fun σ H Q ⟨τ, M, Q0, E0, S, h⟩ => S.sub h fun d M1 v H1 h1 r1 S1 s1 => by
    cases r1
    cases d with
    | true => exact S1.sub h1 fun d M2 v H2 h2 r2 S2 s2 => by cases r2; exact S2.end_ h2 rfl
    | false => exact S1.end_ h1 rfl
theorem dw_or (ha : DT X W a t) (hb : DW X W (.BoolOp .Or (b :: rest) pos) u) : DW X W (.BoolOp .Or (a :: b :: rest) pos) (dOr t u) :=
  PW.of (pw_or ha hb) fun σ H Q ⟨τ, M, Q0, E0, S, h⟩ => S.sub h fun d M1 v H1 h1 r1 S1 s1 => by
    cases r1
    cases d with
    | false => exact S1.sub h1 fun d M2 v H2 h2 r2 S2 s2 => by cases r2; exact S2.end_ h2 rfl
    | true => exact S1.end_ h1 rfl
theorem dt_w (h : DW X W a t) : DT X W a t := PW.pt h
theorem de_one {op : BoolOp} (h : DE X W a ta) : DE X W (.BoolOp op [a] pos) ta := pe_one h
theorem de_and (ha : DE X W a ta) (hb : DE X W (.BoolOp .And (b :: rest) pos) tb) : DE X W (.BoolOp .And (a :: b :: rest) pos) (dAndV ta tb) :=
  PE.of (pe_and ha hb) fun σ H Q ⟨τ, M, Q0, E0, S, h⟩ => S.sub h fun d M1 v H1 h1 r1 S1 s1 => by
    cases d with
    | bl c =>
      refine ⟨c, r1, ?_⟩
      cases c with
      | true => exact S1.sub h1 fun d M2 v H2 h2 r2 S2 s2 => S2.end_ h2 r2
      | false => exact S1.end_ h1 rfl
    | _ => exact h1.elim
theorem de_or (ha : DE X W a ta) (hb : DE X W (.BoolOp .Or (b :: rest) pos) tb) : DE X W (.BoolOp .Or (a :: b :: rest) pos) (dOrV ta tb) :=
  PE.of (pe_or ha hb) fun σ H Q ⟨τ, M, Q0, E0, S, h⟩ => S.sub h fun d M1 v H1 h1 r1 S1 s1 => by
    cases d with
    | bl c =>
      refine ⟨c, r1, ?_⟩
      cases c with
      | false => exact S1.sub h1 fun d M2 v H2 h2 r2 S2 s2 => S2.end_ h2 r2
      | true => exact S1.end_ h1 rfl
    | _ => exact h1.elim
theorem de_not (ha : DE X W a ta) : DE X W (.UnaryOp .Not a pos) (dNotV ta) :=
  PE.of (pe_not ha) fun σ H Q ⟨τ, M, Q0, E0, S, h⟩ => S.sub h fun d M1 v H1 h1 r1 S1 s1 => by
    cases d with
    | bl c => exact ⟨c, r1, S1.end_ h1 rfl⟩
    | _ => exact h1.elim
theorem de_if (hc : DT X W c t) (ha : DE X W a ta) (hb : DE X W b tb) : DE X W (.IfExp c a b pos) (dIf t ta tb) :=
  PE.of (pe_ifExp hc ha hb) fun σ H Q ⟨τ, M, Q0, E0, S, h⟩ => S.sub h fun d M1 v H1 h1 r1 S1 s1 => by
    cases r1
    cases d with
    | true => exact S1.sub h1 fun d M2 v H2 h2 r2 S2 s2 => S2.end_ h2 r2
    | false => exact S1.sub h1 fun d M2 v H2 h2 r2 S2 s2 => S2.end_ h2 r2
def daNil : DTA := fun _ M Q _ => Q [] M
def daCons (te : DTE) (ta : DTA) : DTA := fun τ M Q E => te τ M (fun d M1 => ta τ M1 (fun ds M2 => Q (d :: ds) M2) E) E
def dLst (ta : DTA) : DTE := fun τ M Q E => ta τ M (fun ds M1 => ds.length ≤ 16777216 ∧ Q (.lst ds) M1) E
def dLstM (ta : DTA) : DTE := fun τ M Q E => ta τ M (fun ds M1 => ds.length ≤ 16777216 ∧ ∀ p, M1 p = none → Q (.ref p) (put M1 p (.lst ds))) E
def dTup (ta : DTA) : DTE := fun τ M Q E => ta τ M (fun ds M1 => ds.length ≤ 16777216 ∧ Q (.tup ds) M1) E
variable {tl : DTA}
theorem da_nil : DA X W [] daNil := PA.of pa_nil fun σ H Q ⟨τ, M, Q0, E0, S, h⟩ => S.end_ h Reps.nil
theorem da_cons (ha : DE X W e te) (hr : DA X W es tl) (hs : starEach (e :: es) X.env = (false, eval e X.env) :: starEach es X.env := by rfl) : DA X W (e :: es) (daCons te tl) :=
  PA.of (pa_cons ha hr hs) fun σ H Q ⟨τ, M, Q0, E0, S, h⟩ => S.sub h fun d M1 v H1 h1 r1 S1 s1 => S1.sub h1 fun ds M2 vs H2 h2 r2 S2 s2 => S2.end_ h2 (.cons (r1.stp s2) r2)
theorem rep_lst {K : PySem.W.Frag} {M : Mu} {H : Hp} {p : Addr} {ds : List D} {vs : List V} (h : H p = some (.lst vs)) (m : M p = none) (r : Reps K M H ds vs) : Rep K M H (.lst ds) (.ref p) := by
  unfold Rep
  exact ⟨p, vs, rfl, h, m, r⟩
theorem rep_tup {K : PySem.W.Frag} {M : Mu} {H : Hp} {p : Addr} {ds : List D} {vs : List V} (h : H p = some (.tup vs)) (m : M p = none) (r : Reps K M H ds vs) : Rep K M H (.tup ds) (.ref p) := by
  unfold Rep
  exact ⟨p, vs, rfl, .inl ⟨h, m⟩, r⟩
theorem new_lst {K : PySem.W.Frag} {M : Mu} {H : Hp} {ds : List D} {vs : List V} {Q0 : DK} {Q : VK} (c : Cor K M H) (r : Reps K M H ds vs) (h : Q0 (.lst ds) M)
    (q : ∀ d M' z H', Q0 d M' → Rep K M' H' d z → Cor K M' H' → Stp M H M' H' → Q z H') (p : Addr) (hp : H p = none) : Q (.ref p) (upd H p (.lst vs)) :=
  q _ M _ _ h (rep_lst upd_same (c.free hp) (r.stp (Stp.new hp))) (c.new hp) (Stp.new hp)
theorem new_tup {K : PySem.W.Frag} {M : Mu} {H : Hp} {ds : List D} {vs : List V} {Q0 : DK} {Q : VK} (c : Cor K M H) (r : Reps K M H ds vs) (h : Q0 (.tup ds) M)
    (q : ∀ d M' z H', Q0 d M' → Rep K M' H' d z → Cor K M' H' → Stp M H M' H' → Q z H') (p : Addr) (hp : H p = none) : Q (.ref p) (upd H p (.tup vs)) :=
  q _ M _ _ h (rep_tup upd_same (c.free hp) (r.stp (Stp.new hp))) (c.new hp) (Stp.new hp)
theorem new_lstM {K : PySem.W.Frag} {M : Mu} {H : Hp} {ds : List D} {vs : List V} {Q0 : DK} {Q : VK} (c : Cor K M H) (r : Reps K M H ds vs) (h : ∀ p, M p = none → Q0 (.ref p) (put M p (.lst ds)))
    (q : ∀ d M' z H', Q0 d M' → Rep K M' H' d z → Cor K M' H' → Stp M H M' H' → Q z H') (p : Addr) (hp : H p = none) : Q (.ref p) (upd H p (.lst vs)) :=
  q _ _ _ _ (h p (c.free hp)) rfl (c.newM hp ⟨vs, rfl, r⟩) (Stp.newM hp)
theorem de_lst (h : DA X W es tl) : DE X W (.List es pos) (dLst tl) := PE.of (pe_lst h) fun σ H Q ⟨τ, M, Q0, E0, S, h⟩ => S.sub h fun ds M1 vs H1 h1 r1 S1 s1 =>
  ⟨by rw [r1.length, line24]; exact h1.1, new_lst S1.co r1 h1.2 S1.q⟩
theorem de_lstM (h : DA X W es tl) : DE X W (.List es pos) (dLstM tl) := PE.of (pe_lst h) fun σ H Q ⟨τ, M, Q0, E0, S, h⟩ => S.sub h fun ds M1 vs H1 h1 r1 S1 s1 =>
  ⟨by rw [r1.length, line24]; exact h1.1, new_lstM S1.co r1 h1.2 S1.q⟩
theorem de_tup {x1 : Nat} (h : DA X W es tl) : DE X W (.Tuple es x1 pos) (dTup tl) := PE.of (pe_tup h) fun σ H Q ⟨τ, M, Q0, E0, S, h⟩ => S.sub h fun ds M1 vs H1 h1 r1 S1 s1 =>
  ⟨by rw [r1.length, line24]; exact h1.1, new_tup S1.co r1 h1.2 S1.q⟩
def dFrz (te : DTE) : DTE := fun τ M Q E => te τ M (fun d M1 => match d with
  | .ref a => (match M1 a with
    | some (.lst ds) => Q (.lst ds) (del M1 a)
    | _ => False)
  | _ => False) E
theorem de_frz (h : DE X W e te) : DE X W e (dFrz te) := PE.of h fun σ H Q ⟨τ, M, Q0, E0, S, h⟩ => S.sub h fun d M1 v H1 h1 r1 S1 s1 => by
  cases d with
  | ref a =>
    cases r1
    have h2 : (match M1 a with
      | some (.lst ds) => Q0 (.lst ds) (del M1 a)
      | _ => False) := h1
    cases q : M1 a with
    | none => rw [q] at h2; exact h2.elim
    | some mo =>
      rw [q] at h2
      cases mo with
      | lst ds =>
        obtain ⟨o, e1, vs, e2, r⟩ := S1.co a _ q
        subst e2
        exact S1.q _ _ _ _ h2 (rep_lst e1 del_same (r.stp Stp.frz)) S1.co.frz Stp.frz
      | _ => exact h2.elim
  | _ => exact h1.elim
abbrev DSp := List D → Mu → DK → DX → Prop
def lsp (K : PySem.W.Frag) (sp : DSp) : Sp := fun vs H Q E => ∃ ds M Q0 E0, Reps K M H ds vs ∧ Cor K M H ∧ sp ds M Q0 E0 ∧ (∀ d M' v H', Q0 d M' → Rep K M' H' d v → Cor K M' H' → Stp M H M' H' → Q v H') ∧
  ∀ x M' c d H', E0 x M' → RepX K M' H' x c d → Cor K M' H' → Stp M H M' H' → E c d H'
structure FnM (P : Program) (w : World) (K : PySem.W.Frag) (mg : Str → Option Value) (base : Heap) (k : Nat) (x : Str) (sp : DSp) : Prop where
  ex : ∃ f fd ps, FnOk P w K mg base (L2N.CX P w) k f fd ps (lsp K sp) ∧ mg x = some (.ref f) ∧ PySem.W.keepIn K (.ref f) = true ∧ Binds K fd ps []
def dCall (sp : DSp) (ta : DTA) : DTE := fun τ M Q E => ta τ M (fun ds M1 => sp ds M1 Q E) E
theorem de_call {k : Nat} {x : Str} {sp : DSp} {p : Pos} (F : FnM X.prog X.w X.K X.mg X.base k x sp) (G : Gd X W) (hr : Room k X.A) (ha : DA X W (e :: es) tl) (hg : Gl X x := by rfl) (hdb : (x == ("__debug__" : Str)) = false := by decide)
    (he : starEach (e :: es) X.env = (false, eval e X.env) :: starEach es X.env := by rfl) (hpl : (backTo pos (starEach es X.env)).any (·.1) = false := by rfl) : DE X W (.Call (.Name x p) (e :: es) [] pos) (dCall sp tl) := by
  obtain ⟨f, fd, ps, Fk, hm, hk, hb⟩ := F.ex
  exact PE.of (pe_callS Fk hr hg hm hk hb (E := WE W) (L2N.passAt G.tk) ha hdb he hpl) fun σ H Q ⟨τ, M, Q0, E0, S, h⟩ => S.sub h fun ds M1 vs H1 h1 r1 S1 s1 =>
    ⟨ds, M1, Q0, E0, r1, S1.co, h1, S1.q, S1.e⟩
def cut {α : Type} (xs : List α) (lo hi : Option Int) : List α := (xs.drop (HT.sIx xs.length 0 lo)).take (HT.sIx xs.length xs.length hi - HT.sIx xs.length 0 lo)
abbrev DTO := DR (Option Int)
abbrev RO : Mu → Hp → Option Int → Option Int → Prop := fun _ _ a b => b = a
abbrev DO (X : Cx) (W : WX) (e : Option Expr) (t : DTO) : Prop := PO X e (lif X.K W RO t)
theorem PO.of {X : Cx} {e : Option Expr} {t t0 : TO} (h : PO X e t0) (k : ∀ σ H Q, t σ H Q → t0 σ H Q) : PO X e t := ⟨fun pins s σ H Q I q => h.run pins s σ H Q I (k σ H Q q)⟩
def doNone : DTO := fun _ M Q _ => Q none M
def doSome (te : DTE) : DTO := fun τ M Q E => te τ M (fun d M1 => match d with
  | .int i => Q (some i) M1
  | _ => False) E
theorem do_none : DO X W none doNone := PO.of po_none fun σ H Q ⟨τ, M, Q0, E0, S, h⟩ => S.end_ h rfl
theorem do_some (h : DE X W e te) : DO X W (some e) (doSome te) := PO.of (po_some h) fun σ H Q ⟨τ, M, Q0, E0, S, h⟩ => S.sub h fun d M1 v H1 h1 r1 S1 s1 => by
  cases d with
  | int i => exact ⟨i, r1, S1.end_ h1 rfl⟩
  | _ => exact h1.elim
def gSl (d : D) (lo hi : Option Int) (M : Mu) (Q : DK) : Prop := match d with
  | .str x => x.length ≤ 16777216 ∧ Q (.str (cut x lo hi)) M
  | .lst ds => Q (.lst (cut ds lo hi)) M
  | .tup ds => ¬ (HT.sIx ds.length 0 lo = 0 ∧ HT.sIx ds.length ds.length hi = ds.length) ∧ Q (.tup (cut ds lo hi)) M
  | .ref a => (match M a with
    | some (.lst ds) => Q (.lst (cut ds lo hi)) M
    | _ => False)
  | _ => False
def dSl (te : DTE) (tl th : DTO) : DTE := fun τ M Q E => te τ M (fun d M1 => tl τ M1 (fun lo M2 => th τ M2 (fun hi M3 => gSl d lo hi M3 Q) E) E) E
theorem cut_rep {K : PySem.W.Frag} {M : Mu} {H : Hp} {ds : List D} {vs : List V} (lo hi : Option Int) (r : Reps K M H ds vs) : Reps K M H (cut ds lo hi) (cutV vs lo hi) := by
  unfold cut cutV
  rw [r.length]
  exact (r.drop _).take _
theorem de_sl {lo hi : Option Expr} {tl th : DTO} {p2 : Pos} (he : DE X W e te) (hl : DO X W lo tl) (hu : DO X W hi th) : DE X W (.Subscript e (.Slice lo hi none p2) pos) (dSl te tl th) :=
  PE.of (pe_slice (sl_list.or (sl_str.or sl_tup)) he hl hu) fun σ H Q ⟨τ, M, Q0, E0, S, h⟩ => S.sub h fun d M1 v H1 h1 r1 S1 s1 => S1.sub h1 fun l M2 v2 H2 h2 r2 S2 s2 => S2.sub h2 fun u M3 v3 H3 h3 r3 S3 s3 => by
    cases r2
    cases r3
    have r := r1.stp (s2.trans s3)
    cases d with
    | str x =>
      cases r
      refine .inr (.inl ⟨sx x, rfl, by rw [sx_len, line24]; exact h3.1, S3.end_ h3.2 ?_⟩)
      show V.str (cutS (sx x) l u) = V.str (sx (cut x l u))
      unfold cutS cut
      rw [sx_len]
      rfl
    | lst ds =>
      obtain ⟨a, vs, e, hh, hm, hr⟩ := (show ∃ a vs, _ from r)
      exact .inl ⟨a, vs, e, .inl (.inl hh), new_lst S3.co (cut_rep l u hr) h3 S3.q⟩
    | tup ds =>
      obtain ⟨a, vs, e, hh, hr⟩ := (show ∃ a vs, _ from r)
      exact .inr (.inr ⟨a, vs, e, hh.elim (fun q => .inl (.inl q.1)) (fun q => .inr q.1), by rw [hr.length]; exact h3.1, new_tup S3.co (cut_rep l u hr) h3.2 S3.q⟩)
    | ref a =>
      cases r
      have h2 : (match M3 a with
        | some (.lst ds) => Q0 (.lst (cut ds l u)) M3
        | _ => False) := h3
      cases q : M3 a with
      | none => rw [q] at h2; exact h2.elim
      | some mo =>
        rw [q] at h2
        cases mo with
        | lst ds =>
          obtain ⟨o, e1, vs, e2, hr⟩ := S3.co a _ q
          subst e2
          exact .inl ⟨a, vs, rfl, .inl (.inl e1), new_lst S3.co (cut_rep l u hr) h2 S3.q⟩
        | _ => exact h2.elim
    | _ => exact h3.elim
end
end DL
namespace DL
open PySem L2
def gAdd : DOp := fun x y M Q => match x, y with
  | .int i, .int j => Q (.int (i + j)) M
  | .str a, .str b => a.length + b.length ≤ 16777216 ∧ Q (.str (a ++ b)) M
  | .lst a, .lst b => a.length + b.length ≤ 16777216 ∧ Q (.lst (a ++ b)) M
  | .tup a, .tup b => a ≠ [] ∧ a.length + b.length ≤ 16777216 ∧ Q (.tup (a ++ b)) M
  | .ref p, .lst b => (match M p with
    | some (.lst a) => a.length + b.length ≤ 16777216 ∧ Q (.lst (a ++ b)) M
    | _ => False)
  | .lst a, .ref p => (match M p with
    | some (.lst b) => a.length + b.length ≤ 16777216 ∧ Q (.lst (a ++ b)) M
    | _ => False)
  | _, _ => False
def gSub : DOp := fun x y M Q => match x, y with
  | .int i, .int j => Q (.int (i - j)) M
  | _, _ => False
def gMul : DOp := fun x y M Q => match x, y with
  | .int i, .int j => CMul i j ∧ Q (.int (i * j)) M
  | _, _ => False
def gDiv : DOp := fun x y M Q => match x, y with
  | .int i, .int j => CDiv i j ∧ Q (.int (i / j)) M
  | _, _ => False
def gMod : DOp := fun x y M Q => match x, y with
  | .int i, .int j => 0 < j ∧ Q (.int (i % j)) M
  | _, _ => False
def gPow : DOp := fun x y M Q => match x, y with
  | .int i, .int j => CPow i j ∧ Q (.int (i ^ j.toNat)) M
  | _, _ => False
def gNeg : DUn := fun x M Q => match x with
  | .int i => Q (.int (-i)) M
  | _ => False
def gInt (p : Int → Int → Bool) : DOp := fun x y M Q => match x, y with
  | .int i, .int j => Q (.bl (p i j)) M
  | _, _ => False
abbrev gLt : DOp := gInt fun i j => decide (i < j)
abbrev gGt : DOp := gInt fun i j => decide (j < i)
abbrev gGe : DOp := gInt fun i j => decide (j ≤ i)
section
variable {K : PySem.W.Frag}
theorem od_int {g : Int → Int → V} {gd : Int → Int → D} (hg : ∀ i j M H, Rep K M H (gd i j) (g i j)) {f : DOp} (hf : ∀ x y M Q, f x y M Q → ∃ i j, x = .int i ∧ y = .int j ∧ Q (gd i j) M) : OpD K f (rI0 g) :=
  fun M H x y v u Q0 Q c rx ry h q => by
    obtain ⟨i, j, rfl, rfl, h'⟩ := hf x y M Q0 h
    cases rx; cases ry
    exact ⟨i, j, rfl, rfl, q _ M _ H h' (hg i j M H) c (Stp.refl M H)⟩
theorem od_intC {C : Int → Int → Prop} {g : Int → Int → V} {gd : Int → Int → D} (hg : ∀ i j M H, Rep K M H (gd i j) (g i j)) {f : DOp} (hf : ∀ x y M Q, f x y M Q → ∃ i j, x = .int i ∧ y = .int j ∧ C i j ∧ Q (gd i j) M) : OpD K f (rI C g) :=
  fun M H x y v u Q0 Q c rx ry h q => by
    obtain ⟨i, j, rfl, rfl, hc, h'⟩ := hf x y M Q0 h
    cases rx; cases ry
    exact ⟨i, j, rfl, rfl, hc, q _ M _ H h' (hg i j M H) c (Stp.refl M H)⟩
theorem od_sub : OpD K gSub (rI0 fun i j => .int (i - j)) := od_int (gd := fun i j => .int (i - j)) (fun _ _ _ _ => rfl) fun x y M Q h => by
  cases x <;> cases y <;> first | exact ⟨_, _, rfl, rfl, h⟩ | exact h.elim
theorem od_mul : OpD K gMul (rI CMul fun i j => .int (i * j)) := od_intC (gd := fun i j => .int (i * j)) (fun _ _ _ _ => rfl) fun x y M Q h => by
  cases x <;> cases y <;> first | exact ⟨_, _, rfl, rfl, h⟩ | exact h.elim
theorem od_div : OpD K gDiv (rI CDiv fun i j => .int (i / j)) := od_intC (gd := fun i j => .int (i / j)) (fun _ _ _ _ => rfl) fun x y M Q h => by
  cases x <;> cases y <;> first | exact ⟨_, _, rfl, rfl, h⟩ | exact h.elim
theorem od_mod : OpD K gMod (rI (fun _ j => 0 < j) fun i j => .int (i % j)) := od_intC (gd := fun i j => .int (i % j)) (fun _ _ _ _ => rfl) fun x y M Q h => by
  cases x <;> cases y <;> first | exact ⟨_, _, rfl, rfl, h⟩ | exact h.elim
theorem od_pow : OpD K gPow (rI CPow fun i j => .int (i ^ j.toNat)) := od_intC (gd := fun i j => .int (i ^ j.toNat)) (fun _ _ _ _ => rfl) fun x y M Q h => by
  cases x <;> cases y <;> first | exact ⟨_, _, rfl, rfl, h⟩ | exact h.elim
theorem od_b {p : Int → Int → Bool} : OpD K (gInt p) (rI0 fun i j => .bl (p i j)) := od_int (gd := fun i j => .bl (p i j)) (fun _ _ _ _ => rfl) fun x y M Q h => by
  cases x <;> cases y <;> first | exact ⟨_, _, rfl, rfl, h⟩ | exact h.elim
theorem ud_neg : UnD K gNeg (rU fun i => .int (-i)) := fun M H x v Q0 Q c r h q => by
  cases x with
  | int i => cases r; exact ⟨i, rfl, q _ M _ H h rfl c (Stp.refl M H)⟩
  | _ => exact h.elim
def rAddA (K : PySem.W.Frag) : R2 := fun x y H Q => (rI0 (fun i j => .int (i + j)) x y H Q ∨ (∃ i j, x = .str i ∧ y = .str j ∧ i.length + j.length ≤ sizeLine ∧ Q (.str (i ++ j)) H)) ∨ (rCat x y H Q ∨ rCatT K x y H Q)
theorem op_addA {X : Cx} : OpR X (binaryOp .Add) (rAddA X.K) := (op_add.or op_add_str).or (op_cat.or op_catT)
theorem rep_of_lst {M : Mu} {H : Hp} {ds : List D} {v : V} (r : Rep K M H (.lst ds) v) : ∃ a vs, v = .ref a ∧ H a = some (.lst vs) ∧ M a = none ∧ Reps K M H ds vs := r
theorem rep_of_tup {M : Mu} {H : Hp} {ds : List D} {v : V} (r : Rep K M H (.tup ds) v) : ∃ a vs, v = .ref a ∧ ((H a = some (.tup vs) ∧ M a = none) ∨ WrN K a vs) ∧ Reps K M H ds vs := r
theorem sqT_of {H : Hp} {M : Mu} {a : Addr} {vs : List V} (h : (H a = some (.tup vs) ∧ M a = none) ∨ WrN K a vs) : SqT K H a vs := h.elim (fun q => .inl (.inl q.1)) fun q => .inr q.1
theorem noI_str {zs : List Str} : ∀ i, V.int i ∉ zs.map V.str := fun i h => by
  obtain ⟨z, _, e⟩ := List.mem_map.mp h
  cases e
theorem WrT.n {a : Addr} {zs : List Str} (h : WrT K a (zs.map V.str)) : WrN K a (zs.map V.str) := ⟨h, noI_str⟩
theorem mu_lst {M : Mu} {H : Hp} {a : Addr} {ds : List D} (c : Cor K M H) (h : M a = some (.lst ds)) : ∃ vs, H a = some (.lst vs) ∧ Reps K M H ds vs := by
  obtain ⟨o, e1, vs, e2, hr⟩ := c a _ h
  exact ⟨vs, by rw [e1, e2], hr⟩
theorem mu_dK {M : Mu} {H : Hp} {a : Addr} {kvs : List (DKey × D)} (c : Cor K M H) (h : M a = some (.dK kvs)) : ∃ ks, H a = some (.dK ks) ∧ ks.map (·.1) = kvs.map (fun q => kO q.1) ∧ Reps K M H (kvs.map (·.2)) (ks.map (·.2)) := by
  obtain ⟨o, e1, ks, e2, e3, hr⟩ := c a _ h
  exact ⟨ks, by rw [e1, e2], e3, hr⟩
theorem mu_fK {M : Mu} {H : Hp} {a : Addr} {kvs : List (DKey × D)} {u : HO} (c : Cor K M H) (h : M a = some (.fK kvs u)) : ∃ od ks, H a = some (.frz od (.dK ks)) ∧ u = .frz od (.dK ks) ∧ ks.map (·.1) = kvs.map (fun q => kO q.1) ∧ Reps K M H (kvs.map (·.2)) (ks.map (·.2)) := by
  obtain ⟨o, e1, e0, od, ks, e2, e3, hr⟩ := c a _ h
  exact ⟨od, ks, by rw [e1, e0, e2], e2, e3, hr⟩
theorem mu_dR {M : Mu} {H : Hp} {a : Addr} {mo : MO} {kvs : List (DKey × D)} (c : Cor K M H) (h : M a = some mo) (hk : dOf mo = some kvs) : ∃ ks, Rd H a (.dK ks) ∧ ks.map (·.1) = kvs.map (fun q => kO q.1) ∧ Reps K M H (kvs.map (·.2)) (ks.map (·.2)) := by
  cases mo with
  | dK l =>
    cases hk
    obtain ⟨ks, h1, h2, h3⟩ := mu_dK c h
    exact ⟨ks, .inl h1, h2, h3⟩
  | fK l u =>
    cases hk
    obtain ⟨od, ks, h1, _, h2, h3⟩ := mu_fK c h
    exact ⟨ks, .inr ⟨od, h1⟩, h2, h3⟩
  | _ => cases hk
theorem od_add : OpD K gAdd (rAddA K) := fun M H x y v u Q0 Q c rx ry h q => by
  cases x with
  | int i =>
    cases y with
    | int j =>
      cases rx; cases ry
      exact .inl (.inl ⟨i, j, rfl, rfl, q _ M _ H h rfl c (Stp.refl M H)⟩)
    | _ => exact h.elim
  | str i =>
    cases y with
    | str j =>
      cases rx; cases ry
      refine .inl (.inr ⟨sx i, sx j, rfl, rfl, by rw [sx_len, sx_len, line24]; exact h.1, ?_⟩)
      rw [sx_add]
      exact q _ M _ H h.2 rfl c (Stp.refl M H)
    | _ => exact h.elim
  | lst xs =>
    obtain ⟨a, vs, rfl, ha, ma, ra⟩ := rep_of_lst rx
    cases y with
    | lst ys =>
      obtain ⟨b, us, rfl, hb, mb, rb⟩ := rep_of_lst ry
      exact .inr (.inl ⟨a, b, vs, us, rfl, rfl, ha, hb, by rw [ra.length, rb.length, line24]; exact h.1, new_lst c (ra.append rb) h.2 q⟩)
    | ref b =>
      cases ry
      have h2 : (match M b with
        | some (.lst ys) => xs.length + ys.length ≤ 16777216 ∧ Q0 (.lst (xs ++ ys)) M
        | _ => False) := h
      cases e : M b with
      | none => rw [e] at h2; exact h2.elim
      | some mo =>
        rw [e] at h2
        cases mo with
        | lst ys =>
          obtain ⟨us, hb, rb⟩ := mu_lst c e
          exact .inr (.inl ⟨a, b, vs, us, rfl, rfl, ha, hb, by rw [ra.length, rb.length, line24]; exact h2.1, new_lst c (ra.append rb) h2.2 q⟩)
        | _ => exact h2.elim
    | _ => exact h.elim
  | tup xs =>
    obtain ⟨a, vs, rfl, ha, ra⟩ := rep_of_tup rx
    cases y with
    | tup ys =>
      obtain ⟨b, us, rfl, hb, rb⟩ := rep_of_tup ry
      refine .inr (.inr ⟨a, b, vs, us, rfl, rfl, sqT_of ha, sqT_of hb, ?_, by rw [ra.length, rb.length, line24]; exact h.2.1, fun z => ?_, fun _ => new_tup c (ra.append rb) h.2.2 q⟩)
      rotate_left
      · have l := rb.length
        rw [z] at l
        have e : ys = [] := List.eq_nil_of_length_eq_zero l.symm
        subst e
        have h3 := h.2.2
        rw [List.append_nil] at h3
        exact q _ M _ H h3 rx c (Stp.refl M H)
      intro z
      have := ra.length
      rw [z] at this
      exact h.1 (List.eq_nil_of_length_eq_zero this.symm)
    | _ => exact h.elim
  | ref a =>
    cases rx
    cases y with
    | lst ys =>
      obtain ⟨b, us, rfl, hb, mb, rb⟩ := rep_of_lst ry
      have h2 : (match M a with
        | some (.lst xs) => xs.length + ys.length ≤ 16777216 ∧ Q0 (.lst (xs ++ ys)) M
        | _ => False) := h
      cases e : M a with
      | none => rw [e] at h2; exact h2.elim
      | some mo =>
        rw [e] at h2
        cases mo with
        | lst xs =>
          obtain ⟨vs, ha, ra⟩ := mu_lst c e
          exact .inr (.inl ⟨a, b, vs, us, rfl, rfl, ha, hb, by rw [ra.length, rb.length, line24]; exact h2.1, new_lst c (ra.append rb) h2.2 q⟩)
        | _ => exact h2.elim
    | _ => exact h.elim
  | _ => exact h.elim
mutual
def pd : D → PyData
  | .non => .none
  | .bl b => .bool b
  | .int i => .int i
  | .str x => .str (sx x)
  | .ref _ => .dict []
  | .ty _ => .dict []
  | .scr _ => .dict []
  | .cl _ => .dict []
  | .exc _ _ _ _ _ => .dict []
  | .lst ds => .list (pds ds)
  | .tup ds => .tuple (pds ds)
def pds : List D → List PyData
  | [] => []
  | d :: ds => pd d :: pds ds
end
mutual
def plain : D → Bool
  | .ref _ => false
  | .ty _ => false
  | .scr _ => false
  | .cl _ => false
  | .exc _ _ _ _ _ => false
  | .lst ds => plains ds
  | .tup ds => plains ds
  | _ => true
def plains : List D → Bool
  | [] => true
  | d :: ds => plain d && plains ds
end
mutual
theorem dp_of {M : Mu} {H : Hp} : ∀ {d : D} {v : V}, plain d = true → Rep K M H d v → Dp K H v (pd d)
  | .non, v, _, r => by cases (show v = _ from r); exact .non
  | .bl _, v, _, r => by cases (show v = _ from r); exact .bl _
  | .int _, v, _, r => by cases (show v = _ from r); exact .int _
  | .str _, v, _, r => by cases (show v = _ from r); exact .str _
  | .ref _, _, h, _ => by cases h
  | .ty _, _, h, _ => by cases h
  | .scr _, _, h, _ => by cases h
  | .cl _, _, h, _ => by cases h
  | .exc _ _ _ _ _, _, h, _ => by cases h
  | .lst ds, v, h, r => by
    obtain ⟨a, vs, rfl, ha, _, ra⟩ := rep_of_lst r
    unfold pd
    exact .lst (.inl (.inl ha)) (dps_of h ra)
  | .tup ds, v, h, r => by
    obtain ⟨a, vs, rfl, ha, ra⟩ := rep_of_tup r
    unfold pd
    exact .tup (sqT_of ha) (dps_of h ra)
theorem dps_of {M : Mu} {H : Hp} : ∀ {ds : List D} {vs : List V}, plains ds = true → Reps K M H ds vs → DpAll K H vs (pds ds)
  | [], vs, _, r => by cases (show vs = [] from r); exact .nil
  | d :: ds, vs, h, r => by
    obtain ⟨v, u, rfl, r1, r2⟩ := r.uncons
    have h2 : plain d = true ∧ plains ds = true := by
      have : (plain d && plains ds) = true := h
      rwa [Bool.and_eq_true] at this
    exact .cons (dp_of h2.1 r1) (dps_of h2.2 r2)
end
def eqOk (d : D) : Bool := plain d && SeqAt.shaped (pd d)
def unlike : D → D → Bool
  | .non, .int _ => true | .int _, .non => true | .non, .bl _ => true | .bl _, .non => true | .non, .str _ => true | .str _, .non => true
  | .int _, .str _ => true | .str _, .int _ => true | .bl _, .str _ => true | .str _, .bl _ => true
  | _, _ => false
def gEqN (nb : Bool → Bool) : DOp := fun x y M Q => match x, y with
  | .int i, .int j => Q (.bl (nb (decide (i = j)))) M
  | .str a, .str b => Q (.bl (nb (decide (a = b)))) M
  | .bl a, .bl b => Q (.bl (nb (decide (a = b)))) M
  | .non, .non => Q (.bl (nb true)) M
  | .lst a, .lst b => eqOk (.lst a) = true ∧ eqOk (.lst b) = true ∧ Q (.bl (nb (PyData.eqv (.list (pds a)) (.list (pds b))))) M
  | .tup a, .tup b => eqOk (.tup a) = true ∧ eqOk (.tup b) = true ∧ Q (.bl (nb (PyData.eqv (.tuple (pds a)) (.tuple (pds b))))) M
  | .ref p, .lst b => (match M p with
    | some (.lst a) => eqOk (.lst a) = true ∧ eqOk (.lst b) = true ∧ Q (.bl (nb (PyData.eqv (.list (pds a)) (.list (pds b))))) M
    | _ => False)
  | .lst a, .ref p => (match M p with
    | some (.lst b) => eqOk (.lst a) = true ∧ eqOk (.lst b) = true ∧ Q (.bl (nb (PyData.eqv (.list (pds a)) (.list (pds b))))) M
    | _ => False)
  | x, y => unlike x y = true ∧ Q (.bl (nb false)) M
abbrev gEq : DOp := gEqN id
abbrev gNe : DOp := gEqN not
def rEqN (nb : Bool → Bool) (K : PySem.W.Frag) : R2 := fun x y H Q => (scal x y = true ∧ Q (.bl (nb (decide (x = y)))) H) ∨ ∃ d e, Dp K H x d ∧ Dp K H y e ∧ SeqAt.shaped d = true ∧ SeqAt.shaped e = true ∧ Q (.bl (nb (PyData.eqv d e))) H
theorem op_eqN {X : Cx} {W : WX} (G : Gd X W) : OpR X (compareOp .Eq) (rEqN id X.K) := op_eq.or (op_eqD G.hu)
theorem op_neN {X : Cx} {W : WX} (G : Gd X W) : OpR X (compareOp .NotEq) (rEqN not X.K) := op_ne.or (op_neD G.hu)
theorem ba {a b : Bool} (h : (a && b) = true) : a = true ∧ b = true := Bool.and_eq_true_iff.mp h
theorem dp_mu {M : Mu} {H : Hp} {a : Addr} {ds : List D} (c : Cor K M H) (h : M a = some (.lst ds)) (p : plain (.lst ds) = true) : Dp K H (.ref a) (pd (.lst ds)) := by
  obtain ⟨vs, ha, ra⟩ := mu_lst c h
  unfold pd
  exact .lst (.inl (.inl ha)) (dps_of p ra)
theorem od_eq {nb : Bool → Bool} : OpD K (gEqN nb) (rEqN nb K) := fun M H x y v u Q0 Q c rx ry h q => by
  have fin : ∀ b, Q0 (.bl b) M → Q (.bl b) H := fun b z => q _ M _ H z rfl c (Stp.refl M H)
  have deep : ∀ {x y : D} {v u : V}, Dp K H v (pd x) → Dp K H u (pd y) → eqOk x = true → eqOk y = true → Q0 (.bl (nb (PyData.eqv (pd x) (pd y)))) M → rEqN nb K v u H Q := fun {x y v u} d1 d2 ex ey z =>
    .inr ⟨_, _, d1, d2, (ba ex).2, (ba ey).2, fin _ z⟩
  have un : ∀ b, unlike x y = true → b = false → Q0 (.bl (nb b)) M → scal v u = true → decide (v = u) = false → rEqN nb K v u H Q := fun b _ eb z s e => .inl ⟨s, by rw [e, ← eb]; exact fin _ z⟩
  cases x with
  | non => cases y <;> first
    | (cases rx; cases ry; exact .inl ⟨rfl, fin _ h⟩)
    | (cases rx; cases ry; exact .inl ⟨rfl, fin _ h.2⟩)
    | exact absurd h.1 Bool.false_ne_true
  | bl a => cases y <;> first
    | (cases rx; cases ry; refine .inl ⟨rfl, ?_⟩; rename_i b; rw [show decide (V.bl a = V.bl b) = decide (a = b) by simp]; exact fin _ h)
    | (cases rx; cases ry; exact .inl ⟨rfl, fin _ h.2⟩)
    | exact absurd h.1 Bool.false_ne_true
  | int a => cases y <;> first
    | (cases rx; cases ry; refine .inl ⟨rfl, ?_⟩; rename_i b; rw [show decide (V.int a = V.int b) = decide (a = b) by simp]; exact fin _ h)
    | (cases rx; cases ry; exact .inl ⟨rfl, fin _ h.2⟩)
    | exact absurd h.1 Bool.false_ne_true
  | str a => cases y <;> first
    | (cases rx; cases ry; refine .inl ⟨rfl, ?_⟩; rename_i b; rw [show decide (V.str (sx a) = V.str (sx b)) = decide (a = b) by
          rw [decide_eq_decide]; exact ⟨fun z => sx_inj (V.str.inj z), fun z => by rw [z]⟩]; exact fin _ h)
    | (cases rx; cases ry; exact .inl ⟨rfl, fin _ h.2⟩)
    | exact absurd h.1 Bool.false_ne_true
  | lst a => cases y with
    | lst b => exact deep (x := .lst a) (y := .lst b) (dp_of (ba h.1).1 rx) (dp_of (ba h.2.1).1 ry) h.1 h.2.1 (by unfold pd; exact h.2.2)
    | ref p =>
      cases ry
      have h2 : (match M p with
        | some (.lst b) => eqOk (.lst a) = true ∧ eqOk (.lst b) = true ∧ Q0 (.bl (nb (PyData.eqv (.list (pds a)) (.list (pds b))))) M
        | _ => False) := h
      cases e : M p with
      | none => rw [e] at h2; exact h2.elim
      | some mo =>
        rw [e] at h2
        cases mo with
        | lst b => exact deep (x := .lst a) (y := .lst b) (dp_of (ba h2.1).1 rx) (dp_mu c e (ba h2.2.1).1) h2.1 h2.2.1 (by unfold pd; exact h2.2.2)
        | _ => exact h2.elim
    | _ => exact absurd h.1 Bool.false_ne_true
  | tup a => cases y with
    | tup b => exact deep (x := .tup a) (y := .tup b) (dp_of (ba h.1).1 rx) (dp_of (ba h.2.1).1 ry) h.1 h.2.1 (by unfold pd; exact h.2.2)
    | _ => exact absurd h.1 Bool.false_ne_true
  | ref p => cases y with
    | lst b =>
      cases rx
      have h2 : (match M p with
        | some (.lst a) => eqOk (.lst a) = true ∧ eqOk (.lst b) = true ∧ Q0 (.bl (nb (PyData.eqv (.list (pds a)) (.list (pds b))))) M
        | _ => False) := h
      cases e : M p with
      | none => rw [e] at h2; exact h2.elim
      | some mo =>
        rw [e] at h2
        cases mo with
        | lst a => exact deep (x := .lst a) (y := .lst b) (dp_mu c e (ba h2.1).1) (dp_of (ba h2.2.1).1 ry) h2.1 h2.2.1 (by unfold pd; exact h2.2.2)
        | _ => exact h2.elim
    | _ => exact absurd h.1 Bool.false_ne_true
  | ty _ => cases y <;> exact absurd h.1 Bool.false_ne_true
  | scr _ => cases y <;> exact absurd h.1 Bool.false_ne_true
  | cl _ => cases y <;> exact absurd h.1 Bool.false_ne_true
  | exc _ _ _ _ _ => cases y <;> exact absurd h.1 Bool.false_ne_true
end
end DL
namespace DL
open PySem L2
def lookK (kvs : List (DKey × D)) (k : DKey) : Option D := (kvs.find? fun q => decide (q.1 = k)).map (·.2)
def gIx : DOp := fun x y M Q => match x, y with
  | .lst ds, .int i => (match atI ds i with
    | some d => Q d M
    | none => False)
  | .tup ds, .int i => (match atI ds i with
    | some d => Q d M
    | none => False)
  | .str x, .int i => x.length ≤ 16777216 ∧ (match atI x i with
    | some c => Q (.str [c]) M
    | none => False)
  | .ref a, .int i => (match M a with
    | some (.lst ds) => (match atI ds i with
      | some d => Q d M
      | none => False)
    | some (.dK kvs) => (match lookK kvs (.inl i) with
      | some d => Q d M
      | none => False)
    | some (.fK kvs _) => (match lookK kvs (.inl i) with
      | some d => Q d M
      | none => False)
    | _ => False)
  | .ref a, .str x => (match M a with
    | some (.dK kvs) => (match lookK kvs (.inr x) with
      | some d => Q d M
      | none => False)
    | some (.fK kvs _) => (match lookK kvs (.inr x) with
      | some d => Q d M
      | none => False)
    | _ => False)
  | _, _ => False
section
variable {K : PySem.W.Frag} {M : Mu} {H : Hp}
theorem atI_rep {ds : List D} {vs : List V} {i : Int} {d : D} (r : Reps K M H ds vs) (h : atI ds i = some d) : ∃ v, atI vs i = some v ∧ Rep K M H d v := by
  unfold atI at h ⊢
  rw [r.length]
  cases e : ixN ds.length i with
  | none => rw [e] at h; cases h
  | some j =>
    rw [e] at h
    exact r.get h
theorem kO_dec (a b : DKey) : decide (kO a = kO b) = decide (a = b) := decide_eq_decide.mpr ⟨kO_inj, fun e => by rw [e]⟩
theorem look_rep {k : DKey} : ∀ {kvs : List (DKey × D)} {ks : List (Key × V)}, ks.map (·.1) = kvs.map (fun q => kO q.1) → Reps K M H (kvs.map (·.2)) (ks.map (·.2)) →
    match lookK kvs k with
    | some d => ∃ v, valV ks (kO k) = some v ∧ Rep K M H d v
    | none => valV ks (kO k) = none
  | [], [], _, _ => rfl
  | [], _ :: _, h, _ => by cases h
  | _ :: _, [], h, _ => by cases h
  | (a, d) :: kvs, (b, v) :: ks, h, r => by
    have h1 : b = kO a ∧ ks.map (·.1) = kvs.map (fun q => kO q.1) := by
      simp only [List.map_cons, List.cons.injEq] at h
      exact h
    obtain ⟨v', u', e, r1, r2⟩ := r.uncons
    have e2 : v = v' ∧ ks.map (·.2) = u' := by
      simp only [List.map_cons, List.cons.injEq] at e
      exact e
    have ih := look_rep (k := k) h1.2 (by rw [e2.2]; exact r2)
    unfold lookK valV
    rw [List.find?_cons, List.find?_cons]
    show match Option.map (fun z : DKey × D => z.2) (match decide (a = k) with | true => some (a, d) | false => kvs.find? fun q => decide (q.1 = k)) with
      | some d => ∃ w, Option.map (fun z : Key × V => z.2) (match decide (b = kO k) with | true => some (b, v) | false => ks.find? fun q => decide (q.1 = kO k)) = some w ∧ Rep K M H d w
      | none => _
    rw [h1.1, kO_dec]
    cases q : decide (a = k) with
    | true => exact ⟨v, rfl, by rw [e2.1]; exact r1⟩
    | false => exact ih
end
def rIxA (K : PySem.W.Frag) : R2 := fun x y H Q => (rIx K x y H Q) ∨ ∃ a v, x = .ref a ∧ DGet H a y (some v) ∧ Q v H
theorem ix_dict {X : Cx} {W : WX} (G : Gd X W) : IxR X (fun x y H Q => ∃ a v, x = .ref a ∧ DGet H a y (some v) ∧ Q v H) := by
  intro value slice pins s σ H x y v u Q I rx ry h hs
  obtain ⟨a, w, rfl, g, q⟩ := h
  cases rx
  exact PyProof.Rows.tail_any (dict_typeIs I g) PySem.F.slot_dict_getitem.lookup (d_getItem G.hu1 I g ry fun w' s3 I3 rw' => ⟨w, H, I3, rw', q⟩) hs
section
variable {K : PySem.W.Frag}
theorem od_ix : OpD K gIx (rIxA K) := fun M H x y v u Q0 Q c rx ry h q => by
  have fin : ∀ d w, Q0 d M → Rep K M H d w → Q w H := fun d w z r => q _ M _ H z r c (Stp.refl M H)
  cases x with
  | lst ds =>
    cases y with
    | int i =>
      obtain ⟨a, vs, rfl, ha, ma, ra⟩ := rep_of_lst rx
      cases ry
      have h2 : (match atI ds i with
        | some d => Q0 d M
        | none => False) := h
      cases e : atI ds i with
      | none => rw [e] at h2; exact h2.elim
      | some d =>
        rw [e] at h2
        obtain ⟨w, e2, r2⟩ := atI_rep ra e
        exact .inl (.inl ⟨a, vs, i, w, rfl, rfl, .inl (.inl ha), e2, fin d w h2 r2⟩)
    | _ => exact h.elim
  | tup ds =>
    cases y with
    | int i =>
      obtain ⟨a, vs, rfl, ha, ra⟩ := rep_of_tup rx
      cases ry
      have h2 : (match atI ds i with
        | some d => Q0 d M
        | none => False) := h
      cases e : atI ds i with
      | none => rw [e] at h2; exact h2.elim
      | some d =>
        rw [e] at h2
        obtain ⟨w, e2, r2⟩ := atI_rep ra e
        exact .inl (.inr (.inl ⟨a, vs, i, w, rfl, rfl, sqT_of ha, e2, fin d w h2 r2⟩))
    | _ => exact h.elim
  | str x =>
    cases y with
    | int i =>
      cases rx; cases ry
      obtain ⟨h1, h2⟩ : x.length ≤ 16777216 ∧ (match atI x i with
        | some c => Q0 (.str [c]) M
        | none => False) := h
      cases e : atI x i with
      | none => rw [e] at h2; exact h2.elim
      | some d =>
        rw [e] at h2
        exact .inl (.inr (.inr ⟨sx x, i, d, rfl, rfl, by rw [sx_len, line24]; exact h1, e, fin _ _ h2 rfl⟩))
    | _ => exact h.elim
  | ref a =>
    cases rx
    cases y with
    | int i =>
      cases ry
      have h2 : (match M a with
        | some (.lst ds) => (match atI ds i with
          | some d => Q0 d M
          | none => False)
        | some (.dK kvs) => (match lookK kvs (.inl i) with
          | some d => Q0 d M
          | none => False)
        | some (.fK kvs _) => (match lookK kvs (.inl i) with
          | some d => Q0 d M
          | none => False)
        | _ => False) := h
      cases e : M a with
      | none => rw [e] at h2; exact h2.elim
      | some mo =>
        rw [e] at h2
        cases mo with
        | lst ds =>
          obtain ⟨vs, ha, ra⟩ := mu_lst c e
          have h3 : (match atI ds i with
            | some d => Q0 d M
            | none => False) := h2
          cases e : atI ds i with
          | none => rw [e] at h3; exact h3.elim
          | some d =>
            rw [e] at h3
            obtain ⟨w, e2, r2⟩ := atI_rep ra e
            exact .inl (.inl ⟨a, vs, i, w, rfl, rfl, .inl (.inl ha), e2, fin d w h3 r2⟩)
        | dK kvs =>
          obtain ⟨ks, ha, ek, ra⟩ := mu_dK c e
          have h3 : (match lookK kvs (.inl i) with
            | some d => Q0 d M
            | none => False) := h2
          have l := look_rep (k := .inl i) ek ra
          cases e : lookK kvs (.inl i) with
          | none => rw [e] at h3; exact h3.elim
          | some d =>
            rw [e] at h3 l
            obtain ⟨w, e2, r2⟩ := l
            exact .inr ⟨a, w, rfl, .inl ⟨ks, .inl i, .inl ha, rfl, e2.symm⟩, fin d w h3 r2⟩
        | fK kvs fu =>
          obtain ⟨od, ks, ha, _, ek, ra⟩ := mu_fK c e
          have h3 : (match lookK kvs (.inl i) with
            | some d => Q0 d M
            | none => False) := h2
          have l := look_rep (k := .inl i) ek ra
          cases e : lookK kvs (.inl i) with
          | none => rw [e] at h3; exact h3.elim
          | some d =>
            rw [e] at h3 l
            obtain ⟨w, e2, r2⟩ := l
            exact .inr ⟨a, w, rfl, .inl ⟨ks, .inl i, .inr ⟨od, ha⟩, rfl, e2.symm⟩, fin d w h3 r2⟩
        | _ => exact h2.elim
    | str x =>
      cases ry
      have h2 : (match M a with
        | some (.dK kvs) => (match lookK kvs (.inr x) with
          | some d => Q0 d M
          | none => False)
        | some (.fK kvs _) => (match lookK kvs (.inr x) with
          | some d => Q0 d M
          | none => False)
        | _ => False) := h
      cases e : M a with
      | none => rw [e] at h2; exact h2.elim
      | some mo =>
        rw [e] at h2
        cases mo with
        | dK kvs =>
          obtain ⟨ks, ha, ek, ra⟩ := mu_dK c e
          have h3 : (match lookK kvs (.inr x) with
            | some d => Q0 d M
            | none => False) := h2
          have l := look_rep (k := .inr x) ek ra
          cases e : lookK kvs (.inr x) with
          | none => rw [e] at h3; exact h3.elim
          | some d =>
            rw [e] at h3 l
            obtain ⟨w, e2, r2⟩ := l
            exact .inr ⟨a, w, rfl, .inl ⟨ks, .inr (sx x), .inl ha, rfl, e2.symm⟩, fin d w h3 r2⟩
        | fK kvs fu =>
          obtain ⟨od, ks, ha, _, ek, ra⟩ := mu_fK c e
          have h3 : (match lookK kvs (.inr x) with
            | some d => Q0 d M
            | none => False) := h2
          have l := look_rep (k := .inr x) ek ra
          cases e : lookK kvs (.inr x) with
          | none => rw [e] at h3; exact h3.elim
          | some d =>
            rw [e] at h3 l
            obtain ⟨w, e2, r2⟩ := l
            exact .inr ⟨a, w, rfl, .inl ⟨ks, .inr (sx x), .inr ⟨od, ha⟩, rfl, e2.symm⟩, fin d w h3 r2⟩
        | _ => exact h2.elim
    | _ => exact h.elim
  | _ => exact h.elim
end
section
variable {X : Cx} {W : WX} {a b c e o : Expr} {rest es : List Expr} {ta tb tc te to : DTE} {tl : DTA} {pos apos cpos p : Pos}
theorem de_ix (G : Gd X W) (ha : DE X W a ta) (hb : DE X W b tb) (hs : PlainIx b := by intro _ _; rfl) : DE X W (.Subscript a b pos) (dOp gIx ta tb) :=
  PE.of (pe_ix ((ix_seq).or (ix_dict G)) ha hb hs) fun _ _ _ h => lif_op od_ix h
def flatD : D → Bool
  | .non => true
  | .bl _ => true
  | .int _ => true
  | .str _ => true
  | _ => false
def eqF : D → D → Bool
  | .non, .non => true
  | .bl a, .bl b => a == b
  | .bl a, .int b => (if a then 1 else 0) == b
  | .int a, .bl b => a == (if b then 1 else 0)
  | .int a, .int b => a == b
  | .str a, .str b => a == b
  | _, _ => false
def inD (x : D) (ys : List D) : Bool := ys.any fun y => eqF y x
def gInN (nb : Bool → Bool) : DOp := fun x y M Q => match x, y with
  | .str [c], .str z => Q (.bl (nb (decide (c ∈ z)))) M
  | x, .lst ys => flatD x = true ∧ ys.all flatD = true ∧ Q (.bl (nb (inD x ys))) M
  | x, .tup ys => flatD x = true ∧ ys.all flatD = true ∧ Q (.bl (nb (inD x ys))) M
  | .int i, .ref a => (match M a with
    | some (.lst ys) => ys.all flatD = true ∧ Q (.bl (nb (inD (.int i) ys))) M
    | some (.dK kvs) => Q (.bl (nb (lookK kvs (.inl i)).isSome)) M
    | some (.fK kvs _) => Q (.bl (nb (lookK kvs (.inl i)).isSome)) M
    | _ => False)
  | .str x, .ref a => (match M a with
    | some (.lst ys) => ys.all flatD = true ∧ Q (.bl (nb (inD (.str x) ys))) M
    | some (.dK kvs) => Q (.bl (nb (lookK kvs (.inr x)).isSome)) M
    | some (.fK kvs _) => Q (.bl (nb (lookK kvs (.inr x)).isSome)) M
    | _ => False)
  | _, _ => False
abbrev gIn : DOp := gInN id
def rInN (nb : Bool → Bool) (K : PySem.W.Frag) : R2 := fun x y H Q => (∃ (c : Nat) (z : Str), x = .str ⟨#[c]⟩ ∧ y = .str z ∧ Q (.bl (nb (decide (c ∈ z.cps.toList)))) H) ∨
  (∃ p xs, y = .ref p ∧ (SqL K H p xs ∨ SqT K H p xs) ∧ flatV x = true ∧ xs.all flatV = true ∧ Q (.bl (nb (inV x xs))) H) ∨ ∃ a o, y = .ref a ∧ DGet H a x o ∧ Q (.bl (nb o.isSome)) H
theorem op_inN (G : Gd X W) : OpR X (compareOp .In) (rInN id X.K) := by
  intro pins s σ H x y v u Q I rx ry h
  rcases h with h | ⟨p, xs, e1, e2, e3, e4, h⟩ | ⟨a, o, e, g, h⟩
  · exact op_in_sign pins s σ H x y v u Q I rx ry h
  · exact op_in_seq pins s σ H x y v u Q I rx ry ⟨p, xs, e1, e2, e3, e4, h⟩
  · subst e
    cases ry
    exact d_in G.hu1 I g rx fun s3 I3 => ⟨.bl o.isSome, H, I3, rfl, h⟩
end
section
variable {K : PySem.W.Frag} {M : Mu} {H : Hp}
theorem flat_rep {d : D} {v : V} (f : flatD d = true) (r : Rep K M H d v) : flatV v = true := by
  cases d with
  | non => cases (show v = _ from r); rfl
  | bl _ => cases (show v = _ from r); rfl
  | int _ => cases (show v = _ from r); rfl
  | str _ => cases (show v = _ from r); rfl
  | _ => cases f
theorem eqF_rep {d e : D} {v u : V} (f : flatD d = true) (g : flatD e = true) (r : Rep K M H d v) (s : Rep K M H e u) : eqV v u = eqF d e := by
  cases d <;> first
    | (cases f; done)
    | (cases r; cases e <;> first
      | (cases g; done)
      | (cases s; rfl)
      | (cases s; rename_i a b; show (sx a == sx b) = (a == b); rw [Bool.eq_iff_iff, beq_iff_eq, beq_iff_eq]; exact ⟨sx_inj, fun z => by rw [z]⟩))
theorem in_rep {d : D} {v : V} (f : flatD d = true) (r : Rep K M H d v) : ∀ {ds : List D} {vs : List V}, ds.all flatD = true → Reps K M H ds vs → vs.all flatV = true ∧ inV v vs = inD d ds
  | [], vs, _, h => by cases h.unnil; exact ⟨rfl, rfl⟩
  | e :: ds, vs, g, h => by
    obtain ⟨u, us, rfl, h1, h2⟩ := h.uncons
    rw [List.all_cons, Bool.and_eq_true] at g
    obtain ⟨i1, i2⟩ := in_rep f r g.2 h2
    refine ⟨by rw [List.all_cons, Bool.and_eq_true]; exact ⟨flat_rep g.1 h1, i1⟩, ?_⟩
    show (eqV u v || inV v us) = (eqF e d || inD d ds)
    rw [eqF_rep g.1 f h1 r, i2]
theorem od_in {nb : Bool → Bool} : OpD K (gInN nb) (rInN nb K) := fun M H x y v u Q0 Q c rx ry h q => by
  have fin : ∀ b, Q0 (.bl b) M → Q (.bl b) H := fun b z => q _ M _ H z rfl c (Stp.refl M H)
  have seq : ∀ {x : D} {v : V} {ys : List D} {p : Addr} {us : List V}, Rep K M H x v → (SqL K H p us ∨ SqT K H p us) → Reps K M H ys us → flatD x = true → ys.all flatD = true → Q0 (.bl (nb (inD x ys))) M → rInN nb K v (.ref p) H Q :=
    fun {x v ys p us} r1 s r2 f g z => by
      obtain ⟨i1, i2⟩ := in_rep f r1 g r2
      exact .inr (.inl ⟨p, us, rfl, s, flat_rep f r1, i1, by rw [i2]; exact fin _ z⟩)
  have dic : ∀ {k : DKey} {kvs : List (DKey × D)} {p : Addr} {mo : MO}, M p = some mo → dOf mo = some kvs → Q0 (.bl (nb (lookK kvs k).isSome)) M → rInN nb K (kV (kO k)) (.ref p) H Q := fun {k kvs p mo} e ed z => by
    obtain ⟨ks, ha, ek, ra⟩ := mu_dR c e ed
    have l := look_rep (k := k) ek ra
    refine .inr (.inr ⟨p, valV ks (kO k), rfl, .inl ⟨ks, kO k, ha, rfl, rfl⟩, ?_⟩)
    cases e2 : lookK kvs k with
    | none => rw [e2] at l z; rw [l]; exact fin _ z
    | some d =>
      rw [e2] at l z
      obtain ⟨w, e3, _⟩ := l
      rw [e3]
      exact fin _ z
  have lstC : ∀ {ys : List D}, y = .lst ys → flatD x = true ∧ ys.all flatD = true ∧ Q0 (.bl (nb (inD x ys))) M → rInN nb K v u H Q := fun {ys} e z => by
    subst e
    obtain ⟨b, us, rfl, hb, mb, rb⟩ := rep_of_lst ry
    exact seq rx (.inl (.inl (.inl hb))) rb z.1 z.2.1 z.2.2
  have tupC : ∀ {ys : List D}, y = .tup ys → flatD x = true ∧ ys.all flatD = true ∧ Q0 (.bl (nb (inD x ys))) M → rInN nb K v u H Q := fun {ys} e z => by
    subst e
    obtain ⟨b, us, rfl, hb, rb⟩ := rep_of_tup ry
    exact seq rx (.inr (sqT_of hb)) rb z.1 z.2.1 z.2.2
  cases y with
  | str z =>
    cases x with
    | str w =>
      cases w with
      | nil => exact h.elim
      | cons a l => cases l with
        | nil =>
          cases rx; cases ry
          exact .inl ⟨a, sx z, rfl, rfl, fin _ h⟩
        | cons _ _ => exact h.elim
    | _ => exact h.elim
  | lst ys => cases x <;> first
    | exact lstC rfl h
    | (rename_i w; cases w with
      | nil => exact lstC rfl h
      | cons a l => cases l <;> exact lstC rfl h)
  | tup ys => cases x <;> first
    | exact tupC rfl h
    | (rename_i w; cases w with
      | nil => exact tupC rfl h
      | cons a l => cases l <;> exact tupC rfl h)
  | ref p =>
    cases ry
    cases x with
    | int i =>
      cases rx
      have h2 : (match M p with
        | some (.lst ys) => ys.all flatD = true ∧ Q0 (.bl (nb (inD (.int i) ys))) M
        | some (.dK kvs) => Q0 (.bl (nb (lookK kvs (.inl i)).isSome)) M
        | some (.fK kvs _) => Q0 (.bl (nb (lookK kvs (.inl i)).isSome)) M
        | _ => False) := h
      cases e : M p with
      | none => rw [e] at h2; exact h2.elim
      | some mo =>
        rw [e] at h2
        cases mo with
        | lst ys =>
          obtain ⟨vs, ha, ra⟩ := mu_lst c e
          exact seq (x := .int i) rfl (.inl (.inl (.inl ha))) ra rfl h2.1 h2.2
        | dK kvs => exact dic (k := .inl i) e rfl h2
        | fK kvs fu => exact dic (k := .inl i) e rfl h2
        | _ => exact h2.elim
    | str x =>
      cases rx
      have h2 : (match M p with
        | some (.lst ys) => ys.all flatD = true ∧ Q0 (.bl (nb (inD (.str x) ys))) M
        | some (.dK kvs) => Q0 (.bl (nb (lookK kvs (.inr x)).isSome)) M
        | some (.fK kvs _) => Q0 (.bl (nb (lookK kvs (.inr x)).isSome)) M
        | _ => False) := by
        cases x with
        | nil => exact h
        | cons a l => cases l <;> exact h
      cases e : M p with
      | none => rw [e] at h2; exact h2.elim
      | some mo =>
        rw [e] at h2
        cases mo with
        | lst ys =>
          obtain ⟨vs, ha, ra⟩ := mu_lst c e
          exact seq (x := .str x) rfl (.inl (.inl (.inl ha))) ra rfl h2.1 h2.2
        | dK kvs => exact dic (k := .inr x) e rfl h2
        | fK kvs fu => exact dic (k := .inr x) e rfl h2
        | _ => exact h2.elim
    | _ => exact h.elim
  | _ => cases x <;> first
    | exact h.elim
    | (rename_i w; cases w with
      | nil => exact h.elim
      | cons a l => cases l <;> exact h.elim)
end
end DL
namespace DL
open PySem L2
abbrev DCb := List D → Mu → DK → Prop
def dCB (g : DCb) (ta : DTA) : DTE := fun τ M Q E => ta τ M (fun ds M1 => g ds M1 Q) E
def CbD (K : PySem.W.Frag) (g : DCb) (r : List V → Hp → VK → Prop) : Prop := ∀ (M : Mu) (H : Hp) (xs : List D) (vs : List V) (Q0 : DK) (Q : VK), Cor K M H → Reps K M H xs vs → g xs M Q0 →
  (∀ d M' z H', Q0 d M' → Rep K M' H' d z → Cor K M' H' → Stp M H M' H' → Q z H') → r vs H Q
section
variable {X : Cx} {W : WX} {a b c e o : Expr} {rest es : List Expr} {ta tb tc te to : DTE} {tl : DTA} {pos apos cpos p : Pos} {x : Str} {id T : String} {g : DCb} {r : List V → Hp → VK → Prop}
theorem lif_cb (k : CbD X.K g r) {σ : L2.St} {H : Hp} {Q : VK} (h : lif X.K W (RD X.K) (dCB g tl) σ H Q) : tCB r (lif X.K W (RA X.K) tl) σ H Q := by
  obtain ⟨τ, M, Q0, E0, S, h⟩ := h
  exact S.sub h fun ds M1 vs H1 h1 r1 S1 s1 => k M1 H1 ds vs Q0 Q S1.co r1 h1 S1.q
theorem de_callB (k : CbD X.K g r) (hc : CallR X (.builtin id) r) (hm : X.mg x = none) (hv : bootBuiltins x = some (.builtin id)) (ha : DA X W (e :: es) tl) (hg : Gl X x := by rfl) (hn : x ≠ "__name__" := by decide) (hdb : (x == ("__debug__" : Str)) = false := by decide)
    (he : starEach (e :: es) X.env = (false, eval e X.env) :: starEach es X.env := by rfl) (hpl : (backTo pos (starEach es X.env)).any (·.1) = false := by rfl) : DE X W (.Call (.Name x p) (e :: es) [] pos) (dCB g tl) :=
  PE.of (pe_callB hc hg hm hv ha hn hdb he hpl) fun _ _ _ h => lif_cb k h
theorem de_callTy (k : CbD X.K g r) (hc : CallR X (.type T) r) (hm : X.mg x = none) (hv : bootBuiltins x = some (.type T)) (ha : DA X W (e :: es) tl) (hg : Gl X x := by rfl) (hn : x ≠ "__name__" := by decide) (hdb : (x == ("__debug__" : Str)) = false := by decide)
    (he : starEach (e :: es) X.env = (false, eval e X.env) :: starEach es X.env := by rfl) (hpl : (backTo pos (starEach es X.env)).any (·.1) = false := by rfl) : DE X W (.Call (.Name x p) (e :: es) [] pos) (dCB g tl) :=
  PE.of (pe_callTy hc hg hm hv ha hn hdb he hpl) fun _ _ _ h => lif_cb k h
theorem de_ty (hm : X.mg x = none) (hv : bootBuiltins x = some (.type T)) (hg : Gl X x := by rfl) (hn : x ≠ "__name__" := by decide) (hdb : (x == ("__debug__" : Str)) = false := by decide) : DE X W (.Name x pos) (dC (.ty T)) :=
  de_c (t0 := tC .non) (pe_bltn (v := .ty T) hg hm hv rfl hn hdb) fun _ _ => rfl
end
def gLen : DCb := fun xs M Q => match xs with
  | [.str x] => x.length ≤ 16777216 ∧ Q (.int x.length) M
  | [.lst ds] => Q (.int ds.length) M
  | [.tup ds] => Q (.int ds.length) M
  | [.scr ns] => Q (.int ns.length) M
  | [.ref a] => (match M a with
    | some (.lst ds) => Q (.int ds.length) M
    | some (.dK kvs) => Q (.int kvs.length) M
    | _ => False)
  | _ => False
def gInt1 : DCb := fun xs M Q => match xs with
  | [.int i] => Q (.int i) M
  | [.bl b] => Q (.int (if b then 1 else 0)) M
  | _ => False
def gMin2 : DCb := fun xs M Q => match xs with
  | [.int i, .int j] => Q (.int (if j < i then j else i)) M
  | _ => False
def gMax2 : DCb := fun xs M Q => match xs with
  | [.int i, .int j] => Q (.int (if j > i then j else i)) M
  | _ => False
def gList : DCb := fun xs M Q => match xs with
  | [.lst ds] => Q (.lst ds) M
  | [.tup ds] => Q (.lst ds) M
  | [.scr ns] => Q (.lst (ns.map D.int)) M
  | [.ref a] => (match M a with
    | some (.lst ds) => Q (.lst ds) M
    | _ => False)
  | _ => False
def gListM : DCb := fun xs M Q => match xs with
  | [.lst ds] => ∀ p, M p = none → Q (.ref p) (put M p (.lst ds))
  | [.tup ds] => ∀ p, M p = none → Q (.ref p) (put M p (.lst ds))
  | [.scr ns] => ∀ p, M p = none → Q (.ref p) (put M p (.lst (ns.map D.int)))
  | [.ref a] => (match M a with
    | some (.lst ds) => ∀ p, M p = none → Q (.ref p) (put M p (.lst ds))
    | _ => False)
  | _ => False
def tyD (M : Mu) : D → Option String
  | .non => some "NoneType"
  | .bl _ => some "bool"
  | .int _ => some "int"
  | .str _ => some "str"
  | .lst _ => some "list"
  | .tup _ => some "tuple"
  | .ref a => (match M a with
    | some (.lst _) => some "list"
    | some (.dK _) => some "dict"
    | _ => none)
  | .ty _ => none
  | .scr _ => none
  | .cl _ => none
  | .exc _ _ _ _ _ => none
def isaB (a b : String) : Bool := a == b || (a == "bool" && b == "int")
def gIsi : DCb := fun xs M Q => match xs with
  | [d, .ty T] => (match tyD M d with
    | some n => ["bool", "int", "str", "list", "tuple", "dict"].contains T = true ∧ Q (.bl (isaB n T)) M
    | none => False)
  | _ => False
theorem kit_isa : (["NoneType", "bool", "int", "str", "list", "tuple", "dict"].all fun a => ["bool", "int", "str", "list", "tuple", "dict"].all fun b => decide (kitB a b = some (isaB a b))) = true := by decide +kernel
theorem kit_is {a b : String} (ha : a ∈ ["NoneType", "bool", "int", "str", "list", "tuple", "dict"]) (hb : ["bool", "int", "str", "list", "tuple", "dict"].contains b = true) : kitB a b = some (isaB a b) :=
  of_decide_eq_true (List.all_eq_true.mp (List.all_eq_true.mp kit_isa a ha) b (by simpa using hb))
def rLenA (K : PySem.W.Frag) : List V → Hp → VK → Prop := fun xs H Q => (∃ p ys, xs = [.ref p] ∧ (SqL K H p ys ∨ SqT K H p ys) ∧ Q (.int ys.length) H) ∨ ((∃ z, xs = [.str z] ∧ z.length ≤ sizeLine ∧ Q (.int z.length) H) ∨ ∃ p kvs, xs = [.ref p] ∧ H p = some (.dK kvs) ∧ Q (.int kvs.length) H)
section
variable {K : PySem.W.Frag}
theorem scr_sq {M : Mu} {H : Hp} {a : Addr} {vs : List V} (h : ((∃ o, H a = some (.frz o (.lst vs))) ∧ M a = none) ∨ WrL K a vs) : SqL K H a vs := h.elim (fun q => .inl (.inr q.1)) .inr
theorem cb_len : CbD K gLen (rLenA K) := fun M H xs vs Q0 Q c r h q => by
  have fin : ∀ i : Int, Q0 (.int i) M → Q (.int i) H := fun b z => q _ M _ H z rfl c (Stp.refl M H)
  match xs, h with
  | [.str x], h =>
    obtain ⟨v, u, rfl, r1, r2⟩ := r.uncons
    cases r2.unnil; cases r1
    refine .inr (.inl ⟨sx x, rfl, by rw [sx_len, line24]; exact h.1, ?_⟩)
    rw [sx_len]
    exact fin _ h.2
  | [.lst ds], h =>
    obtain ⟨v, u, rfl, r1, r2⟩ := r.uncons
    cases r2.unnil
    obtain ⟨a, vs, rfl, ha, ma, ra⟩ := rep_of_lst r1
    exact .inl ⟨a, vs, rfl, .inl (.inl (.inl ha)), by rw [ra.length]; exact fin _ h⟩
  | [.tup ds], h =>
    obtain ⟨v, u, rfl, r1, r2⟩ := r.uncons
    cases r2.unnil
    obtain ⟨a, vs, rfl, ha, ra⟩ := rep_of_tup r1
    exact .inl ⟨a, vs, rfl, .inr (sqT_of ha), by rw [ra.length]; exact fin _ h⟩
  | [.scr ns], h =>
    obtain ⟨v, u, rfl, r1, r2⟩ := r.uncons
    cases r2.unnil
    obtain ⟨a, rfl, ha⟩ := (show ∃ a, v = .ref a ∧ _ from r1)
    exact .inl ⟨a, _, rfl, .inl (scr_sq ha), by rw [List.length_map]; exact fin _ h⟩
  | [.ref a], h =>
    obtain ⟨v, u, rfl, r1, r2⟩ := r.uncons
    cases r2.unnil; cases r1
    have h2 : (match M a with
      | some (.lst ds) => Q0 (.int ds.length) M
      | some (.dK kvs) => Q0 (.int kvs.length) M
      | _ => False) := h
    cases e : M a with
    | none => rw [e] at h2; exact h2.elim
    | some mo =>
      rw [e] at h2
      cases mo with
      | lst ds =>
        obtain ⟨vs, ha, ra⟩ := mu_lst c e
        exact .inl ⟨a, vs, rfl, .inl (.inl (.inl ha)), by rw [ra.length]; exact fin _ h2⟩
      | dK kvs =>
        obtain ⟨ks, ha, ek, ra⟩ := mu_dK c e
        have l := congrArg List.length ek
        rw [List.length_map, List.length_map] at l
        exact .inr (.inr ⟨a, ks, rfl, ha, by rw [l]; exact fin _ h2⟩)
      | _ => exact h2.elim
theorem cb_int : CbD K gInt1 (fun xs H Q => (∃ i, xs = [.int i] ∧ Q (.int i) H) ∨ ∃ k, xs = [.bl k] ∧ Q (.int (if k then 1 else 0)) H) := fun M H xs vs Q0 Q c r h q => by
  match xs, h with
  | [.int i], h =>
    obtain ⟨v, u, rfl, r1, r2⟩ := r.uncons
    cases r2.unnil; cases r1
    exact .inl ⟨i, rfl, q _ M _ H h rfl c (Stp.refl M H)⟩
  | [.bl i], h =>
    obtain ⟨v, u, rfl, r1, r2⟩ := r.uncons
    cases r2.unnil; cases r1
    exact .inr ⟨i, rfl, q _ M _ H h rfl c (Stp.refl M H)⟩
abbrev rListA (K : PySem.W.Frag) : List V → Hp → VK → Prop := fun xs H Q => ∃ p ys, xs = [.ref p] ∧ (SqL K H p ys ∨ SqT K H p ys) ∧ ∀ l, H l = none → Q (.ref l) (upd H l (.lst ys))
theorem cb_list : CbD K gList (rListA K) := fun M H xs vs Q0 Q c r h q => by
  match xs, h with
  | [.lst ds], h =>
    obtain ⟨v, u, rfl, r1, r2⟩ := r.uncons
    cases r2.unnil
    obtain ⟨a, vs, rfl, ha, ma, ra⟩ := rep_of_lst r1
    exact ⟨a, vs, rfl, .inl (.inl (.inl ha)), new_lst c ra h q⟩
  | [.tup ds], h =>
    obtain ⟨v, u, rfl, r1, r2⟩ := r.uncons
    cases r2.unnil
    obtain ⟨a, vs, rfl, ha, ra⟩ := rep_of_tup r1
    exact ⟨a, vs, rfl, .inr (sqT_of ha), new_lst c ra h q⟩
  | [.scr ns], h =>
    obtain ⟨v, u, rfl, r1, r2⟩ := r.uncons
    cases r2.unnil
    obtain ⟨a, rfl, ha⟩ := (show ∃ a, v = .ref a ∧ _ from r1)
    exact ⟨a, _, rfl, .inl (scr_sq ha), new_lst c (Reps.of_ints ns) h q⟩
  | [.ref a], h =>
    obtain ⟨v, u, rfl, r1, r2⟩ := r.uncons
    cases r2.unnil; cases r1
    have h2 : (match M a with
      | some (.lst ds) => Q0 (.lst ds) M
      | _ => False) := h
    cases e : M a with
    | none => rw [e] at h2; exact h2.elim
    | some mo =>
      rw [e] at h2
      cases mo with
      | lst ds =>
        obtain ⟨vs, ha, ra⟩ := mu_lst c e
        exact ⟨a, vs, rfl, .inl (.inl (.inl ha)), new_lst c ra h2 q⟩
      | _ => exact h2.elim
theorem cb_listM : CbD K gListM (rListA K) := fun M H xs vs Q0 Q c r h q => by
  match xs, h with
  | [.lst ds], h =>
    obtain ⟨v, u, rfl, r1, r2⟩ := r.uncons
    cases r2.unnil
    obtain ⟨a, vs, rfl, ha, ma, ra⟩ := rep_of_lst r1
    exact ⟨a, vs, rfl, .inl (.inl (.inl ha)), new_lstM c ra h q⟩
  | [.tup ds], h =>
    obtain ⟨v, u, rfl, r1, r2⟩ := r.uncons
    cases r2.unnil
    obtain ⟨a, vs, rfl, ha, ra⟩ := rep_of_tup r1
    exact ⟨a, vs, rfl, .inr (sqT_of ha), new_lstM c ra h q⟩
  | [.scr ns], h =>
    obtain ⟨v, u, rfl, r1, r2⟩ := r.uncons
    cases r2.unnil
    obtain ⟨a, rfl, ha⟩ := (show ∃ a, v = .ref a ∧ _ from r1)
    exact ⟨a, _, rfl, .inl (scr_sq ha), new_lstM c (Reps.of_ints ns) h q⟩
  | [.ref a], h =>
    obtain ⟨v, u, rfl, r1, r2⟩ := r.uncons
    cases r2.unnil; cases r1
    have h2 : (match M a with
      | some (.lst ds) => ∀ p, M p = none → Q0 (.ref p) (put M p (.lst ds))
      | _ => False) := h
    cases e : M a with
    | none => rw [e] at h2; exact h2.elim
    | some mo =>
      rw [e] at h2
      cases mo with
      | lst ds =>
        obtain ⟨vs, ha, ra⟩ := mu_lst c e
        exact ⟨a, vs, rfl, .inl (.inl (.inl ha)), new_lstM c ra h2 q⟩
      | _ => exact h2.elim
theorem ty_rep {M : Mu} {H : Hp} {d : D} {v : V} {n : String} (c : Cor K M H) (r : Rep K M H d v) (h : tyD M d = some n) : TyX K H v (.type n) ∧ n ∈ ["NoneType", "bool", "int", "str", "list", "tuple", "dict"] := by
  cases d with
  | non => cases r; cases h; exact ⟨.base .non, by decide⟩
  | bl _ => cases r; cases h; exact ⟨.base (.bl _), by decide⟩
  | int _ => cases r; cases h; exact ⟨.base (.int _), by decide⟩
  | str _ => cases r; cases h; exact ⟨.base (.str _), by decide⟩
  | lst ds =>
    cases h
    obtain ⟨a, vs, rfl, ha, ma, ra⟩ := rep_of_lst r
    exact ⟨.base (.lst ha), by decide⟩
  | tup ds =>
    cases h
    obtain ⟨a, vs, rfl, ha, ra⟩ := rep_of_tup r
    refine ⟨?_, by decide⟩
    rcases ha with ha | ⟨⟨o, its, n, e1, e2, _⟩, _⟩
    · exact .base (.tup ha.1)
    · exact .kTuple e1 e2
  | ref a =>
    cases r
    have h2 : (match M a with
      | some (.lst _) => some "list"
      | some (.dK _) => some "dict"
      | _ => none) = some n := h
    cases e : M a with
    | none => rw [e] at h2; cases h2
    | some mo =>
      rw [e] at h2
      cases mo with
      | lst ds =>
        cases h2
        obtain ⟨vs, ha, ra⟩ := mu_lst c e
        exact ⟨.base (.lst ha), by decide⟩
      | dK kvs =>
        cases h2
        obtain ⟨vs, ha, _, ra⟩ := mu_dK c e
        exact ⟨.base (.dK ha), by decide⟩
      | _ => cases h2
  | ty _ => cases h
  | scr _ => cases h
  | cl _ => cases h
  | exc _ _ _ _ _ => cases h
theorem cb_isi : CbD K gIsi (rIsi K) := fun M H xs vs Q0 Q c r h q => by
  match xs, h with
  | [d, .ty T], h =>
    obtain ⟨v, u, rfl, r1, r2⟩ := r.uncons
    obtain ⟨w, u, rfl, r3, r4⟩ := r2.uncons
    cases r4.unnil; cases r3
    have h2 : (match tyD M d with
      | some n => ["bool", "int", "str", "list", "tuple", "dict"].contains T = true ∧ Q0 (.bl (isaB n T)) M
      | none => False) := h
    cases e : tyD M d with
    | none => rw [e] at h2; exact h2.elim
    | some n =>
      rw [e] at h2
      obtain ⟨t1, t2⟩ := ty_rep c r1 e
      exact ⟨v, .ty T, .type n, .type T, _, rfl, .ty T, t1, kit_ty (kit_is t2 h2.1), q _ M _ H h2.2 rfl c (Stp.refl M H)⟩
end
theorem call_lenA {X : Cx} : CallR X (.builtin "len") (rLenA X.K) := call_len_seq.or (call_len_str.or call_lenD)
end DL
namespace DL
open PySem L2
abbrev DMt := D → List D → Mu → DK → Prop
def isTy (T : String) (M : Mu) : D → Prop
  | .str _ => T = "str"
  | .lst _ => T = "list"
  | .ref a => match M a with
    | some (.lst _) => T = "list"
    | some (.dK _) => T = "dict"
    | some (.dT _) => T = "dict"
    | _ => False
  | _ => False
def dMt (T : String) (g : DMt) (to : DTE) (ta : DTA) : DTE := fun τ M Q E => to τ M (fun d M1 => isTy T M1 d ∧ ta τ M1 (fun ds M2 => g d ds M2 Q) E) E
def dMt0 (T : String) (g : DMt) (to : DTE) : DTE := fun τ M Q E => to τ M (fun d M1 => isTy T M1 d ∧ g d [] M1 Q) E
def MtD (K : PySem.W.Frag) (g : DMt) (r : V → List V → Hp → VK → Prop) : Prop := ∀ (M : Mu) (H : Hp) (x : D) (v : V) (xs : List D) (vs : List V) (Q0 : DK) (Q : VK), Cor K M H → Rep K M H x v → Reps K M H xs vs → g x xs M Q0 →
  (∀ d M' z H', Q0 d M' → Rep K M' H' d z → Cor K M' H' → Stp M H M' H' → Q z H') → r v vs H Q
theorem isTy_rep {K : PySem.W.Frag} {M : Mu} {H : Hp} {T : String} {d : D} {v : V} (c : Cor K M H) (r : Rep K M H d v) (h : isTy T M d) : tyV K T v H := by
  cases d with
  | str x => cases r; exact h
  | lst ds =>
    obtain ⟨a, vs, rfl, ha, ma, ra⟩ := rep_of_lst r
    exact .inl ⟨h, vs, .inl (.inl ha)⟩
  | ref a =>
    cases r
    have h2 : (match M a with
      | some (.lst _) => T = "list"
      | some (.dK _) => T = "dict"
      | some (.dT _) => T = "dict"
      | _ => False) := h
    cases e : M a with
    | none => rw [e] at h2; exact h2.elim
    | some mo =>
      rw [e] at h2
      cases mo with
      | lst ds =>
        obtain ⟨vs, ha, ra⟩ := mu_lst c e
        exact .inl ⟨h2, vs, .inl (.inl ha)⟩
      | dK kvs =>
        obtain ⟨ks, ha, _, ra⟩ := mu_dK c e
        exact .inr (.inr (.inl ⟨h2, .inl ⟨ks, ha⟩⟩))
      | dT kvs =>
        obtain ⟨o, e1, ks, e2, _⟩ := c _ _ e
        subst e2
        exact .inr (.inr (.inl ⟨h2, .inr ⟨ks, e1⟩⟩))
      | _ => exact h2.elim
  | _ => exact h.elim
section
variable {X : Cx} {W : WX} {a b c e o : Expr} {rest es : List Expr} {ta tb tc te to : DTE} {tl : DTA} {pos apos cpos p : Pos} {name : Str} {id T : String} {g : DMt} {r : V → List V → Hp → VK → Prop}
theorem de_mt (pa : PlainAttrs T) (slot : Slot T name id) (hty : typeOf (.builtin id) = pure (.type "method_descriptor")) (k : MtD X.K g r) (hm : MtR X id r) (ho : DE X W o to) (ha : DA X W (e :: es) tl)
    (hbase : attributeBase o name X.env (eval o X.env) = eval o X.env := by rfl)
    (hfew : ((backTo cpos (starEach (e :: es) X.env)).all (fun x => !x.1) && (backToKw cpos (keywordEach [] X.env)).all (fun x => x.1.isSome)
      && decide ((e :: es).length + ([] : List Keyword).length + (if ([] : List Keyword).isEmpty then 0 else 1) < 30)) = true := by rfl)
    (hline : (apos.endLine == cpos.line) = true := by rfl) (hs : starEach (e :: es) X.env = (false, eval e X.env) :: starEach es X.env := by rfl) (hplain : (backTo cpos (starEach es X.env)).any (·.1) = false := by rfl) :
    DE X W (.Call (.Attribute o name apos) (e :: es) [] cpos) (dMt T g to tl) :=
  PE.of (pe_bm pa slot hty hm ho ha hbase hfew hline hs hplain) fun σ H Q ⟨τ, M, Q0, E0, S, h⟩ => S.sub h fun d M1 v H1 h1 r1 S1 s1 =>
    ⟨isTy_rep S1.co r1 h1.1, S1.sub h1.2 fun ds M2 vs H2 h2 r2 S2 s2 => k M2 H2 d v ds vs Q0 Q S2.co (r1.stp s2) r2 h2 S2.q⟩
theorem de_mt0 (pa : PlainAttrs T) (slot : Slot T name id) (hty : typeOf (.builtin id) = pure (.type "method_descriptor")) (k : MtD X.K g r) (hm : MtR X id r) (ho : DE X W o to)
    (hbase : attributeBase o name X.env (eval o X.env) = eval o X.env := by rfl) (hline : (apos.endLine == cpos.line) = true := by rfl) : DE X W (.Call (.Attribute o name apos) [] [] cpos) (dMt0 T g to) :=
  PE.of (pe_bm0 pa slot hty hm ho hbase hline) fun σ H Q ⟨τ, M, Q0, E0, S, h⟩ => S.sub h fun d M1 v H1 h1 r1 S1 s1 =>
    ⟨isTy_rep S1.co r1 h1.1, k M1 H1 d v [] [] Q0 Q S1.co r1 .nil h1.2 S1.q⟩
end
def gAppend : DMt := fun x xs M Q => match x, xs with
  | .ref a, [y] => (match M a with
    | some (.lst ds) => ds.length < 16777216 ∧ Q .non (put M a (.lst (ds ++ [y])))
    | _ => False)
  | _, _ => False
def joinT (s : Tx) : List Tx → Tx := TL.joinL s
def gJoin : DMt := fun x xs M Q => match x, xs with
  | .str s, [.lst ds] => ∃ ys : List Tx, ds = ys.map D.str ∧ (ys.map (·.length)).sum + ys.length * s.length ≤ 16777216 ∧ Q (.str (joinT s ys)) M
  | .str s, [.tup ds] => ∃ ys : List Tx, ds = ys.map D.str ∧ (ys.map (·.length)).sum + ys.length * s.length ≤ 16777216 ∧ Q (.str (joinT s ys)) M
  | .str s, [.ref a] => (match M a with
    | some (.lst ds) => ∃ ys : List Tx, ds = ys.map D.str ∧ (ys.map (·.length)).sum + ys.length * s.length ≤ 16777216 ∧ Q (.str (joinT s ys)) M
    | _ => False)
  | _, _ => False
def gStarts : DMt := fun x xs M Q => match x, xs with
  | .str a, [.str b] => Q (.bl (b.isPrefixOf a)) M
  | _, _ => False
section
variable {K : PySem.W.Frag}
theorem md_append : MtD K gAppend rAppend := fun M H x v xs vs Q0 Q c rx r h q => by
  match x, xs, h with
  | .ref a, [y], h =>
    obtain ⟨u, us, rfl, r1, r2⟩ := r.uncons
    cases r2.unnil; cases rx
    have h2 : (match M a with
      | some (.lst ds) => ds.length < 16777216 ∧ Q0 .non (put M a (.lst (ds ++ [y])))
      | _ => False) := h
    cases e : M a with
    | none => rw [e] at h2; exact h2.elim
    | some mo =>
      rw [e] at h2
      cases mo with
      | lst ds =>
        obtain ⟨vs, ha, ra⟩ := mu_lst c e
        exact ⟨a, vs, u, rfl, rfl, ha, by rw [ra.length, line24]; exact h2.1, q _ _ _ _ h2.2 rfl (c.write e ⟨_, rfl, ra.snoc r1⟩) (Stp.write e)⟩
      | _ => exact h2.elim
theorem tl_sx (t : Tx) : TL.tl (sx t) = t := T_sx t
theorem join_sx (s : Tx) (ys : List Tx) : PySem.Txt.join (sx s) (ys.map sx) = sx (joinT s ys) := by
  refine TL.ext_tl ?_
  rw [tl_sx, TL.join_eq]
  refine (TL.tl_join (sx s) (ys.map sx)).trans ?_
  rw [tl_sx, List.map_map]
  have : (TL.tl ∘ sx) = (id : Tx → Tx) := funext fun t => tl_sx t
  rw [this, List.map_id]
  rfl
theorem md_join : MtD K gJoin (fun x xs H Q => ∃ a p, ∃ ys : List Str, x = .str a ∧ xs = [.ref p] ∧ (SqL K H p (ys.map V.str) ∨ SqT K H p (ys.map V.str)) ∧
    (ys.map (·.length)).sum + ys.length * a.length ≤ 16777216 ∧ Q (.str (PySem.Txt.join a ys)) H) := fun M H x v xs vs Q0 Q c rx r h q => by
  have fin : ∀ {s : Tx} {p : Addr} {ds : List D} {vs : List V}, (SqL K H p vs ∨ SqT K H p vs) → Reps K M H ds vs → (∃ ys : List Tx, ds = ys.map D.str ∧ (ys.map (·.length)).sum + ys.length * s.length ≤ 16777216 ∧ Q0 (.str (joinT s ys)) M) →
      ∃ a p', ∃ ys : List Str, V.str (sx s) = .str a ∧ [V.ref p] = [.ref p'] ∧ (SqL K H p' (ys.map V.str) ∨ SqT K H p' (ys.map V.str)) ∧ (ys.map (·.length)).sum + ys.length * a.length ≤ 16777216 ∧ Q (.str (PySem.Txt.join a ys)) H :=
    fun {s p ds vs} sq ra ⟨ys, e, hz, z⟩ => by
      subst e
      have e := ra.strs
      subst e
      refine ⟨sx s, p, ys.map sx, rfl, rfl, sq, ?_, ?_⟩
      · rw [List.map_map, List.length_map, sx_len]
        have : ((fun x : Str => x.length) ∘ sx) = fun t : Tx => t.length := funext fun t => sx_len t
        rw [this]
        exact hz
      · rw [join_sx]
        exact q _ M _ H z rfl c (Stp.refl M H)
  match x, xs, h with
  | .str s, [.lst ds], h =>
    obtain ⟨u, us, rfl, r1, r2⟩ := r.uncons
    cases r2.unnil; cases rx
    obtain ⟨a, vs, rfl, ha, ma, ra⟩ := rep_of_lst r1
    exact fin (.inl (.inl (.inl ha))) ra h
  | .str s, [.tup ds], h =>
    obtain ⟨u, us, rfl, r1, r2⟩ := r.uncons
    cases r2.unnil; cases rx
    obtain ⟨a, vs, rfl, ha, ra⟩ := rep_of_tup r1
    exact fin (.inr (sqT_of ha)) ra h
  | .str s, [.ref a], h =>
    obtain ⟨u, us, rfl, r1, r2⟩ := r.uncons
    cases r2.unnil; cases rx; cases r1
    have h2 : (match M a with
      | some (.lst ds) => ∃ ys : List Tx, ds = ys.map D.str ∧ (ys.map (·.length)).sum + ys.length * s.length ≤ 16777216 ∧ Q0 (.str (joinT s ys)) M
      | _ => False) := h
    cases e : M a with
    | none => rw [e] at h2; exact h2.elim
    | some mo =>
      rw [e] at h2
      cases mo with
      | lst ds =>
        obtain ⟨vs, ha, ra⟩ := mu_lst c e
        exact fin (.inl (.inl (.inl ha))) ra h2
      | _ => exact h2.elim
end
end DL
namespace DL
open PySem L2
structure DEnds where
  nx : DSt → Mu → Prop
  rt : DK
  bk : DSt → Mu → Prop := fun _ _ => False
  ct : DSt → Mu → Prop := fun _ _ => False
  xc : XD → DSt → Mu → Prop := fun _ _ _ => False
abbrev DTS := DEnds → DSt → Mu → Prop
structure SitS (K : PySem.W.Frag) (W : WX) (τ : DSt) (M : Mu) (σ : L2.St) (H : Hp) (D0 : DEnds) (D1 : Ends) : Prop where
  rs : RepS K M H τ σ
  co : Cor K M H
  nx : ∀ τ' M' σ' H', D0.nx τ' M' → RepS K M' H' τ' σ' → Cor K M' H' → Stp M H M' H' → D1.nx σ' H'
  rt : ∀ d M' v H', D0.rt d M' → Rep K M' H' d v → Cor K M' H' → Stp M H M' H' → D1.rt v H'
  bk : ∀ τ' M' σ' H', D0.bk τ' M' → RepS K M' H' τ' σ' → Cor K M' H' → Stp M H M' H' → D1.bk σ' H'
  ct : ∀ τ' M' σ' H', D0.ct τ' M' → RepS K M' H' τ' σ' → Cor K M' H' → Stp M H M' H' → D1.ct σ' H'
  xc : ∀ x τ' M' c d σ' H', D0.xc x τ' M' → RepX K M' H' x c d → RepS K M' H' τ' σ' → Cor K M' H' → Stp M H M' H' → W c d σ' H'
def lifS (K : PySem.W.Frag) (W : WX) (t : DTS) : TS := fun D1 σ H => ∃ τ M D0, SitS K W τ M σ H D0 D1 ∧ t D0 τ M
abbrev DS (X : Cx) (W : WX) (st : Stmt) (t : DTS) : Prop := PS X st (lifS X.K W t)
abbrev DSs (X : Cx) (W : WX) (st : List Stmt) (t : DTS) : Prop := PSs X st (lifS X.K W t)
section
variable {K : PySem.W.Frag} {W : WX} {τ : DSt} {M M1 : Mu} {σ σ1 : L2.St} {H H1 : Hp} {D0 : DEnds} {D1 : Ends}
theorem SitS.go (S : SitS K W τ M σ H D0 D1) {τ1 : DSt} (r : RepS K M1 H1 τ1 σ1) (c : Cor K M1 H1) (s : Stp M H M1 H1) : SitS K W τ1 M1 σ1 H1 D0 D1 :=
  ⟨r, c, fun a b c d h r' c' s' => S.nx a b c d h r' c' (s.trans s'), fun a b c d h r' c' s' => S.rt a b c d h r' c' (s.trans s'), fun a b c d h r' c' s' => S.bk a b c d h r' c' (s.trans s'),
    fun a b c d h r' c' s' => S.ct a b c d h r' c' (s.trans s'), fun x a b c d e f h r' r2 c' s' => S.xc x a b c d e f h r' r2 c' (s.trans s')⟩
abbrev DEnds.ex (D0 : DEnds) (τ : DSt) : DX := fun x M => D0.xc x τ M
theorem SitS.sub (S : SitS K W τ M σ H D0 D1) {γ δ : Type} {R1 : Mu → Hp → γ → δ → Prop} {t : DR γ} {G : γ → Mu → Prop} {Q1 : δ → Hp → Prop} (h : t τ M G (D0.ex τ))
    (k : ∀ d M1 v H1, G d M1 → R1 M1 H1 d v → SitS K W τ M1 σ H1 D0 D1 → Stp M H M1 H1 → Q1 v H1) : lif K W R1 t σ H Q1 :=
  ⟨τ, M, G, D0.ex τ, ⟨S.rs, S.co, fun d M' v H' g r c s => k d M' v H' g r (S.go (S.rs.stp s) c s) s, fun x M' c d H' h r c' s => S.xc x τ M' c d σ H' h r (S.rs.stp s) c' s⟩, h⟩
theorem SitS.next (S : SitS K W τ M σ H D0 D1) (h : D0.nx τ M) : D1.nx σ H := S.nx τ M σ H h S.rs S.co (Stp.refl M H)
end
abbrev DTG := D → DSt → Mu → (DSt → Mu → Prop) → DX → Prop
abbrev DTGs := List D → DSt → Mu → (DSt → Mu → Prop) → DX → Prop
structure SitG (K : PySem.W.Frag) (W : WX) (τ : DSt) (M : Mu) (σ : L2.St) (H : Hp) (Q0 : DSt → Mu → Prop) (E0 : DX) (Q : L2.St → Hp → Prop) : Prop where
  rs : RepS K M H τ σ
  co : Cor K M H
  q : ∀ τ' M' σ' H', Q0 τ' M' → RepS K M' H' τ' σ' → Cor K M' H' → Stp M H M' H' → Q σ' H'
  e : ∀ x M' c d H', E0 x M' → RepX K M' H' x c d → Cor K M' H' → Stp M H M' H' → W c d σ H'
def lifG (K : PySem.W.Frag) (W : WX) (g : DTG) : TG := fun v σ H Q => ∃ d τ M Q0 E0, Rep K M H d v ∧ SitG K W τ M σ H Q0 E0 Q ∧ g d τ M Q0 E0
def lifGs (K : PySem.W.Frag) (W : WX) (g : DTGs) : TGs := fun vs σ H Q => ∃ ds τ M Q0, Reps K M H ds vs ∧ SitG K W τ M σ H Q0 (fun _ _ => False) Q ∧ g ds τ M Q0 (fun _ _ => False)
abbrev DG (X : Cx) (W : WX) (tg : Expr) (g : DTG) : Prop := PG X tg (lifG X.K W g)
abbrev DGs (X : Cx) (W : WX) (tg : List Expr) (g : DTGs) : Prop := PGs X tg (lifGs X.K W g)
theorem PG.of {X : Cx} {e : Expr} {t t0 : TG} (h : PG X e t0) (k : ∀ v σ H Q, t v σ H Q → t0 v σ H Q) : PG X e t := ⟨fun pins s σ H v u Q I r q => h.run pins s σ H v u Q I r (k v σ H Q q)⟩
theorem PGs.of {X : Cx} {e : List Expr} {t t0 : TGs} (h : PGs X e t0) (k : ∀ v σ H Q, t v σ H Q → t0 v σ H Q) : PGs X e t := ⟨fun pins s σ H v u Q I r q => h.run pins s σ H v u Q I r (k v σ H Q q)⟩
def dgName (i : Nat) : DTG := fun d τ M Q _ => Q (τ.set i (some d)) M
def dgNil : DTGs := fun ds τ M Q _ => match ds with
  | [] => Q τ M
  | _ => False
def dgCons (i : Nat) (u : DTGs) : DTGs := fun ds τ M Q E => match ds with
  | d :: r => u r (τ.set i (some d)) M Q E
  | _ => False
def dgTup (n : Nat) (u : DTGs) : DTG := fun d τ M Q _ => match d with
  | .tup ds => ds.length = n ∧ u ds τ M Q (fun _ _ => False)
  | _ => False
def dgLst (n : Nat) (u : DTGs) : DTG := fun d τ M Q _ => match d with
  | .lst ds => ds.length = n ∧ u ds τ M Q (fun _ _ => False)
  | _ => False
abbrev DSet := D → D → D → Mu → (Mu → Prop) → Prop
def dgSub (to ti : DTE) (g : DSet) : DTG := fun d τ M Q E => to τ M (fun o M1 => ti τ M1 (fun i M2 => g o i d M2 (fun M3 => Q τ M3)) E) E
section
variable {X : Cx} {W : WX} {a b c e o i : Expr} {rest es : List Expr} {ta tb tc te to ti : DTE} {tl : DTA} {tt : DTT} {pos apos cpos p : Pos} {x : Str}
theorem SitG.sub {K : PySem.W.Frag} {τ : DSt} {M : Mu} {σ : L2.St} {H : Hp} {Q0 : DSt → Mu → Prop} {E0 : DX} {Q : L2.St → Hp → Prop} (S : SitG K W τ M σ H Q0 E0 Q) {γ δ : Type} {R1 : Mu → Hp → γ → δ → Prop} {t : DR γ} {G : γ → Mu → Prop} {Q1 : δ → Hp → Prop} (h : t τ M G E0)
    (k : ∀ d M1 v H1, G d M1 → R1 M1 H1 d v → SitG K W τ M1 σ H1 Q0 E0 Q → Stp M H M1 H1 → Q1 v H1) : lif K W R1 t σ H Q1 :=
  ⟨τ, M, G, E0, ⟨S.rs, S.co, fun d M' v H' g r c s => k d M' v H' g r ⟨S.rs.stp s, c, fun a b c d h r' c' s' => S.q a b c d h r' c' (s.trans s'), fun x M' c d H' h r c' s' => S.e x M' c d H' h r c' (s.trans s')⟩ s, S.e⟩, h⟩
theorem dg_name (j : Nat) (hN : X.N.Nodup) (hi : X.N[j]? = some x := by rfl) (hx : Loc X.env.scope x := by first | exact .inl rfl | exact .inr rfl) (hf : X.fn x = true ∨ X.env.scope.names.lookup x = some .local := by first | exact .inl rfl | exact .inr rfl) : DG X W (.Name x pos) (dgName j) :=
  PG.of (pg_name hN hi hx hf) fun v σ H Q ⟨d, τ, M, Q0, E0, r, S, h⟩ => S.q _ M _ H h (S.rs.set r j) S.co (Stp.refl M H)
theorem dgs_nil : DGs X W [] dgNil := PGs.of pgs_nil fun vs σ H Q ⟨ds, τ, M, Q0, r, S, h⟩ => by
  cases ds with
  | nil => exact ⟨r.unnil, S.q _ M _ H h S.rs S.co (Stp.refl M H)⟩
  | cons d r => exact h.elim
theorem dgs_cons (j : Nat) {u : DTGs} (hN : X.N.Nodup) (h2 : DGs X W es u) (hi : X.N[j]? = some x := by rfl) (hx : Loc X.env.scope x := by first | exact .inl rfl | exact .inr rfl) (hf : X.fn x = true ∨ X.env.scope.names.lookup x = some .local := by first | exact .inl rfl | exact .inr rfl)
    (hs : (assignEach (.Name x pos :: es) X.env).map (·.2) = assign (.Name x pos) X.env :: (assignEach es X.env).map (·.2) := by rfl) : DGs X W (.Name x pos :: es) (dgCons j u) :=
  PGs.of (pgs_cons (pg_name hN hi hx hf) h2 hs) fun vs σ H Q ⟨ds, τ, M, Q0, r, S, h⟩ => by
    cases ds with
    | nil => exact h.elim
    | cons d ds =>
      obtain ⟨v, us, rfl, r1, r2⟩ := r.uncons
      exact ⟨v, us, rfl, ds, τ.set j (some d), M, Q0, r2, ⟨S.rs.set r1 j, S.co, S.q, fun _ _ _ _ _ h => h.elim⟩, h⟩
theorem dg_tup {k n : Nat} {u : DTGs} (G : Gd X W) (h : DGs X W es u) (hn : (assignEach es X.env).length = n := by rfl) (hst : (assignEach es X.env).findIdx? (·.1) = none := by rfl) : DG X W (.Tuple es k pos) (dgTup n u) :=
  PG.of (pg_tup G.calm h hn hst) fun v σ H Q ⟨d, τ, M, Q0, E0, r, S, h⟩ => by
    cases d with
    | tup ds =>
      obtain ⟨a, vs, rfl, ha, ra⟩ := rep_of_tup r
      exact ⟨a, vs, rfl, sqT_of ha, by rw [ra.length]; exact h.1, ds, τ, M, Q0, ra, ⟨S.rs, S.co, S.q, fun _ _ _ _ _ h => h.elim⟩, h.2⟩
    | _ => exact h.elim
def dPass : DTS := fun D τ M => D.nx τ M
def dSeq (t u : DTS) : DTS := fun D τ M => t { D with nx := u D } τ M
def dSet (i : Nat) (te : DTE) : DTS := fun D τ M => te τ M (fun d M1 => D.nx (τ.set i (some d)) M1) (D.ex τ)
def dAsg (te : DTE) (g : DTG) : DTS := fun D τ M => te τ M (fun d M1 => g d τ M1 D.nx (D.ex τ)) (D.ex τ)
def dDrop (te : DTE) : DTS := fun D τ M => te τ M (fun _ M1 => D.nx τ M1) (D.ex τ)
def dRet (te : DTE) : DTS := fun D τ M => te τ M D.rt (D.ex τ)
def dRetN : DTS := fun D _ M => D.rt .non M
def dIfS (c : DTT) (t u : DTS) : DTS := fun D τ M => c τ M (fun b M1 => if b = true then t D τ M1 else u D τ M1) (D.ex τ)
def dBrk : DTS := fun D τ M => D.bk τ M
def dCnt : DTS := fun D τ M => D.ct τ M
variable {st : Stmt} {sts : List Stmt} {t u : DTS}
theorem dss_nil : DSs X W [] dPass := PSs.of pss_nil fun D1 σ H ⟨τ, M, D0, S, h⟩ => S.next h
theorem dss_cons (h1 : DS X W st t) (h2 : DSs X W sts u) : DSs X W (st :: sts) (dSeq t u) := PSs.of (pss_cons h1 h2) fun D1 σ H ⟨τ, M, D0, S, h⟩ =>
  ⟨τ, M, { D0 with nx := u D0 }, ⟨S.rs, S.co, fun τ' M' σ' H' h r c s => ⟨τ', M', D0, S.go r c s, h⟩, S.rt, S.bk, S.ct, S.xc⟩, h⟩
theorem dss_one (h1 : DS X W st t) : DSs X W [st] t := pss_one h1
theorem ds_expr (he : DE X W e te) (hs : swapsWith e none pos.line X.env = pure false := by rfl) : DS X W (.Expr e pos) (dDrop te) := PS.of (ps_expr he hs) fun D1 σ H ⟨τ, M, D0, S, h⟩ =>
  S.sub h fun d M1 v H1 h1 r1 S1 s1 => S1.next h1
theorem ds_ret (he : DE X W e te) : DS X W (.Return (some e) pos) (dRet te) := PS.of (ps_ret he) fun D1 σ H ⟨τ, M, D0, S, h⟩ => S.sub h fun d M1 v H1 h1 r1 S1 s1 => S1.rt d M1 v H1 h1 r1 S1.co (Stp.refl M1 H1)
theorem ds_set (j : Nat) {pos' : Pos} (G : Gd X W) (he : DE X W e te) (hi : X.N[j]? = some x := by rfl) (hx : Loc X.env.scope x := by first | exact .inl rfl | exact .inr rfl)
    (hs : swapsWith e (some (.Name x pos')) pos.line X.env = pure false := by rfl) (hf : X.fn x = true ∨ X.env.scope.names.lookup x = some .local := by first | exact .inl rfl | exact .inr rfl) : DS X W (.Assign [.Name x pos'] e pos) (dSet j te) :=
  PS.of (ps_set G.nd hi hx he hs hf) fun D1 σ H ⟨τ, M, D0, S, h⟩ => S.sub h fun d M1 v H1 h1 r1 S1 s1 => S1.nx _ M1 _ H1 h1 (S1.rs.set r1 j) S1.co (Stp.refl M1 H1)
theorem ds_asg {tg : Expr} {g : DTG} (he : DE X W e te) (hg : DG X W tg g) (hs : swapsWithSole [tg] e pos.line X.env = pure false := by rfl) (hw : swappedStores [tg] e X.env = pure none := by rfl)
    (h1 : (assignEach [tg] X.env).map (·.2) = [assign tg X.env] := by rfl) : DS X W (.Assign [tg] e pos) (dAsg te g) :=
  PS.of (ps_asg he hg hs hw h1) fun D1 σ H ⟨τ, M, D0, S, h⟩ => S.sub h fun d M1 v H1 h1 r1 S1 s1 =>
    ⟨d, τ, M1, D0.nx, D0.ex τ, r1, ⟨S1.rs, S1.co, S1.nx, fun x M' c d H' h r c' s' => S1.xc x τ M' c d σ H' h r (S1.rs.stp s') c' s'⟩, h1⟩
theorem ds_if {sa sb : List Stmt} (hc : DT X W c tt) (ha : DSs X W sa t) (hb : DSs X W sb u) : DS X W (.If c sa sb pos) (dIfS tt t u) :=
  PS.of (ps_if hc ha hb) fun D1 σ H ⟨τ, M, D0, S, h⟩ => S.sub h fun d M1 v H1 h1 r1 S1 s1 => by
    cases r1
    cases d with
    | true => exact ⟨τ, M1, D0, S1, h1⟩
    | false => exact ⟨τ, M1, D0, S1, h1⟩
def ItOk (K : PySem.W.Frag) (M : Mu) (H : Hp) (ds : List D) (J : It) : Prop := ∀ M' H', Stp M H M' H' → Cor K M' H' →
  (∀ i, ds.length ≤ i → J.stop i H') ∧ (∀ i, i < ds.length → J.go i H') ∧ ∀ i d v H2, ds[i]? = some d → J.yld i H' v H2 → Rep K M' H2 d v ∧ Cor K M' H2 ∧ Stp M' H' M' H2
abbrev DTI := DR (List D)
abbrev DI (X : Cx) (W : WX) (tg iter : Expr) (ti : DTI) : Prop := PI X tg iter (lif X.K W (ItOk X.K) ti)
theorem PI.of {X : Cx} {tg e : Expr} {t t0 : TI} (h : PI X tg e t0) (k : ∀ σ H R, t σ H R → t0 σ H R) : PI X tg e t := ⟨fun pins s σ H R I q => h.run pins s σ H R I (k σ H R q)⟩
def wFor (g : DTG) (tb : DTS) (D0 : DEnds) : List D → DSt → Mu → Prop
  | [], τ, M => D0.nx τ M
  | d :: ds, τ, M => g d τ M (fun τ1 M1 => tb { D0 with nx := wFor g tb D0 ds, ct := wFor g tb D0 ds, bk := D0.nx } τ1 M1) (D0.ex τ)
def dFor (ti : DTI) (g : DTG) (tb : DTS) : DTS := fun D0 τ M => ti τ M (fun ds M1 => wFor g tb D0 ds τ M1) (D0.ex τ)
theorem ds_for {tg iter : Expr} {body : List Stmt} {ti : DTI} {g : DTG} {tb : DTS} (G : Gd X W) (hi : DI X W tg iter ti) (hg : DG X W tg g) (hb : DSs X W body tb) (hs : ∀ x, foldedSetIterable iter X.env x = pure x := by intro _; rfl) :
    DS X W (.For tg iter body [] pos) (dFor ti g tb) :=
  PS.of (ps_for G.own G.calm hi hg hb hs) fun D1 σ H ⟨τ, M, D0, S, h⟩ => S.sub h fun ds M1 J H1 h1 r1 S1 s1 => by
    refine ⟨fun i m σ2 H2 => m = ds.length - i ∧ i ≤ ds.length ∧ ∃ τ2 M2, Stp M1 H1 M2 H2 ∧ SitS X.K W τ2 M2 σ2 H2 D0 D1 ∧ wFor g tb D0 (ds.drop i) τ2 M2, ⟨ds.length, rfl, Nat.zero_le _, τ, M1, Stp.refl M1 H1, S1, h1⟩, ?_⟩
    rintro i m σ2 H2 ⟨rfl, hi, τ2, M2, s2, S2, h2⟩
    obtain ⟨k1, k2, k3⟩ := r1 M2 H2 s2 S2.co
    by_cases hlt : i < ds.length
    · have e : ds.drop i = ds[i] :: ds.drop (i + 1) := List.drop_eq_getElem_cons hlt
      rw [e] at h2
      refine .inr ⟨k2 i hlt, fun σ3 H3 => ∃ τ3 M3, Stp M1 H1 M3 H3 ∧ SitS X.K W τ3 M3 σ3 H3 D0 D1 ∧ wFor g tb D0 (ds.drop (i + 1)) τ3 M3, fun σ3 H3 q => ⟨ds.length - (i + 1), by omega, rfl, hlt, q⟩, fun x H3 y => ?_⟩
      obtain ⟨y1, y2, y3⟩ := k3 i ds[i] x H3 (List.getElem?_eq_getElem hlt) y
      have S3 := S2.go (S2.rs.stp y3) y2 y3
      refine ⟨ds[i], τ2, M2, _, D0.ex τ2, y1, ⟨S3.rs, S3.co, fun τ4 M4 σ4 H4 h4 r4 c4 s4 => ?_, fun x M' c d H' h r c' s' => S3.xc x τ2 M' c d σ2 H' h r (S3.rs.stp s') c' s'⟩, h2⟩
      have S4 := S3.go r4 c4 s4
      exact ⟨τ4, M4, { D0 with nx := wFor g tb D0 (ds.drop (i + 1)), ct := wFor g tb D0 (ds.drop (i + 1)), bk := D0.nx }, ⟨S4.rs, S4.co, fun a b c d h r c' s => ⟨a, b, (s2.trans (y3.trans s4)).trans s, S4.go r c' s, h⟩, S4.rt, S4.nx, fun a b c d h r c' s => ⟨a, b, (s2.trans (y3.trans s4)).trans s, S4.go r c' s, h⟩, S4.xc⟩, h4⟩
    · have e : i = ds.length := by omega
      rw [e, List.drop_length] at h2
      exact .inl ⟨k1 i (by omega), S2.next h2⟩
def upTo (lo : Int) (n : Nat) : List D := (List.range n).map fun i : Nat => D.int (lo + i)
def diRng1 (ta : DTA) : DTI := fun τ M Q E => ta τ M (fun ds M1 => match ds with
  | [.int j] => -(2 ^ 62) ≤ j ∧ j < 2 ^ 62 ∧ Q (upTo 0 j.toNat) M1
  | _ => False) E
def diRng2 (ta : DTA) : DTI := fun τ M Q E => ta τ M (fun ds M1 => match ds with
  | [.int i, .int j] => (-(2 ^ 62) ≤ i ∧ i < 2 ^ 62 ∧ -(2 ^ 62) ≤ j ∧ j < 2 ^ 62) ∧ Q (upTo i (j - i).toNat) M1
  | _ => False) E
theorem upTo_len (lo : Int) (n : Nat) : (upTo lo n).length = n := by simp [upTo]
theorem upTo_get {lo : Int} {n i : Nat} {d : D} (h : (upTo lo n)[i]? = some d) : d = .int (lo + i) := by
  unfold upTo at h
  rw [List.getElem?_map] at h
  cases e : (List.range n)[i]? with
  | none => rw [e] at h; cases h
  | some j =>
    rw [e] at h
    have := List.getElem?_range (n := n) (i := i)
    cases h
    have hl : i < n := by
      have := (List.getElem?_eq_some_iff.mp e).1
      simpa using this
    rw [List.getElem?_range hl] at e
    cases e
    rfl
theorem it_rng {K : PySem.W.Frag} {M : Mu} {H : Hp} (lo : Int) (n : Nat) : ItOk K M H (upTo lo n) (Itr lo n) := fun M' H' s c => by
  refine ⟨fun i h => by rw [upTo_len] at h; exact h, fun i h => by rw [upTo_len] at h; exact h, fun i d v H2 h y => ?_⟩
  obtain ⟨rfl, rfl⟩ := y
  rw [upTo_get h]
  exact ⟨rfl, c, Stp.refl M' _⟩
theorem it_lst {K : PySem.W.Frag} {M : Mu} {H : Hp} {a : Addr} {ds : List D} {vs : List V} (ha : H a = some (.lst vs)) (ma : M a = none) (ra : Reps K M H ds vs) : ItOk K M H ds (Itl K a) := fun M' H' s c => by
  have q : SqL K H' a vs := .inl (.inl (s a _ ha ma).1)
  have r := ra.stp s
  refine ⟨fun i h => ⟨vs, q, by rw [ra.length]; exact h⟩, fun i h => ?_, fun i d v H2 h y => ?_⟩
  · obtain ⟨v, h1, _⟩ := r.get (List.getElem?_eq_getElem h)
    exact ⟨vs, v, q, h1⟩
  · obtain ⟨rfl, y⟩ := y
    obtain ⟨u, h1, h2⟩ := r.get h
    have := y vs q
    rw [h1] at this
    cases this
    exact ⟨h2, c, Stp.refl M' _⟩
theorem it_tup {K : PySem.W.Frag} {M : Mu} {H : Hp} {a : Addr} {ds : List D} {vs : List V} (ha : (H a = some (.tup vs) ∧ M a = none) ∨ WrN K a vs) (ra : Reps K M H ds vs) : ItOk K M H ds (Itt K a) := fun M' H' s c => by
  have q : SqT K H' a vs := ha.elim (fun z => .inl (.inl (s a _ z.1 z.2).1)) fun z => .inr z.1
  have r := ra.stp s
  refine ⟨fun i h => ⟨vs, q, by rw [ra.length]; exact h⟩, fun i h => ?_, fun i d v H2 h y => ?_⟩
  · obtain ⟨v, h1, _⟩ := r.get (List.getElem?_eq_getElem h)
    exact ⟨vs, v, q, h1⟩
  · obtain ⟨rfl, y⟩ := y
    obtain ⟨u, h1, h2⟩ := r.get h
    have := y vs q
    rw [h1] at this
    cases this
    exact ⟨h2, c, Stp.refl M' _⟩
theorem it_str {K : PySem.W.Frag} {M : Mu} {H : Hp} (x : Tx) : ItOk K M H (x.map fun c => D.str [c]) (Its (sx x)) := fun M' H' s c => by
  have e : (sx x).cps.size = x.length := by simp [sx]
  refine ⟨fun i h => by show (sx x).cps.size ≤ i; rw [e]; simpa using h, fun i h => by show i < (sx x).cps.size; rw [e]; simpa using h, fun i d v H2 h y => ?_⟩
  obtain ⟨rfl, k, hk, rfl⟩ := y
  rw [List.getElem?_map] at h
  have e2 : x[i]? = some k := by simpa [sx] using hk
  rw [e2] at h
  cases h
  exact ⟨rfl, c, Stp.refl M' _⟩
theorem di_rng1 {tg : Expr} (hm : X.mg "range" = none) (ha : DA X W [a] tl) (hg : Gl X "range" := by rfl) (hs : starEach [a] X.env = [(false, eval a X.env)] := by rfl) : DI X W tg (.Call (.Name "range" p) [a] [] pos) (diRng1 tl) :=
  PI.of (pi_range1 hg hm ha hs) fun σ H R ⟨τ, M, Q0, E0, S, h⟩ => S.sub h fun ds M1 vs H1 h1 r1 S1 s1 => by
    match ds, h1 with
    | [.int j], h1 =>
      obtain ⟨v, u, rfl, r2, r3⟩ := r1.uncons
      cases r3.unnil; cases r2
      exact ⟨j, rfl, h1.1, h1.2.1, S1.end_ h1.2.2 (it_rng 0 _)⟩
end
theorem def_ok {P : Program} {w : World} {K : PySem.W.Frag} {mg : Str → Option Value} {base : Heap} {x qual : Str} {st : Stmt} {f : Addr} {fd : FuncData} {N ps : List Str} {k : Nat} {sp : DSp} {t : DTS}
    (F : FunD K x qual (defArgs st) (defBody st) (defScope st) [] [] f fd) (S : FnScope N ps (defScope st)) (len : ∀ ds M Q E, sp ds M Q E → ds.length = ps.length)
    (hd : ∀ (cdv : Value) (A : Around) (outer : List Env) (s : Shared) (H : Hp) (E : XK), Gd (cxOf (L2N.CX P w) P w K mg base N qual (defScope st) f cdv A outer s H E) (fun c d _ H => E c d H) → Room k (cxOf (L2N.CX P w) P w K mg base N qual (defScope st) f cdv A outer s H E).A →
      DSs (cxOf (L2N.CX P w) P w K mg base N qual (defScope st) f cdv A outer s H E) (fun c d _ H => E c d H) (defBody st) t)
    (hp : ∀ ds M Q E, sp ds M Q E → t { nx := fun _ M' => Q .non M', rt := Q, xc := fun x _ M' => E x M' } (ds.map some ++ List.replicate (N.length - ps.length) none) M) :
    FnOk P w K mg base (L2N.CX P w) (k + 1) f fd ps (lsp K sp) := by
  refine F.ok S (fun vs H Q E h => ?_) (fun cdv A outer s H vs Q E hr h => ?_)
  · obtain ⟨ds, M, Q0, E0, r, c, h, _⟩ := h
    rw [r.length]
    exact len ds M Q0 E0 h
  · obtain ⟨ds, M, Q0, E0, r, c, h, hq, he⟩ := h
    have hl := len ds M Q0 E0 h
    refine ⟨lifS K (fun c d _ H => E c d H) t, ?_, ?_⟩
    · refine hd cdv A outer s H E ?_ hr
      exact ⟨rfl, L2N.takes_of rfl rfl rfl rfl, by have := hr.un; show A.units + 3 + 64 < cLine; have e : (A.deeper (PyProof.Rows.envOfC qual (defScope st) s.heap.objs.size f cdv)).units = A.units + 3 := rfl; omega, passes_of rfl, S.nd⟩
    · refine ⟨_, M, { nx := fun _ M' => Q0 .non M', rt := Q0, xc := fun x _ M' => E0 x M' }, ⟨?_, c, fun τ' M' σ' H' h r c' s' => hq .non M' .non H' h rfl c' s', hq, fun _ _ _ _ h => h.elim, fun _ _ _ _ h => h.elim, fun x τ' M' c d σ' H' h r _ c' s' => he x M' c d H' h r c' s'⟩, hp ds M Q0 E0 h⟩
      unfold L2.start
      rw [r.length, hl]
      exact RepS.start _ r
theorem FnM.of {P : Program} {w : World} {K : PySem.W.Frag} {mg : Str → Option Value} {base : Heap} {k : Nat} {x : Str} {f : Addr} {fd : FuncData} {ps : List Str} {sp : DSp} (F : FnOk P w K mg base (L2N.CX P w) k f fd ps (lsp K sp)) (hm : mg x = some (.ref f))
    (hk : PySem.W.keepIn K (.ref f) = true) (hb : Binds K fd ps []) : FnM P w K mg base k x sp := ⟨f, fd, ps, F, hm, hk, hb⟩
end DL
namespace DL
open PySem L2
section
variable {X : Cx} {W : WX} {a b c e o i : Expr} {rest es : List Expr} {ta tb tc te to ti : DTE} {tl : DTA} {tt : DTT} {pos apos cpos p : Pos} {x : Str}
theorem de_strc {z : Str} {t : Tx} {j : Nat} (h : T z = t) : DE X W (.Constant (.str z) j pos) (dC (.str t)) := by
  rw [← h]
  exact de_str
theorem de_gt {f : Addr} {zs : List Str} (h : X.mg x = some (.ref f)) (hw : WrT X.K f (zs.map V.str)) (hg : Gl X x := by rfl) (hd : (x == ("__debug__" : Str)) = false := by decide) : DE X W (.Name x pos) (dC (.tup (zs.map fun z => D.str (T z)))) := by
  refine de_glob (v := .ref f) hg h rfl (fun M H => ?_) hd
  unfold Rep
  refine ⟨f, _, rfl, .inr hw.n, ?_⟩
  have e : zs.map (fun z => D.str (T z)) = (zs.map T).map D.str := by rw [List.map_map]; rfl
  have e2 : zs.map V.str = ((zs.map T).map sx).map V.str := by
    rw [List.map_map, List.map_map]
    exact List.map_congr_left fun z _ => by show V.str z = V.str (sx (T z)); rw [sx_T]
  rw [e, e2]
  exact Reps.of_strs _
def gIsNN (nb : Bool → Bool) : DOp := fun x y M Q => match y with
  | .non => (match x with
    | .non => Q (.bl (nb true)) M
    | _ => Q (.bl (nb false)) M)
  | _ => False
abbrev gIsN : DOp := gIsNN id
theorem od_isNN {K : PySem.W.Frag} {nb : Bool → Bool} : OpD K (gIsNN nb) (fun x y H Q => y = .non ∧ Q (.bl (nb (decide (x = .non)))) H) := fun M H x y v u Q0 Q c rx ry h q => by
  have fin : ∀ b, Q0 (.bl b) M → Q (.bl b) H := fun b z => q _ M _ H z rfl c (Stp.refl M H)
  cases y with
  | non =>
    cases ry
    refine ⟨rfl, ?_⟩
    cases x with
    | non => cases rx; exact fin _ h
    | bl _ => cases rx; exact fin _ h
    | int _ => cases rx; exact fin _ h
    | str _ => cases rx; exact fin _ h
    | ref _ => cases rx; exact fin _ h
    | ty _ => cases rx; exact fin _ h
    | scr _ => obtain ⟨a, rfl, _⟩ := (show ∃ a, v = .ref a ∧ _ from rx); exact fin _ h
    | cl _ => cases rx; exact fin _ h
    | exc _ _ _ _ _ => obtain ⟨rfl, _⟩ := (show v = _ ∧ _ from rx); exact fin _ h
    | lst _ => obtain ⟨a, vs, rfl, _⟩ := rep_of_lst rx; exact fin _ h
    | tup _ => obtain ⟨a, vs, rfl, _⟩ := rep_of_tup rx; exact fin _ h
  | _ => exact h.elim
theorem od_isN {K : PySem.W.Frag} : OpD K gIsN (fun x y H Q => y = .non ∧ Q (.bl (decide (x = .non))) H) := od_isNN (nb := id)
def iAny (K : PySem.W.Frag) (te : TE) : TI := fun σ H R => te σ H fun v H1 => (∃ z, v = .str z ∧ R (Its z) H1) ∨ (∃ a, v = .ref a ∧ (∃ xs, SqL K H1 a xs) ∧ R (Itl K a) H1) ∨ ∃ a, v = .ref a ∧ (∃ xs, SqT K H1 a xs) ∧ R (Itt K a) H1
theorem pi_any {tg : Expr} {te : TE} (he : PE X e te) : PI X tg e (iAny X.K te) := ⟨fun pins s σ H R I h => thn (he.run pins s σ H _ I h) fun v s1 hv => by
  obtain ⟨y, H1, J1, ry, hy⟩ := hv
  rcases hy with ⟨z, rfl, hR⟩ | ⟨a, rfl, ⟨xs, hs⟩, hR⟩ | ⟨a, rfl, ⟨xs, hs⟩, hR⟩
  · obtain ⟨tk, rfl⟩ := ry
    cases hz : z.cps.all (· < 128) with
    | false => exact wpAny_pyIter_wide hz (pi_one (tk := s1.toks) J1 _ (turn_str _ z tk _ (.inr rfl)) ⟨_, Heap.get?_push_size _ rfl, rfl, rfl⟩ hR)
    | true => exact wpAny_pyIter_ascii hz (pi_one (tk := s1.toks) J1 _ (turn_str _ z tk _ (.inl rfl)) ⟨_, Heap.get?_push_size _ rfl, rfl, rfl⟩ hR)
  · cases ry
    obtain ⟨its, rv, pl, hz⟩ := J1.list hs
    exact wpAny_pyIter_list pl.isList (pi_one (tk := s1.toks) J1 _ (turn_list a _) ⟨_, Heap.get?_push_size _ rfl, rfl, rfl⟩ hR)
  · cases ry
    obtain ⟨its, rv, pl, hz⟩ := J1.tuple hs
    exact wpAny_pyIter_tuple pl (pi_one (tk := s1.toks) J1 _ (turn_tuple a _) ⟨_, Heap.get?_push_size _ rfl, rfl, rfl⟩ hR)⟩
def itemsD : D → Option (List D)
  | .str x => some (x.map fun c => D.str [c])
  | .lst ds => some ds
  | .tup ds => some ds
  | _ => none
def diAny (te : DTE) : DTI := fun τ M Q E => te τ M (fun d M1 => match itemsD d with
  | some ds => Q ds M1
  | none => False) E
theorem di_any {tg : Expr} (h : DE X W e te) : DI X W tg e (diAny te) := PI.of (pi_any h) fun σ H R ⟨τ, M, Q0, E0, S, h⟩ => S.sub h fun d M1 v H1 h1 r1 S1 s1 => by
  cases d with
  | str x => exact .inl ⟨sx x, r1, S1.end_ h1 (it_str x)⟩
  | lst ds =>
    obtain ⟨a, vs, rfl, ha, ma, ra⟩ := rep_of_lst r1
    exact .inr (.inl ⟨a, rfl, ⟨vs, .inl (.inl ha)⟩, S1.end_ h1 (it_lst ha ma ra)⟩)
  | tup ds =>
    obtain ⟨a, vs, rfl, ha, ra⟩ := rep_of_tup r1
    exact .inr (.inr ⟨a, rfl, ⟨vs, sqT_of ha⟩, S1.end_ h1 (it_tup ha ra)⟩)
  | _ => exact h1.elim
def diScr (te : DTE) : DTI := fun τ M Q E => te τ M (fun d M1 => match d with
  | .scr ns => Q (ns.map D.int) M1
  | _ => False) E
theorem de_call0 {k : Nat} {sp : DSp} (F : FnM X.prog X.w X.K X.mg X.base k x sp) (G : Gd X W) (hr : Room k X.A) (hg : Gl X x := by rfl) (hdb : (x == ("__debug__" : Str)) = false := by decide) : DE X W (.Call (.Name x p) [] [] pos) (dCall sp daNil) := by
  obtain ⟨f, fd, ps, Fk, hm, hk, hb⟩ := F.ex
  refine ⟨fun pins s σ H Q I h => ?_⟩
  obtain ⟨τ, M, Q0, E0, S, h⟩ := h
  refine wpAny_Call_Name_kw (ld_glob I hg hm ?_ hdb)
  exact PySem.W.callWith_K0 I.kIn hk (run_fnS (us := []) (E := WE W) Fk hr hb (L2N.passAt G.tk σ) I .nil ⟨[], M, Q0, E0, .nil, S.co, h, S.q, S.e⟩)
theorem RepS.reset {K : PySem.W.Frag} {M : Mu} {H : Hp} {d : D} {v : V} (rp : Rep K M H d v) : ∀ {ds : List (Option D)} {vs : List (Option V)} (i : Nat), RepS K M H ds vs → vs[i]? = some (some v) → RepS K M H (ds.set i (some d)) vs
  | [], _, _, h, _ => h
  | .none :: ds, _, 0, ⟨u, r, e, h⟩, q => by subst e; have q2 : u = some v := by simpa using q
                                             rw [q2]; exact ⟨v, r, rfl, rp, h⟩
  | some _ :: ds, _, 0, ⟨u, r, e, _, h⟩, q => by subst e; have q2 : u = v := by simpa using q
                                                 rw [q2]; exact ⟨v, r, rfl, rp, h⟩
  | .none :: ds, _, i + 1, ⟨u, r, e, h⟩, q => by subst e; exact ⟨u, r, rfl, RepS.reset rp i h (by simpa using q)⟩
  | some x :: ds, _, i + 1, ⟨u, r, e, h1, h⟩, q => by subst e; exact ⟨u, r, rfl, h1, RepS.reset rp i h (by simpa using q)⟩
def dFz (i : Nat) (t : DTS) : DTS := fun D0 τ M => match τ[i]? with
  | some (some (.ref a)) => (match M a with
    | some (.lst ds) => t D0 (τ.set i (some (.lst ds))) (del M a)
    | _ => False)
  | _ => False
theorem dss_fz {sts : List Stmt} {t : DTS} (j : Nat) (h : DSs X W sts t) : DSs X W sts (dFz j t) := PSs.of h fun D1 σ H ⟨τ, M, D0, S, h⟩ => by
  unfold dFz at h
  split at h
  · rename_i a e
    obtain ⟨v, e2, r⟩ := S.rs.get e
    cases r
    split at h
    · rename_i ds e3
      obtain ⟨vs, ha, ra⟩ := mu_lst S.co e3
      refine ⟨_, _, D0, S.go (RepS.reset (rep_lst ha del_same (ra.stp Stp.frz)) j (S.rs.stp Stp.frz) e2) S.co.frz Stp.frz, h⟩
    · exact h.elim
  · exact h.elim
end
end DL
namespace DL
open PySem L2 PySem.Spec PyProof.Rows
theorem turn_mid {elt t0 i0 t1 i1 : Expr} {f0 f1 : List Expr} {gs : List Comprehension} {d : Nat} {scope : Scope} {pos : Pos} {it acc : Value} {env : Env} (h0 : gs[d]? = some ⟨t0, i0, f0, 0⟩) (h1 : gs[d + 1]? = some ⟨t1, i1, f1, 0⟩) :
    compTurn (.ListComp elt gs scope pos) d it acc env = (do
      standAt i0.pos
      match ← pyNext it with
      | none => pure (.done .next)
      | some u =>
        letOwnedTupleGo t0 it u
        assign t0 env u
        let mut yes := true
        for c in f0 do
          if yes then yes ← isTrue c env (eval c env)
        if yes then
          let z ← eval i1 env
          standAt i1.pos
          let z ← foldedSetIterable i1 env z
          let _ ← runOwn (.compStart (.ListComp elt gs scope pos) (d + 1) (← holding [z] (pyIter z)) acc env) env
        again (.compLoop (.ListComp elt gs scope pos) d it acc env)) := by
  unfold compTurn
  simp only [h0, h1]
  rfl
theorem turn_last {elt t0 i0 : Expr} {f0 : List Expr} {gs : List Comprehension} {d : Nat} {scope : Scope} {pos : Pos} {it acc : Value} {env : Env} (h0 : gs[d]? = some ⟨t0, i0, f0, 0⟩) (h1 : gs[d + 1]? = none) :
    compTurn (.ListComp elt gs scope pos) d it acc env = (do
      standAt i0.pos
      match ← pyNext it with
      | none => pure (.done .next)
      | some u =>
        letOwnedTupleGo t0 it u
        assign t0 env u
        let mut yes := true
        for c in f0 do
          if yes then yes ← isTrue c env (eval c env)
        if yes then
          (do let _ ← call (.builtin "list.append") [acc, ← eval elt env])
        again (.compLoop (.ListComp elt gs scope pos) d it acc env)) := by
  unfold compTurn
  simp only [h0, h1]
  rfl
end DL
namespace DL
open PySem L2 PySem.Spec PyProof.Rows
section
variable {prog : Program} {w : World} {A : Around} {R : Result → Shared → Prop} {s : Shared} {elt t0 i0 t1 i1 : Expr} {f0 f1 : List Expr} {gs : List Comprehension} {d : Nat} {scope : Scope} {pos : Pos} {it acc : Value} {env : Env}
abbrev noE : Value → Shared → Prop := fun _ _ => False
theorem noE_le {α : Type} {M : Model} {t : Sem α} {Q Q' : α → Shared → Prop} {E : Value → Shared → Prop} (h : wpAny M A t Q noE s) (k : ∀ a z, Q a z → Q' a z) : wpAny M A t Q' E s := wpAny_mono h k fun _ _ f => f.elim
abbrev tsts (fs : List Expr) (env : Env) : Sem Bool := forIn fs true fun c r => if r = true then do let ok ← isTrue c env (eval c env); pure (ForInStep.yield ok) else pure (ForInStep.yield r)
def TurnTo (prog : Program) (w : World) (A : Around) (t0 : Expr) (f0 : List Expr) (it : Value) (env : Env) (done : Shared → Prop) (yes no : Shared → Prop) (z : Shared) : Prop :=
  wpAny (model prog w) A (pyNext it) (fun r z1 => match r with
    | none => done z1
    | some u => wpAny (model prog w) A (letOwnedTupleGo t0 it u) (fun _ z2 => wpAny (model prog w) A (assign t0 env u) (fun _ z3 => wpAny (model prog w) A (tsts f0 env) (fun b z4 => if b = true then yes z4 else no z4) noE z3) noE z2) noE z1) noE z
theorem loop_mid (h0 : gs[d]? = some ⟨t0, i0, f0, 0⟩) (h1 : gs[d + 1]? = some ⟨t1, i1, f1, 0⟩) (hs : ∀ x, foldedSetIterable i1 env x = pure x) (V G : Nat → Shared → Prop)
    (turn : ∀ k z, V k z → TurnTo prog w A t0 f0 it env (R (.ok .next)) (G k) (fun z => ∃ m, m < k ∧ V m z) z)
    (step : ∀ k z, G k z → wpAny (model prog w) A (eval i1 env) (fun x z1 => wpAny (model prog w) A (pyIter x) (fun y z2 => codeAny (model prog w) A (.compStart (.ListComp elt gs scope pos) (d + 1) y acc env) (fun r z3 => match r with
      | .ok _ => ∃ m, m < k ∧ V m z3
      | .error _ => False) z2) noE z1) noE z) (n : Nat) (h : V n s) : codeAny (model prog w) A (.compLoop (.ListComp elt gs scope pos) d it acc env) R s := by
  refine codeAny_loop rfl V (fun k z hV => ?_) n h
  show wpAny _ A ((compTurn (.ListComp elt gs scope pos) d it acc env).onRaise (fun x => do noteFrame x env; theTreesLotGoes x)) _ _ z
  refine wpAny_noted ?_
  rw [turn_mid h0 h1]
  refine wpAny_bind (wpAny_standAt (wpAny_bind (noE_le (turn k z hV) fun r z1 q1 => ?_)))
  cases r with
  | none => exact wpAny_pure q1
  | some u =>
    refine wpAny_bind (noE_le q1 fun _ z2 q2 => wpAny_bind (noE_le q2 fun _ z3 q3 => wpAny_bind (noE_le q3 fun b z4 q4 => ?_)))
    cases b with
    | false => exact wpAny_pure ⟨rfl, q4⟩
    | true =>
      refine wpAny_bind (noE_le (step k z4 q4) fun x z5 q5 => ?_)
      refine wpAny_bind (wpAny_standAt (wpAny_bind (wpAny_of_eq (hs x) (wpAny_bind (wpAny_holding (noE_le q5 fun y z6 q6 => ?_))))))
      refine wpAny_bind (wpAny_runOwn ?_)
      rw [Around.mark_none]
      refine codeAny_mono q6 fun r z7 q7 => ?_
      cases r with
      | ok f =>
        first
          | exact wpAny_pure ⟨rfl, q7⟩
          | exact wpAny_bind (wpAny_pure (wpAny_pure ⟨rfl, q7⟩))
      | error e => exact q7.elim
theorem loop_last (h0 : gs[d]? = some ⟨t0, i0, f0, 0⟩) (h1 : gs[d + 1]? = none) (V G : Nat → Shared → Prop)
    (turn : ∀ k z, V k z → TurnTo prog w A t0 f0 it env (R (.ok .next)) (G k) (fun z => ∃ m, m < k ∧ V m z) z)
    (step : ∀ k z, G k z → wpAny (model prog w) A (eval elt env) (fun x z1 => wpAny (model prog w) A (call (.builtin "list.append") [acc, x]) (fun _ z2 => ∃ m, m < k ∧ V m z2) noE z1) noE z)
    (n : Nat) (h : V n s) : codeAny (model prog w) A (.compLoop (.ListComp elt gs scope pos) d it acc env) R s := by
  refine codeAny_loop rfl V (fun k z hV => ?_) n h
  show wpAny _ A ((compTurn (.ListComp elt gs scope pos) d it acc env).onRaise (fun x => do noteFrame x env; theTreesLotGoes x)) _ _ z
  refine wpAny_noted ?_
  rw [turn_last h0 h1]
  refine wpAny_bind (wpAny_standAt (wpAny_bind (noE_le (turn k z hV) fun r z1 q1 => ?_)))
  cases r with
  | none => exact wpAny_pure q1
  | some u =>
    refine wpAny_bind (noE_le q1 fun _ z2 q2 => wpAny_bind (noE_le q2 fun _ z3 q3 => wpAny_bind (noE_le q3 fun b z4 q4 => ?_)))
    cases b with
    | false => exact wpAny_pure ⟨rfl, q4⟩
    | true => exact wpAny_bind (wpAny_bind (noE_le (step k z4 q4) fun x z5 q5 => wpAny_bind (noE_le q5 fun _ z6 q6 => wpAny_pure (wpAny_pure ⟨rfl, q6⟩))))
theorem start_at (h0 : gs[d]? = some ⟨t0, i0, f0, 0⟩) (ha : codeAny (model prog w) A (.compLoop (.ListComp elt gs scope pos) d it acc env) R s)
    (hb : wpAny (model prog w) A (pyIter it) (fun y z => codeAny (model prog w) A (.compLoop (.ListComp elt gs scope pos) d y acc env) R z) (notedBy (model prog w) A env fun x z => R (.error x) z) s) :
    codeAny (model prog w) A (.compStart (.ListComp elt gs scope pos) d it acc env) R s := by
  have hcl : (clausesOf (.ListComp elt gs scope pos))[d]? = some ⟨t0, i0, f0, 0⟩ := h0
  refine codeAny_of_tree ?_
  show wpAny _ _ ((compStart (.ListComp elt gs scope pos) d it acc env).onRaise (fun x => do noteFrame x env; standAt theWindowsPlace)) _ _ s
  refine wpAny_notedAt ?_
  unfold compStart
  simp only [hcl]
  show wpAny _ _ (ask >>= _) _ _ s
  refine wpAny_bind (wpAny_askSetting (wpAny_ite ?_))
  split
  · first
      | exact wpAny_bind (wpAny_pure (wpAny_pure (And.intro rfl ha)))
      | exact wpAny_pure (And.intro rfl ha)
  · first
      | exact wpAny_bind (wpAny_rule (wpAny_bind (wpAny_standAt (wpAny_bind (wpAny_mono hb (fun y z q => wpAny_pure (And.intro rfl q)) fun _ _ x => x)))))
      | (refine wpAny_bind (wpAny_rule ?_); show wpAny _ _ (standAt i0.pos >>= _) _ _ s; exact wpAny_bind (wpAny_standAt (wpAny_bind (wpAny_mono hb (fun y z q => wpAny_pure (And.intro rfl q)) fun _ _ x => x))))
end
end DL
namespace DL
open PySem L2 PySem.Spec PyProof.Rows
structure Cl where
  tg : Expr
  iter : Expr
  ifs : List Expr
  wi : TI
  g : TG
  tt : TT
  vs : List Nat
abbrev Cl.c (c : Cl) : Comprehension := ⟨c.tg, c.iter, c.ifs, 0⟩
def wTurns (g : TG) (tt : TT) (vs : List Nat) (σ : L2.St) (inn : L2.St → Hp → (Hp → Prop) → Prop) (Nx : Hp → Prop) (J : It) (H1 : Hp) : Prop :=
  ∃ W : Nat → Nat → Hp → Prop, (∃ m, W 0 m H1) ∧ ∀ i m H, W i m H → (J.stop i H ∧ Nx H) ∨ (J.go i H ∧ ∃ N1 : Hp → Prop, (∀ H', N1 H' → ∃ m', m' < m ∧ W (i + 1) m' H') ∧
    ∀ x H', J.yld i H x H' → g x (wipe σ vs) H' fun σ2 H2 => wipe σ2 vs = wipe σ vs ∧ tt σ2 H2 fun b H3 => if b = true then inn σ2 H3 N1 else N1 H3)
def Nst (em : L2.St → Hp → (Hp → Prop) → Prop) : List Cl → L2.St → Hp → (Hp → Prop) → Prop
  | [], σ, H, Nx => em σ H Nx
  | c :: cs, σ, H, Nx => c.wi σ H fun J H1 => wTurns c.g c.tt c.vs σ (Nst em cs) Nx J H1
def emt (D : Addr) (te : TE) : L2.St → Hp → (Hp → Prop) → Prop := fun σ H Nx => te σ H fun y H1 => ∃ acc, H1 D = some (.lst acc) ∧ acc.length < sizeLine ∧ Nx (upd H1 D (.lst (acc ++ [y])))
def hvs : List Cl → List Nat
  | [] => []
  | c :: _ => c.vs
structure ClOk (B : Cx) (c : Cl) : Prop where
  g : PG B c.tg c.g
  t : PTs B c.ifs c.tt
structure ClIn (B : Cx) (c : Cl) : Prop extends ClOk B c where
  i : PI B c.tg c.iter c.wi
  s : ∀ x, foldedSetIterable c.iter B.env x = pure x
def Dec : List Nat → List Cl → Prop
  | _, [] => True
  | vs, c :: cs => (∀ i ∈ c.vs, i ∈ vs) ∧ Dec c.vs cs
structure Kps (vs : List Nat) (σ σ' : L2.St) : Prop where
  len : σ'.length = σ.length
  k : ∀ (j : Nat) v, (wipe σ vs)[j]? = some (some v) → σ'[j]? = some (some v)
section
variable {B : Cx} {elt : Expr} {gs : List Comprehension} {scope : Scope} {pos : Pos} {D : Addr} {te : TE}
theorem kps_back {vs us : List Nat} {σ σ2 σ3 : L2.St} (hu : ∀ i ∈ us, i ∈ vs) (e : wipe σ2 vs = wipe σ vs) (k : Kps us σ2 σ3) : Kps [] (wipe σ vs) σ3 :=
  ⟨by rw [k.len, ← e, wipe_length], fun j v h => by
    have h : (wipe σ vs)[j]? = some (some v) := h
    rw [← e] at h
    obtain ⟨h1, h2⟩ := wipe_some h
    exact k.k j v (by rw [wipe_out fun z => h2 (hu j z)]; exact h1)⟩
theorem Kps.refl (vs : List Nat) (σ : L2.St) : Kps vs σ σ := ⟨rfl, fun j v h => (wipe_some h).1⟩
section
variable {c : Cl} {cs : List Cl} {P : List (Addr × Obj)} {σ : L2.St} {it : Addr} {fp : List Addr} {tn : Nat → Heap → Prop} {J : It} {Nx : Hp → Prop} {W : Nat → Nat → Hp → Prop}
def Btw (B : Cx) (c : Cl) (P : List (Addr × Obj)) (σ : L2.St) (fp : List Addr) (tn : Nat → Heap → Prop) (W : Nat → Nat → Hp → Prop) (k : Nat) (z : Shared) : Prop :=
  ∃ i H', Inv B P (wipe σ c.vs) H' z ∧ tn i z.heap ∧ (∀ b ∈ fp, H' b = none) ∧ W i k H'
def Bhd (B : Cx) (V : Nat → Shared → Prop) (D : Addr) (te : TE) (cs : List Cl) (k : Nat) (z : Shared) : Prop :=
  ∃ σ2 H2 N1 P2, Inv B P2 σ2 H2 z ∧ Nst (emt D te) cs σ2 H2 N1 ∧ ∀ σ3 H3 z3, Inv B P2 σ3 H3 z3 → Kps (hvs cs) σ2 σ3 → N1 H3 → ∃ m, m < k ∧ V m z3
theorem clause_turn (hx : ∀ e z, ¬ B.xe e z) {done : Shared → Prop} (hd : ∀ H' z, Inv B P (wipe σ c.vs) H' z → Nx H' → done z) (hc : B.calm = true) (hdec : Dec c.vs cs) (ok : ClOk B c) (T : Turn B.prog B.w B.K c.tg J fp it tn) (stat : ∀ {H' : Hp}, (∀ b ∈ fp, H' b = none) → ∀ b ∈ fp, FpOk B P H' b)
    (turn : ∀ i m H, W i m H → (J.stop i H ∧ Nx H) ∨ (J.go i H ∧ ∃ N1 : Hp → Prop, (∀ H', N1 H' → ∃ m', m' < m ∧ W (i + 1) m' H') ∧
      ∀ x H', J.yld i H x H' → c.g x (wipe σ c.vs) H' fun σ2 H2 => wipe σ2 c.vs = wipe σ c.vs ∧ c.tt σ2 H2 fun b H3 => if b = true then Nst (emt D te) cs σ2 H3 N1 else N1 H3))
    {k : Nat} {z : Shared} (hv : Btw B c P σ fp tn W k z) :
    TurnTo B.prog B.w B.A c.tg c.ifs (.ref it) B.env done (Bhd B (Btw B c P σ fp tn W) D te cs k) (fun z => ∃ m, m < k ∧ Btw B c P σ fp tn W m z) z := by
  obtain ⟨i, H5, I5, st5, n5, w5⟩ := hv
  unfold TurnTo
  rcases turn i k H5 w5 with ⟨stop, nx⟩ | ⟨go, N1, hN1, yl⟩
  · refine noE_le (T.done B rfl rfl rfl hc i P z _ H5 noE I5 (stat n5) st5 stop) fun r z1 ⟨hr, I6⟩ => ?_
    subst hr
    exact hd H5 _ I6 nx
  · refine noE_le (T.item B rfl rfl rfl hc i P z _ H5 noE I5 (stat n5) st5 go) fun r z1 ⟨u, hr, h6⟩ => ?_
    subst hr
    refine noE_le h6 fun _ z2 ⟨x, H7, I7, r7, y7, st7, n7⟩ => ?_
    have pinned := I7.pinned (stat n7) (T.obj _ _ st7)
    refine wpAny_mono (ok.g.run _ z2 _ H7 x u _ pinned r7 (yl x H7 y7)) (fun _ z3 ⟨σ8, H8, I8, hw8, q8⟩ => ?_) fun e z hx1 => ?_
    · refine wpAny_mono (ok.t.run _ z3 σ8 H8 _ I8 q8) (fun b z4 ⟨H9, I9, q9⟩ => ?_) fun e z hx2 => ?_
      · have fin : ∀ σ3 H3 z3, Inv B (P ++ pinsAt fp z2.heap) σ3 H3 z3 → Kps (hvs cs) σ8 σ3 → N1 H3 → ∃ m, m < k ∧ Btw B c P σ fp tn W m z3 := fun σ3 H3 z3 I' kp nx => by
          obtain ⟨m', hm, w'⟩ := hN1 H3 nx
          have pin' : ∀ b ∈ fp, ∀ o, z2.heap.get? b = some o → z3.heap.get? b = some o ∧ H3 b = none := fun b hb o e =>
            let q := I'.pin (b, o) (List.mem_append_right _ (List.mem_append_right _ (mem_pinsAt hb e)))
            ⟨q.1, q.2.1⟩
          have kb : Kps [] (wipe σ c.vs) σ3 := kps_back (us := hvs cs) (by cases cs with
            | nil => intro i h; cases h
            | cons x xs => exact hdec.1) hw8 kp
          refine ⟨m', hm, i + 1, H3, (I'.unpinned (pins := P)).weak kb.len.symm kb.k, T.keep _ _ _ st7 fun b hb o e => (pin' b hb o e).1, fun b hb => ?_, w'⟩
          obtain ⟨o, e, _⟩ := T.obj _ _ st7 b hb
          exact (pin' b hb o e).2
        cases b with
        | false =>
          simp only [Bool.false_eq_true, if_false] at q9 ⊢
          exact fin σ8 H9 z4 I9 (Kps.refl _ _) q9
        | true =>
          simp only [if_true] at q9 ⊢
          exact ⟨σ8, H9, N1, _, I9, q9, fin⟩
      · exact (hx e z hx2).elim
    · exact (hx e z hx1).elim
theorem clause_loop (hx : ∀ e z, ¬ B.xe e z) (hc : B.calm = true) (hel : PE B elt te) : ∀ (cs : List Cl) (c : Cl) (d : Nat) (P : List (Addr × Obj)) (σ : L2.St) (H : Hp) (s : Shared) (it : Addr) (fp : List Addr) (tn : Nat → Heap → Prop) (J : It) (Nx : Hp → Prop) (R : Result → Shared → Prop),
    (∀ H' z, Inv B P (wipe σ c.vs) H' z → Nx H' → R (.ok .next) z) →
    gs[d]? = some c.c → (∀ j, gs[d + 1 + j]? = (cs.map Cl.c)[j]?) → Dec c.vs cs → ClOk B c → (∀ x ∈ cs, ClIn B x) → Inv B P (wipe σ c.vs) H s → Turn B.prog B.w B.K c.tg J fp it tn → tn 0 s.heap → (∀ b ∈ fp, FpOk B P H b) →
    wTurns c.g c.tt c.vs σ (Nst (emt D te) cs) Nx J H →
    codeAny (model B.prog B.w) B.A (.compLoop (.ListComp elt gs scope pos) d (.ref it) (.ref D) B.env) R s := by
  intro cs
  induction cs with
  | nil =>
    intro c d P σ H s it fp tn J Nx R hR h0 hr hdec okc okcs I T st hfp ⟨W, ⟨m0, w0⟩, turn⟩
    have h1 : gs[d + 1]? = none := by simpa using hr 0
    have stat : ∀ {H' : Hp}, (∀ b ∈ fp, H' b = none) → ∀ b ∈ fp, FpOk B P H' b := fun hn b hb => ⟨hn b hb, (hfp b hb).2⟩
    refine loop_last h0 h1 (Btw B c P σ fp tn W) (Bhd B (Btw B c P σ fp tn W) D te [] ) (fun k z hv => clause_turn (te := te) (cs := []) hx hR hc hdec okc T stat turn hv) (fun k z hg => ?_) m0 ⟨0, H, I, st, fun b hb => (hfp b hb).1, w0⟩
    obtain ⟨σ2, H2, N1, P2, I2, q, fin⟩ := hg
    refine wpAny_mono (hel.run _ z σ2 H2 _ I2 q) (fun u z1 ⟨yv, H3, I3, r3, acc, hD, hz, nx⟩ => ?_) fun e z he => (hx e z he).elim
    exact app_ok (X := B) I3 hD hz r3 fun z2 I4 => fin σ2 _ z2 I4 (Kps.refl _ _) nx
  | cons c2 cs ih =>
    intro c d P σ H s it fp tn J Nx R hR h0 hr hdec okc okcs I T st hfp ⟨W, ⟨m0, w0⟩, turn⟩
    have h1 : gs[d + 1]? = some c2.c := by simpa using hr 0
    have hr2 : ∀ j, gs[d + 1 + 1 + j]? = (cs.map Cl.c)[j]? := fun j => by
      have := hr (j + 1)
      rw [show d + 1 + (j + 1) = d + 1 + 1 + j by omega] at this
      simpa using this
    have ok2 := okcs c2 List.mem_cons_self
    have stat : ∀ {H' : Hp}, (∀ b ∈ fp, H' b = none) → ∀ b ∈ fp, FpOk B P H' b := fun hn b hb => ⟨hn b hb, (hfp b hb).2⟩
    refine loop_mid h0 h1 ok2.s (Btw B c P σ fp tn W) (Bhd B (Btw B c P σ fp tn W) D te (c2 :: cs)) (fun k z hv => clause_turn (te := te) (cs := c2 :: cs) hx hR hc hdec okc T stat turn hv) (fun k z hg => ?_) m0 ⟨0, H, I, st, fun b hb => (hfp b hb).1, w0⟩
    obtain ⟨σ2, H2, N1, P2, I2, q, fin⟩ := hg
    refine wpAny_mono (ok2.i.run _ z σ2 H2 _ I2 q) (fun xv z1 hx1 => wpAny_mono hx1 (fun itv z2 hp => ?_) fun e z he => (hx e z he).elim) fun e z he => (hx e z he).elim
    obtain ⟨it1, fp1, tn1, J1, H3, e1, I3, T1, st1, hfp1, tw⟩ := hp
    subst e1
    have I3w : Inv B P2 (wipe σ2 c2.vs) H3 z2 := I3.weak (wipe_length _ _) fun j v e => (wipe_some e).1
    have lp := ih c2 (d + 1) P2 σ2 H3 z2 it1 fp1 tn1 J1 N1 (fun r z3 => match r with
      | .ok _ => ∃ m, m < k ∧ Btw B c P σ fp tn W m z3
      | .error _ => False) (fun H' z' I' nx => fin (wipe σ2 c2.vs) H' z' I' ⟨wipe_length _ _, fun j v e => e⟩ nx) h1 hr2 hdec.2 ok2.toClOk (fun x hx => okcs x (List.mem_cons_of_mem _ hx)) I3w T1 st1 hfp1 tw
    exact start_at h1 lp (T1.self B.A 0 _ _ _ st1 lp)
end
end
end DL
namespace DL
open PySem L2 PySem.Spec PyProof.Rows
section
variable {X : Cx}
def tLcN (c : Cl) (cs : List Cl) (te : TE) : TE := fun σ H Q => c.wi σ H fun J H1 => ∀ D, H1 D = none → wTurns c.g c.tt c.vs σ (Nst (emt D te) cs) (fun H2 => Q (.ref D) H2) J (upd H1 D (.lst []))
abbrev Blk (X : Cx) (scope : Scope) (B : Cx) : Prop := ∃ s H C cl fp, B = X.blk s H scope (compEnvC scope cl C X.env) fp
theorem lcN_core {P : List (Addr × Obj)} {s : Shared} {σ : L2.St} {H : Hp} {Q : VK} {elt : Expr} {c : Cl} {cs : List Cl} {scope : Scope} {own : List (Str × Nat)} {pos pos' : Pos} {te : TE} {use : Option (Value → Sem Unit)} {Qf : Value → Shared → Prop}
    (hc : X.calm = true) (hN : X.N.Nodup) (I : Inv X P σ H s) (hi : PI X c.tg c.iter c.wi) (ok : BlkOk X.N X.env.scope scope own) (hv : c.vs = own.map (·.2)) (hdec : Dec c.vs cs)
    (hcl : ∀ B, Blk X scope B → ClOk B c ∧ (∀ x ∈ cs, ClIn B x) ∧ PE B elt te) (hs : ∀ x, foldedSetIterable c.iter X.env x = pure x) (h : tLcN c cs te σ H Q)
    (hend : ∀ D C z m H', Inv X P σ H' z → Q (.ref D) H' → z.heap.Ns C m → FpOk X P H' C → compPost (model X.prog X.w) X.A X.xe use Qf (.ref D) C (.ok .next) z) :
    wpAny (model X.prog X.w) X.A (comprehension (.ListComp elt (c.c :: cs.map Cl.c) scope pos) scope X.env pos' (newList []) false (eval c.iter X.env) use) Qf X.xe s := by
  have cells : ∀ y ∈ scope.names, y.2 = .free → ∃ a, X.env.cells.lookup y.1 = some a := fun y hy e => (ok.free y hy e).elim (fun q => I.ok.has _ (.inl q)) fun q => I.ok.has _ (.inr q)
  refine wpAny_comprehension_free (use := use) rfl hs (closure_ok cells) ok.kind (fun y hy e => (ok.uniq y hy).trans (by rw [e])) (thn (hi.run P s σ H _ I h) fun xv z1 q1 => thn q1 fun yv z2 q2 => ?_)
  obtain ⟨it, fp, tn, J, H2, e, I2, T, st2, f2, q⟩ := q2
  subst e
  refine wpAny_newObj_type (newEnv_comp ?_) (by show 0 ≤ sizeLine; decide)
  generalize hD : z2.heap.objs.size = D
  have free : H2 D = none := I2.hok.fresh (Nat.le_of_eq hD)
  have tw := q D free
  generalize hz3 : ({ z2 with heap := z2.heap.push { cls := .type "list", data := .seq ([] : List Value).toArray } } : Shared) = z3
  have heap3 : z3.heap = z2.heap.push { cls := .type "list", data := .seq ([] : List Value).toArray } := by rw [← hz3]
  have I3 : Inv X P σ (upd H2 D (.lst [])) z3 := by
    subst hz3
    refine I2.laid (t' := z2.toks) (fun b o e => Heap.get?_push_of_some _ e) (Nat.le_of_eq hD) ⟨Nat.zero_le _, [], 0, .nil, ?_⟩
    subst hD
    exact Heap.get?_push_size _ rfl
  have f3 : ∀ b ∈ fp, FpOk X P (upd H2 D (.lst [])) b ∧ b < z3.heap.objs.size := fun b hb => by
    obtain ⟨o, e, _⟩ := T.obj _ _ st2 b hb
    have lt := Heap.lt_size e
    exact ⟨⟨(upd_ne (by rw [← hD]; exact Nat.ne_of_lt lt)).trans (f2 b hb).1, (f2 b hb).2⟩, by rw [heap3, Heap.size_push]; exact Nat.lt_succ_of_lt lt⟩
  have st3 : tn 0 z3.heap := T.keep _ _ _ st2 fun b _ o e => by rw [heap3]; exact Heap.get?_push_of_some _ e
  have I4 := block_start I3 ok hN f3
  obtain ⟨okc, okcs, oke⟩ := hcl _ ⟨z3, upd H2 D (.lst []), z3.heap.objs.size, cellsFrom (z3.heap.objs.size + 1) scope.names (cloFrom X.env.cells scope.names []), fp, rfl⟩
  show codeAny _ _ (.compStart (.ListComp elt (c.c :: cs.map Cl.c) scope pos) 0 (.ref it) (.ref D) (compEnvC scope (cellsFrom (z3.heap.objs.size + 1) scope.names (cloFrom X.env.cells scope.names [])) z3.heap.objs.size X.env)) (compPost (model X.prog X.w) X.A X.xe use Qf (.ref D) z3.heap.objs.size) { z3 with heap := pushCells (z3.heap.push { cls := .type "dict", data := .dict #[] }) scope.names }
  generalize hce : compEnvC scope (cellsFrom (z3.heap.objs.size + 1) scope.names (cloFrom X.env.cells scope.names [])) z3.heap.objs.size X.env = ce at I4 okc okcs oke ⊢
  have loc : ce.locals = z3.heap.objs.size := by subst hce; rfl
  generalize hH3 : upd H2 D (.lst []) = H3 at I3 I4 okc okcs oke tw f3
  generalize hz4 : ({ z3 with heap := pushCells (z3.heap.push { cls := .type "dict", data := .dict #[] }) scope.names } : Shared) = z4 at I4 ⊢
  have st4 : tn 0 z4.heap := T.keep _ _ _ st3 fun b _ o e => by rw [← hz4]; exact pushCells_keeps _ _ _ _ (Heap.get?_push_of_some _ e)
  have f4 : ∀ b ∈ fp, FpOk (X.blk z3 H3 scope ce fp) [] H3 b := fun b hb =>
    ⟨(f3 b hb).1.1, (I4.ok.exf b hb).1, I4.ok.exfs b hb, .inl hb, fun x a e => (I4.ok.exf b hb).2 x a e, fun p hp => absurd (show p ∈ ([] : List (Addr × Obj)) ++ [] from hp) (by simp)⟩
  rw [← hv] at I4
  have lp := clause_loop (B := X.blk z3 H3 scope ce fp) (elt := elt) (gs := c.c :: cs.map Cl.c) (scope := scope) (pos := pos) (D := D) (te := te) (fun _ _ f => f) hc oke cs c 0 [] σ H3 z4 it fp tn J (fun H5 => Q (.ref D) H5) (compPost (model X.prog X.w) X.A X.xe use Qf (.ref D) z3.heap.objs.size)
    (fun H5 z5 I5 q5 => by
      have I6 : Inv X P σ H5 z5 := I3.call' (ch := fp) I5.os I5.base I5.hok I5.bare fun b hb => ⟨(f3 b hb).1.2.2.2.1, (f3 b hb).1.2.1, (f3 b hb).1.2.2.2.2.1, (f3 b hb).1.2.2.2.2.2⟩
      have nC : H5 z3.heap.objs.size = none := by
        have f : H5 ce.locals = none := I5.free
        rw [loc] at f
        exact f
      obtain ⟨m, hn, _⟩ := I5.loc
      have hn : z5.heap.Ns ce.locals m := hn
      rw [loc] at hn
      exact hend D z3.heap.objs.size z5 m H5 I6 q5 hn (I3.fpOk (Nat.le_refl _) nC))
    rfl (fun j => by rw [show 0 + 1 + j = j + 1 by omega, List.getElem?_cons_succ]) hdec okc okcs I4 T st4 f4 tw
  exact codeAny_compStart_list lp (T.self X.A 0 _ _ _ st4 lp)
theorem pe_lcN {elt : Expr} {c : Cl} {cs : List Cl} {scope : Scope} {own : List (Str × Nat)} {pos : Pos} {te : TE} (hc : X.calm = true) (hN : X.N.Nodup) (hi : PI X c.tg c.iter c.wi) (ok : BlkOk X.N X.env.scope scope own) (hv : c.vs = own.map (·.2)) (hdec : Dec c.vs cs)
    (hcl : ∀ B, Blk X scope B → ClOk B c ∧ (∀ x ∈ cs, ClIn B x) ∧ PE B elt te) (hs : ∀ x, foldedSetIterable c.iter X.env x = pure x) : PE X (.ListComp elt (c.c :: cs.map Cl.c) scope pos) (tLcN c cs te) := by
  refine ⟨fun P s σ H Q I h => ?_⟩
  rw [eval_ListComp]
  refine lcN_core hc hN I hi ok hv hdec hcl hs h fun D C z m H' I' q hn f => ⟨m, hn, fun h2 sb => ?_⟩
  obtain ⟨g0, g1, g2, g3, g4, g5⟩ := f
  exact ⟨.ref D, H', I'.turned (t' := z.toks) (fun b o hb e => (sb.2 b hb).trans e) g0 g1 g3 g4 g5, rfl, q⟩
theorem ps_setLcN {i : Nat} {y : Str} {py : Pos} {elt : Expr} {c : Cl} {cs : List Cl} {scope : Scope} {own : List (Str × Nat)} {pos spos : Pos} {te : TE} (hc : X.calm = true) (hN : X.N.Nodup) (hy : X.N[i]? = some y) (hyl : X.env.scope.names.lookup y = some .local)
    (hsw : swapsWith (.ListComp elt (c.c :: cs.map Cl.c) scope pos) (some (.Name y py)) spos.line X.env = pure true) (hi : PI X c.tg c.iter c.wi) (ok : BlkOk X.N X.env.scope scope own) (hv : c.vs = own.map (·.2)) (hdec : Dec c.vs cs)
    (hcl : ∀ B, Blk X scope B → ClOk B c ∧ (∀ x ∈ cs, ClIn B x) ∧ PE B elt te) (hs : ∀ x, foldedSetIterable c.iter X.env x = pure x) : PS X (.Assign [.Name y py] (.ListComp elt (c.c :: cs.map Cl.c) scope pos) spos) (tAsg (tLcN c cs te) (gName i)) := by
  refine ⟨fun P s σ H D I h => ?_⟩
  rw [exec_Assign_Name_used _ _ _ _ hsw]
  refine wpAny_bind (wpAny_standAt (wpAny_bind ?_))
  show wpAny _ X.A (do let _ ← comprehension (.ListComp elt (c.c :: cs.map Cl.c) scope pos) scope X.env (firstIterPos (c.c :: cs.map Cl.c) pos) (newList []) false (eval c.iter X.env) (some (assign (.Name y py) X.env))) _ _ s
  have h : tLcN c cs te σ H (fun x H1 => gName i x σ H1 D.nx) := h
  refine wpAny_bind (thn (lcN_core (Qf := fun _ z => SP X P D .next z) hc hN I hi ok hv hdec hcl hs h fun L C z m H' I' q hn f => ?_) fun _ z hq => wpAny_pure (wpAny_pure hq))
  show wpAny _ _ (assign (.Name y py) X.env (.ref L)) _ _ _
  refine wpAny_assign_Name (store_ok2 (v := V.ref L) I' hN hy (.inl hyl) rfl (fun z2 I2 ⟨a, sb, ha⟩ => ?_) (.inr hyl))
  obtain ⟨g0, g1, g2, g3, g4, g5⟩ := f
  have ne : C ≠ a := ha.elim (fun q => by rw [q]; exact g1) fun q e => g4 y a q e.symm
  refine ⟨m, hn.sameBut sb ne, fun h3 sb3 => ?_⟩
  exact ⟨_, H', I2.turned (t' := z2.toks) (fun b o hb e => (sb3.2 b hb).trans e) g0 g1 g3 g4 g5, q⟩
end
end DL
namespace DL
open PySem L2
abbrev noX : DX := fun _ _ => False
abbrev W0 : WX := fun _ _ _ _ => False
theorem wipe_get (σ : L2.St) (j : Nat) : ∀ vs : List Nat, (wipe σ vs)[j]? = if j ∈ vs then σ[j]?.map (fun _ => none) else σ[j]?
  | [] => by simp [wipe]
  | v :: vs => by
    show ((wipe σ vs).set v none)[j]? = _
    rw [List.getElem?_set, wipe_length, wipe_get σ j vs]
    by_cases e : v = j
    · subst e
      by_cases l : v < σ.length
      · simp [l]
      · simp [l, List.getElem?_eq_none (Nat.le_of_not_lt l)]
    · have e2 : ¬ j = v := fun z => e z.symm
      simp [e, e2]
theorem wipe_set {σ : L2.St} {i : Nat} {x : Option V} {vs : List Nat} (h : i ∈ vs) : wipe (σ.set i x) vs = wipe σ vs := by
  apply List.ext_getElem?
  intro j
  rw [wipe_get, wipe_get]
  by_cases m : j ∈ vs
  · rw [if_pos m, if_pos m, List.getElem?_set]
    by_cases e : i = j
    · subst e
      by_cases l : i < σ.length
      · simp [l]
      · simp [l, List.getElem?_eq_none (Nat.le_of_not_lt l)]
    · simp [e]
  · rw [if_neg m, if_neg m, List.getElem?_set_ne fun e => m (by rw [← e]; exact h)]
theorem wipe_wipe (σ : L2.St) (vs : List Nat) : wipe (wipe σ vs) vs = wipe σ vs := by
  apply List.ext_getElem?
  intro j
  rw [wipe_get, wipe_get]
  by_cases m : j ∈ vs
  · simp [m, Function.comp_def]
  · simp [m]
def wipeD (τ : DSt) : List Nat → DSt
  | [] => τ
  | v :: vs => (wipeD τ vs).set v none
theorem RepS.wipe {K : PySem.W.Frag} {M : Mu} {H : Hp} {τ : DSt} {σ : L2.St} (h : RepS K M H τ σ) : ∀ vs : List Nat, RepS K M H (wipeD τ vs) (L2.wipe σ vs)
  | [] => h
  | v :: vs => RepS.none v Option.none (h.wipe vs)
theorem Gd.blk {X : Cx} {W : WX} (G : Gd X W) (s : Shared) (H : Hp) (scope : Scope) (cenv : Env) (fp : List Addr) : Gd (X.blk s H scope cenv fp) W0 :=
  ⟨G.calm, fun u s' ⟨a, B, sI, pins, σ, H, cls, d, e, I, nb, up, sky, na, os, ag, w⟩ => w.elim, G.hu, PassesOwn.never, G.nd⟩
def lifGw (K : PySem.W.Frag) (W : WX) (g : DTG) (vs : List Nat) : TG := fun v σ H Q => lifG K W g v σ H fun σ' H' => wipe σ' vs = wipe σ vs → Q σ' H'
abbrev DGw (X : Cx) (W : WX) (tg : Expr) (g : DTG) (vs : List Nat) : Prop := PG X tg (lifGw X.K W g vs)
section
variable {X : Cx} {W : WX} {a b c e o i : Expr} {rest es : List Expr} {ta tb tc te to ti : DTE} {tl : DTA} {tt : DTT} {pos apos cpos p : Pos} {x : Str} {vs : List Nat}
theorem dgw_name (j : Nat) (hN : X.N.Nodup) (hj : j ∈ vs := by decide) (hi : X.N[j]? = some x := by rfl) (hx : Loc X.env.scope x := by first | exact .inl rfl | exact .inr rfl) (hf : X.fn x = true ∨ X.env.scope.names.lookup x = some .local := by first | exact .inl rfl | exact .inr rfl) : DGw X W (.Name x pos) (dgName j) vs :=
  PG.of (pg_name hN hi hx hf) fun v σ H Q ⟨d, τ, M, Q0, E0, r, S, h⟩ => S.q _ M _ H h (S.rs.set r j) S.co (Stp.refl M H) (wipe_set hj)
abbrev DTs (X : Cx) (W : WX) (ifs : List Expr) (t : DTT) : Prop := PTs X ifs (lif X.K W RB t)
def dYes : DTT := fun _ M Q _ => Q true M
theorem dts_nil : DTs X W [] dYes := ⟨fun pins s σ H Q I ⟨τ, M, Q0, E0, S, h⟩ => pts_nil.run pins s σ H Q I (S.end_ h rfl)⟩
theorem dts_one (h : DT X W c tt) : DTs X W [c] tt := pts_one h
structure DCl where
  ti : DTI
  g : DTG
  tt : DTT
  vs : List Nat
def wTs (g : DTG) (tt : DTT) (vs : List Nat) (τ : DSt) (inn : DSt → Mu → (Mu → Prop) → Prop) (Nx : Mu → Prop) : List D → Mu → Prop
  | [], M => Nx M
  | d :: ds, M => g d (wipeD τ vs) M (fun τ2 M2 => tt τ2 M2 (fun b M3 => if b = true then inn τ2 M3 (wTs g tt vs τ inn Nx ds) else wTs g tt vs τ inn Nx ds M3) noX) noX
def wNst (em : DSt → Mu → (Mu → Prop) → Prop) : List DCl → DSt → Mu → (Mu → Prop) → Prop
  | [], τ, M, Nx => em τ M Nx
  | c :: cs, τ, M, Nx => c.ti τ M (fun ds M1 => wTs c.g c.tt c.vs τ (wNst em cs) Nx ds M1) noX
def dEm (p : Addr) (te : DTE) : DSt → Mu → (Mu → Prop) → Prop := fun τ M Nx => te τ M (fun y M1 => ∃ acc, M1 p = some (.lst acc) ∧ acc.length < sizeLine ∧ Nx (put M1 p (.lst (acc ++ [y])))) noX
def dLcM (ti : DTI) (g : DTG) (tt : DTT) (vs : List Nat) (cs : List DCl) (te : DTE) : DTE := fun τ M Q E => ti τ M (fun ds M1 => ∀ p, M1 p = none → wTs g tt vs τ (wNst (dEm p te) cs) (fun M2 => Q (.ref p) M2) ds (put M1 p (.lst []))) E
def Inn (K : PySem.W.Frag) (inn : DSt → Mu → (Mu → Prop) → Prop) (innL : L2.St → Hp → (Hp → Prop) → Prop) : Prop :=
  ∀ τ σ M H Nx0 Nx, RepS K M H τ σ → Cor K M H → (∀ M' H', Nx0 M' → Cor K M' H' → Stp M H M' H' → Nx H') → inn τ M Nx0 → innL σ H Nx
theorem turns_ok {K : PySem.W.Frag} {inn : DSt → Mu → (Mu → Prop) → Prop} {innL : L2.St → Hp → (Hp → Prop) → Prop} (hin : Inn K inn innL) {g : DTG} {τ : DSt} {σ : L2.St} {M M1 : Mu} {H H1 : Hp} {ds : List D} {J : It} {Nx0 : Mu → Prop} {Nx : Hp → Prop}
    (hJ : ItOk K M H ds J) (rs : RepS K M H τ σ) (hN : ∀ M' H', Nx0 M' → Cor K M' H' → Stp M H M' H' → Nx H') (s1 : Stp M H M1 H1) (c1 : Cor K M1 H1) (h : wTs g tt vs τ inn Nx0 ds M1) :
    wTurns (lifGw K W0 g vs) (lif K W0 RB tt) vs σ innL Nx J H1 := by
  refine ⟨fun i m H2 => m = ds.length - i ∧ i ≤ ds.length ∧ ∃ M2, Stp M H M2 H2 ∧ Cor K M2 H2 ∧ wTs g tt vs τ inn Nx0 (ds.drop i) M2, ⟨ds.length, rfl, Nat.zero_le _, M1, s1, c1, h⟩, ?_⟩
  rintro i m H2 ⟨rfl, hi, M2, s2, c2, h2⟩
  obtain ⟨k1, k2, k3⟩ := hJ M2 H2 s2 c2
  by_cases hlt : i < ds.length
  · have e : ds.drop i = ds[i] :: ds.drop (i + 1) := List.drop_eq_getElem_cons hlt
    rw [e] at h2
    refine .inr ⟨k2 i hlt, fun H3 => ∃ M3, Stp M H M3 H3 ∧ Cor K M3 H3 ∧ wTs g tt vs τ inn Nx0 (ds.drop (i + 1)) M3, fun H3 q => ⟨ds.length - (i + 1), by omega, rfl, hlt, q⟩, fun x H3 y => ?_⟩
    obtain ⟨y1, y2, y3⟩ := k3 i ds[i] x H3 (List.getElem?_eq_getElem hlt) y
    have s3 := s2.trans y3
    refine ⟨ds[i], wipeD τ vs, M2, _, noX, y1, ⟨(rs.stp s3).wipe vs, y2, fun τ4 M4 σ4 H4 h4 r4 c4 s4 hw => ⟨hw.trans (wipe_wipe σ vs), ?_⟩, fun _ _ _ _ _ z => z.elim⟩, h2⟩
    refine ⟨τ4, M4, _, noX, ⟨r4, c4, fun b M5 b' H5 h5 r5 c5 s5 => ?_, fun _ _ _ _ _ z => z.elim⟩, h4⟩
    cases r5
    cases b with
    | false => exact ⟨M5, s3.trans (s4.trans s5), c5, h5⟩
    | true =>
      simp only [if_true] at h5 ⊢
      exact hin τ4 σ4 M5 H5 _ _ (r4.stp s5) c5 (fun M' H' n c' s' => ⟨M', s3.trans (s4.trans (s5.trans s')), c', n⟩) h5
  · have e : i = ds.length := by omega
    rw [e, List.drop_length] at h2
    exact .inl ⟨k1 i (by omega), hN M2 H2 h2 c2 s2⟩
theorem em_ok {K : PySem.W.Frag} (p : Addr) : Inn K (dEm p te) (emt p (lif K W0 (RD K) te)) := fun τ σ M H Nx0 Nx rs co hN h => by
  refine ⟨τ, M, _, noX, ⟨rs, co, fun yd M6 yv H6 h6 r6 c6 s6 => ?_, fun _ _ _ _ _ z => z.elim⟩, h⟩
  obtain ⟨acc, ha, hl, h6⟩ := h6
  obtain ⟨us, hu, ru⟩ := mu_lst c6 ha
  have st := Stp.write (H := H6) (o := .lst (us ++ [yv])) (mo' := .lst (acc ++ [yd])) ha
  exact ⟨us, hu, by rw [ru.length]; exact hl, hN _ _ h6 (c6.write ha (mo' := .lst (acc ++ [yd])) (o := .lst (us ++ [yv])) ⟨_, rfl, ru.snoc r6⟩) (s6.trans st)⟩
structure TCl where
  tg : Expr
  iter : Expr
  ifs : List Expr
  c : DCl
def TCl.cl (K : PySem.W.Frag) (c : TCl) : Cl := ⟨c.tg, c.iter, c.ifs, lif K W0 (ItOk K) c.c.ti, lifGw K W0 c.c.g c.c.vs, lif K W0 RB c.c.tt, c.c.vs⟩
theorem nst_ok {K : PySem.W.Frag} {em : DSt → Mu → (Mu → Prop) → Prop} {emL : L2.St → Hp → (Hp → Prop) → Prop} (he : Inn K em emL) : ∀ cs : List TCl, Inn K (wNst em (cs.map (·.c))) (Nst emL (cs.map (TCl.cl K)))
  | [] => he
  | c :: cs => fun τ σ M H Nx0 Nx rs co hN h =>
    ⟨τ, M, _, noX, ⟨rs, co, fun ds M1 J H1 h1 r1 c1 s1 => turns_ok (nst_ok he cs) r1 (rs.stp s1) (fun M' H' n c' s' => hN M' H' n c' (s1.trans s')) (Stp.refl M1 H1) c1 h1, fun _ _ _ _ _ z => z.elim⟩, h⟩
variable {elt tg iter : Expr} {ifs : List Expr} {scope : Scope} {own : List (Str × Nat)} {ti : DTI} {g : DTG} {cs : List TCl}
def fCl (X : Cx) (W : WX) (tg iter : Expr) (ifs : List Expr) (ti : DTI) (g : DTG) (tt : DTT) (vs : List Nat) : Cl := ⟨tg, iter, ifs, lif X.K W (ItOk X.K) ti, lifGw X.K W0 g vs, lif X.K W0 RB tt, vs⟩
theorem lif_lc {σ : L2.St} {H : Hp} {Q : VK} (h : lif X.K W (RD X.K) (dLcM ti g tt vs (cs.map (·.c)) te) σ H Q) :
    tLcN (fCl X W tg iter ifs ti g tt vs) (cs.map (TCl.cl X.K)) (lif X.K W0 (RD X.K) te) σ H Q := by
  obtain ⟨τ, M, Q0, E0, S, h⟩ := h
  refine S.sub h fun ds M1 J H1 h1 r1 S1 s1 => ?_
  intro D hD
  exact turns_ok (nst_ok (em_ok D) cs) r1 S1.rs (fun M' H' n c' s' => S1.q (.ref D) M' (.ref D) H' n rfl c' s') (Stp.newM hD) (S1.co.newM hD (mo := .lst []) ⟨[], rfl, .nil⟩) (h1 D (S1.co.free hD))
structure BlkD (B : Cx) (tg : Expr) (g : DTG) (ifs : List Expr) (tt : DTT) (vs : List Nat) (cs : List TCl) (elt : Expr) (te : DTE) : Prop where
  g : DGw B W0 tg g vs
  t : DTs B W0 ifs tt
  cs : ∀ c ∈ cs, DGw B W0 c.tg c.c.g c.c.vs ∧ DTs B W0 c.ifs c.c.tt ∧ DI B W0 c.tg c.iter c.c.ti ∧ ∀ x, foldedSetIterable c.iter B.env x = pure x
  e : DE B W0 elt te
def Dec2 : List Nat → List TCl → Bool
  | _, [] => true
  | vs, c :: cs => (c.c.vs.all fun i => decide (i ∈ vs)) && Dec2 c.c.vs cs
theorem dec_of (K : PySem.W.Frag) : ∀ {vs : List Nat} {cs : List TCl}, Dec2 vs cs = true → Dec vs (cs.map (TCl.cl K))
  | _, [], _ => trivial
  | vs, c :: cs, h => by
    unfold Dec2 at h
    rw [Bool.and_eq_true, List.all_eq_true] at h
    exact ⟨fun i hi => by simpa using h.1 i hi, dec_of K h.2⟩
theorem blk_ok {B : Cx} {W : WX} (hK : B.K = X.K) (h : BlkD B tg g ifs tt vs cs elt te) : ClOk B (fCl X W tg iter ifs ti g tt vs) ∧ (∀ x ∈ cs.map (TCl.cl X.K), ClIn B x) ∧ PE B elt (lif X.K W0 (RD X.K) te) := by
  rw [← hK]
  refine ⟨⟨by rw [fCl, ← hK]; exact h.g, by rw [fCl, ← hK]; exact h.t⟩, fun x hx => ?_, h.e⟩
  obtain ⟨c, hc, rfl⟩ := List.mem_map.mp hx
  obtain ⟨a, b, d, e⟩ := h.cs c hc
  exact ⟨⟨a, b⟩, d, e⟩
theorem de_lcN (own : List (Str × Nat)) (cs : List TCl) (G : Gd X W) (hi : DI X W tg iter ti) (hb : ∀ (s : Shared) (H : Hp) (C : Addr) (cl : List (Str × Addr)) (fp : List Addr), Gd (X.blk s H scope (compEnvC scope cl C X.env) fp) W0 → BlkD (X.blk s H scope (compEnvC scope cl C X.env) fp) tg g ifs tt (own.map (·.2)) cs elt te)
    (hd : Dec2 (own.map (·.2)) cs = true) (ok : blkC X.N X.env.scope scope own = true) (hs : ∀ x, foldedSetIterable iter X.env x = pure x) : DE X W (.ListComp elt (⟨tg, iter, ifs, 0⟩ :: cs.map (fun c => (TCl.cl X.K c).c)) scope pos) (dLcM ti g tt (own.map (·.2)) (cs.map (·.c)) te) := by
  rw [show cs.map (fun c => (TCl.cl X.K c).c) = (cs.map (TCl.cl X.K)).map Cl.c by rw [List.map_map]; rfl]
  exact PE.of (pe_lcN (c := fCl X W tg iter ifs ti g tt (@List.map (Str × Nat) Nat (fun p => p.2) own)) G.calm G.nd hi (blkOk_by ok) rfl (show Dec (own.map (·.2)) _ from dec_of X.K hd) (fun B ⟨s, H, C, cl, fp, e⟩ => by subst e; exact blk_ok rfl (hb s H C cl fp (G.blk ..))) hs) fun σ H Q h => lif_lc h
theorem ds_setLcN {spos py : Pos} {t : DTE} (j : Nat) (own : List (Str × Nat)) (cs : List TCl) (G : Gd X W) (hi : DI X W tg iter ti) (hb : ∀ (s : Shared) (H : Hp) (C : Addr) (cl : List (Str × Addr)) (fp : List Addr), Gd (X.blk s H scope (compEnvC scope cl C X.env) fp) W0 → BlkD (X.blk s H scope (compEnvC scope cl C X.env) fp) tg g ifs tt (own.map (·.2)) cs elt te)
    (hq : ∀ σ H Q, lif X.K W (RD X.K) t σ H Q → lif X.K W (RD X.K) (dLcM ti g tt (own.map (·.2)) (cs.map (·.c)) te) σ H Q)
    (hy : X.N[j]? = some x) (hyl : X.env.scope.names.lookup x = some .local) (hsw : swapsWith (.ListComp elt (⟨tg, iter, ifs, 0⟩ :: cs.map (fun c => (TCl.cl X.K c).c)) scope pos) (some (.Name x py)) spos.line X.env = pure true)
    (hd : Dec2 (own.map (·.2)) cs = true) (ok : blkC X.N X.env.scope scope own = true) (hs : ∀ x, foldedSetIterable iter X.env x = pure x) : DS X W (.Assign [.Name x py] (.ListComp elt (⟨tg, iter, ifs, 0⟩ :: cs.map (fun c => (TCl.cl X.K c).c)) scope pos) spos) (dSet j t) := by
  rw [show cs.map (fun c => (TCl.cl X.K c).c) = (cs.map (TCl.cl X.K)).map Cl.c by rw [List.map_map]; rfl] at hsw ⊢
  exact PS.of (ps_setLcN (c := fCl X W tg iter ifs ti g tt (@List.map (Str × Nat) Nat (fun p => p.2) own)) G.calm G.nd hy hyl hsw hi (blkOk_by ok) rfl (show Dec (own.map (·.2)) _ from dec_of X.K hd) (fun B ⟨s, H, C, cl, fp, e⟩ => by subst e; exact blk_ok rfl (hb s H C cl fp (G.blk ..))) hs) fun D1 σ H ⟨τ, M, D0, S, h⟩ =>
    lif_lc (hq σ H _ (S.sub h fun d M1 v H1 h1 r1 S1 s1 => S1.nx _ M1 _ H1 h1 (S1.rs.set r1 j) S1.co (Stp.refl M1 H1)))
theorem lc_frz {t : DTE} : ∀ (σ : L2.St) (H : Hp) (Q : VK), lif X.K W (RD X.K) (dFrz t) σ H Q → lif X.K W (RD X.K) t σ H Q := fun σ H Q ⟨τ, M, Q0, E0, S, h⟩ => S.sub h fun d M1 v H1 h1 r1 S1 s1 => by
  match d, h1 with
  | .ref a, h1 =>
    cases r1
    have h2 : (match M1 a with
      | some (.lst ds) => Q0 (.lst ds) (del M1 a)
      | _ => False) := h1
    split at h2
    · rename_i ds e
      obtain ⟨vs, ha, ra⟩ := mu_lst S1.co e
      exact S1.q _ _ _ _ h2 (rep_lst ha del_same (ra.stp Stp.frz)) S1.co.frz Stp.frz
    · exact h2.elim
section
variable {tg1 iter1 tg2 iter2 : Expr} {ifs1 ifs2 : List Expr} {ti1 ti2 : DTI} {g1 g2 : DTG} {tt1 tt2 : DTT} {vs1 vs2 : List Nat}
theorem bk1 (hg : DGw X W0 tg g vs) (ht : DTs X W0 ifs tt) (he : DE X W0 elt te) : BlkD X tg g ifs tt vs [] elt te := ⟨hg, ht, fun _ h => (nomatch h), he⟩
theorem bk3 (hg : DGw X W0 tg g vs) (ht : DTs X W0 ifs tt) (hi1 : DI X W0 tg1 iter1 ti1) (hg1 : DGw X W0 tg1 g1 vs1) (ht1 : DTs X W0 ifs1 tt1) (hi2 : DI X W0 tg2 iter2 ti2) (hg2 : DGw X W0 tg2 g2 vs2) (ht2 : DTs X W0 ifs2 tt2) (he : DE X W0 elt te)
    (hs : ∀ x, foldedSetIterable iter1 X.env x = pure x := by intro _; rfl) (hs2 : ∀ x, foldedSetIterable iter2 X.env x = pure x := by intro _; rfl) :
    BlkD X tg g ifs tt vs [⟨tg1, iter1, ifs1, ⟨ti1, g1, tt1, vs1⟩⟩, ⟨tg2, iter2, ifs2, ⟨ti2, g2, tt2, vs2⟩⟩] elt te := by
  refine ⟨hg, ht, fun c h => ?_, he⟩
  simp only [List.mem_cons, List.not_mem_nil, or_false] at h
  rcases h with rfl | rfl
  · exact ⟨hg1, ht1, hi1, hs⟩
  · exact ⟨hg2, ht2, hi2, hs2⟩
theorem de_lc1 (own : List (Str × Nat)) (G : Gd X W) (hi : DI X W tg iter ti) (hb : ∀ (s : Shared) (H : Hp) (C : Addr) (cl : List (Str × Addr)) (fp : List Addr), Gd (X.blk s H scope (compEnvC scope cl C X.env) fp) W0 → BlkD (X.blk s H scope (compEnvC scope cl C X.env) fp) tg g ifs tt (own.map (·.2)) [] elt te) (ok : blkC X.N X.env.scope scope own = true := by first | kernel_rfl | decide +kernel) (hs : ∀ x, foldedSetIterable iter X.env x = pure x := by intro _; rfl) :
    DE X W (.ListComp elt [⟨tg, iter, ifs, 0⟩] scope pos) (dLcM ti g tt (own.map (·.2)) [] te) := de_lcN own [] G hi hb rfl ok hs
theorem ds_setLc1 {spos py : Pos} {t : DTE} (j : Nat) (own : List (Str × Nat)) (G : Gd X W) (hi : DI X W tg iter ti) (hb : ∀ (s : Shared) (H : Hp) (C : Addr) (cl : List (Str × Addr)) (fp : List Addr), Gd (X.blk s H scope (compEnvC scope cl C X.env) fp) W0 → BlkD (X.blk s H scope (compEnvC scope cl C X.env) fp) tg g ifs tt (own.map (·.2)) [] elt te) (hq : ∀ σ H Q, lif X.K W (RD X.K) t σ H Q → lif X.K W (RD X.K) (dLcM ti g tt (own.map (·.2)) [] te) σ H Q) (ok : blkC X.N X.env.scope scope own = true := by first | kernel_rfl | decide +kernel) (hs : ∀ x, foldedSetIterable iter X.env x = pure x := by intro _; rfl)
    (hy : X.N[j]? = some x := by rfl) (hyl : X.env.scope.names.lookup x = some .local := by rfl) (hsw : swapsWith (.ListComp elt [⟨tg, iter, ifs, 0⟩] scope pos) (some (.Name x py)) spos.line X.env = pure true := by rfl) :
    DS X W (.Assign [.Name x py] (.ListComp elt [⟨tg, iter, ifs, 0⟩] scope pos) spos) (dSet j t) := ds_setLcN j own [] G hi hb hq hy hyl hsw rfl ok hs
theorem de_lc3 (own : List (Str × Nat)) (vs1 vs2 : List Nat) (G : Gd X W) (hi : DI X W tg iter ti) (hb : ∀ (s : Shared) (H : Hp) (C : Addr) (cl : List (Str × Addr)) (fp : List Addr), Gd (X.blk s H scope (compEnvC scope cl C X.env) fp) W0 → BlkD (X.blk s H scope (compEnvC scope cl C X.env) fp) tg g ifs tt (own.map (·.2)) [⟨tg1, iter1, ifs1, ⟨ti1, g1, tt1, vs1⟩⟩, ⟨tg2, iter2, ifs2, ⟨ti2, g2, tt2, vs2⟩⟩] elt te) (hd : Dec2 (own.map (·.2)) ([⟨tg1, iter1, ifs1, ⟨ti1, g1, tt1, vs1⟩⟩, ⟨tg2, iter2, ifs2, ⟨ti2, g2, tt2, vs2⟩⟩] : List TCl) = true := by rfl) (ok : blkC X.N X.env.scope scope own = true := by first | kernel_rfl | decide +kernel) (hs : ∀ x, foldedSetIterable iter X.env x = pure x := by intro _; rfl) :
    DE X W (.ListComp elt [⟨tg, iter, ifs, 0⟩, ⟨tg1, iter1, ifs1, 0⟩, ⟨tg2, iter2, ifs2, 0⟩] scope pos) (dLcM ti g tt (own.map (·.2)) [⟨ti1, g1, tt1, vs1⟩, ⟨ti2, g2, tt2, vs2⟩] te) := de_lcN own [⟨tg1, iter1, ifs1, ⟨ti1, g1, tt1, vs1⟩⟩, ⟨tg2, iter2, ifs2, ⟨ti2, g2, tt2, vs2⟩⟩] G hi hb hd ok hs
end
end
end DL
namespace DL
open PySem L2
def dJs : List DTE → Tx → DSt → Mu → (Tx → Mu → Prop) → DX → Prop
  | [], acc, _, M, Q, _ => Q acc M
  | t :: ts, acc, τ, M, Q, E => t τ M (fun x M1 => match x with
    | .str y => (acc ++ y).length ≤ 16777216 ∧ dJs ts (acc ++ y) τ M1 Q E
    | _ => False) E
def dFs (ts : List DTE) : DTE := fun τ M Q E => dJs ts [] τ M (fun out M1 => Q (.str out) M1) E
def intT (i : Int) : Tx := T (toString i)
def dFmt (te : DTE) : DTE := fun τ M Q E => te τ M (fun x M1 => match x with
  | .str y => y.length ≤ 16777216 ∧ Q (.str y) M1
  | .int i => i.natAbs.log2 < 1920 ∧ Q (.str (intT i)) M1
  | _ => False) E
inductive DJ (X : Cx) (W : WX) : List Expr → List DTE → Prop where
  | nil : DJ X W [] []
  | cons {e : Expr} {t : DTE} {es : List Expr} {ts : List DTE} (h : DE X W e t) (r : DJ X W es ts) : DJ X W (e :: es) (t :: ts)
section
variable {X : Cx} {W : WX} {a b c e e1 e2 o : Expr} {rest es : List Expr} {ta tb tc te to : DTE} {ts : List DTE} {tl : DTA} {pos apos cpos p : Pos} {name : Str}
theorem de_fmt (h : DE X W e te) : DE X W (.FormattedValue e (-1) none pos) (dFmt te) := PE.of (pe_fmt h) fun σ H Q ⟨τ, M, Q0, E0, S, h⟩ => S.sub h fun d M1 v H1 h1 r1 S1 s1 => by
  cases d with
  | str y => exact .inl ⟨sx y, r1, by rw [sx_len, line24]; exact h1.1, S1.end_ h1.2 rfl⟩
  | int i => exact .inr ⟨i, r1, h1.1, S1.end_ h1.2 (by show V.str _ = V.str (sx (T _)); rw [sx_T])⟩
  | _ => exact h1.elim
theorem dj_pj : ∀ {es : List Expr} {ts : List DTE}, DJ X W es ts → PJ X es (ts.map (lif X.K W (RD X.K)))
  | _, _, .nil => .nil
  | _, _, .cons h r => .cons h (dj_pj r)
theorem js_ok {τ : DSt} {σ : L2.St} {Q : VK} {Q0 : DK} {E0 : DX} : ∀ {ts : List DTE} {acc : Tx} {M : Mu} {H : Hp}, Sit X.K W (RD X.K) τ M σ H Q0 E0 Q → dJs ts acc τ M (fun out M1 => Q0 (.str out) M1) E0 →
    tJs (ts.map (lif X.K W (RD X.K))) (sx acc) σ H fun out H1 => Q (.str out) H1
  | [], acc, M, H, S, h => S.end_ (d := .str acc) h rfl
  | t :: ts, acc, M, H, S, h => S.sub h fun d M1 v H1 h1 r1 S1 s1 => by
    cases d with
    | str y =>
      refine ⟨sx y, r1, by rw [sx_add, sx_len, line24]; exact h1.1, ?_⟩
      rw [sx_add]
      exact js_ok S1 h1.2
    | _ => exact h1.elim
theorem de_fs (h : DJ X W (e1 :: e2 :: rest) ts) : DE X W (.JoinedStr (e1 :: e2 :: rest) pos) (dFs ts) := PE.of (pe_joined (dj_pj h)) fun σ H Q ⟨τ, M, Q0, E0, S, h⟩ => js_ok (acc := []) S h
end
def cutAt (c : Nat) : Tx → List Tx
  | [] => [[]]
  | x :: r => if x = c then [] :: cutAt c r else match cutAt c r with
    | y :: ys => (x :: y) :: ys
    | [] => [[x]]
theorem cutAt_ne (c : Nat) : ∀ t : Tx, cutAt c t ≠ []
  | [] => by simp [cutAt]
  | x :: r => by
    unfold cutAt
    split
    · simp
    · split <;> simp
def hd1 (acc : Tx) : List Tx → List Tx
  | [] => [acc]
  | y :: ys => (acc ++ y) :: ys
theorem spl_cut (c : Nat) : ∀ (t acc : Tx), TL.spl [c] 0 acc t = hd1 acc (cutAt c t)
  | [], acc => by simp [TL.spl_nil, cutAt, hd1]
  | x :: r, acc => by
    by_cases e : x = c
    · have hp : TL.pre [c] (x :: r) = true := by simp [TL.pre, e]
      rw [TL.spl_hit hp]
      show acc :: TL.spl [c] 0 [] r = _
      have hc : cutAt c (x :: r) = [] :: cutAt c r := if_pos e
      rw [spl_cut c r [], hc]
      cases h : cutAt c r with
      | nil => exact absurd h (cutAt_ne c r)
      | cons y ys => simp [hd1]
    · have hp : TL.pre [c] (x :: r) = false := by simp [TL.pre, e]
      have hc : cutAt c (x :: r) = (match cutAt c r with
        | y :: ys => (x :: y) :: ys
        | [] => [[x]]) := if_neg e
      rw [TL.spl_miss hp, spl_cut c r, hc]
      cases h : cutAt c r with
      | nil => exact absurd h (cutAt_ne c r)
      | cons y ys => simp [hd1]
theorem split_cut (c : Nat) (hc : c < 256) (t : Tx) : Txt.split (sx t) (sx [c]) = (cutAt c t).map sx := by
  have e : (Txt.split (sx t) (sx [c])).map TL.tl = TL.spl (TL.tl (sx [c])) 0 [] (TL.tl (sx t)) := TL.split_spl (sx t) (sx [c]) (by rw [tl_sx]; simp) (TL.kind_ok (by rw [← Array.all_toList]; simp [sx, hc]))
  rw [tl_sx, tl_sx, spl_cut] at e
  have e2 : hd1 [] (cutAt c t) = cutAt c t := by
    cases h : cutAt c t with
    | nil => exact absurd h (cutAt_ne c t)
    | cons y ys => simp [hd1]
  rw [e2] at e
  have := congrArg (List.map sx) e
  rw [List.map_map] at this
  have e3 : (sx ∘ TL.tl) = (id : Str → Str) := funext fun s => sx_T s
  rw [e3, List.map_id] at this
  exact this
def gSplit : DMt := fun x xs M Q => match x, xs with
  | .str a, [.str [c]] => c < 256 ∧ a.length + 2 ≤ 16777216 ∧ Q (.lst ((cutAt c a).map D.str)) M
  | _, _ => False
def gSplitM : DMt := fun x xs M Q => match x, xs with
  | .str a, [.str [c]] => c < 256 ∧ a.length + 2 ≤ 16777216 ∧ ∀ p, M p = none → Q (.ref p) (put M p (.lst ((cutAt c a).map D.str)))
  | _, _ => False
def gReverse : DMt := fun x xs M Q => match x, xs with
  | .ref a, [] => (match M a with
    | some (.lst ds) => Q .non (put M a (.lst ds.reverse))
    | _ => False)
  | _, _ => False
section
variable {K : PySem.W.Frag}
theorem md_split : MtD K gSplit (fun x xs H Q => ∃ a b, x = .str a ∧ xs = [.str b] ∧ (b.length == 0) = false ∧ a.length + 2 ≤ sizeLine ∧ rNewStrs (Txt.split a b) H Q) := fun M H x v xs vs Q0 Q c rx r h q => by
  match x, xs, h with
  | .str a, [.str [k]], h =>
    obtain ⟨u, us, rfl, r1, r2⟩ := r.uncons
    cases r2.unnil; cases rx; cases r1
    refine ⟨sx a, sx [k], rfl, rfl, by rw [sx_len]; rfl, by rw [sx_len, line24]; exact h.2.1, ?_⟩
    rw [split_cut k h.1]
    intro p hp
    exact q _ M _ _ h.2.2 (rep_lst upd_same (c.free hp) ((Reps.of_strs _).stp (Stp.new hp))) (c.new hp) (Stp.new hp)
theorem md_splitM : MtD K gSplitM (fun x xs H Q => ∃ a b, x = .str a ∧ xs = [.str b] ∧ (b.length == 0) = false ∧ a.length + 2 ≤ sizeLine ∧ rNewStrs (Txt.split a b) H Q) := fun M H x v xs vs Q0 Q c rx r h q => by
  match x, xs, h with
  | .str a, [.str [k]], h =>
    obtain ⟨u, us, rfl, r1, r2⟩ := r.uncons
    cases r2.unnil; cases rx; cases r1
    refine ⟨sx a, sx [k], rfl, rfl, by rw [sx_len]; rfl, by rw [sx_len, line24]; exact h.2.1, ?_⟩
    rw [split_cut k h.1]
    intro p hp
    exact q _ _ _ _ (h.2.2 p (c.free hp)) rfl (c.newM hp ⟨_, rfl, Reps.of_strs _⟩) (Stp.newM hp)
end
def gAllA (f : List Bool → Bool) : DCb := fun xs M Q => match xs with
  | [.lst ds] => ∃ bs : List Bool, ds = bs.map D.bl ∧ Q (.bl (f bs)) M
  | _ => False
abbrev gAll : DCb := gAllA fun bs => bs.all id
theorem cb_allA {K : PySem.W.Frag} {f : List Bool → Bool} : CbD K (gAllA f) (fun vs H Q => ∃ (a : Addr) (bs : List Bool), vs = [V.ref a] ∧ SqL K H a (bs.map V.bl) ∧ Q (.bl (f bs)) H) := fun M H xs vs Q0 Q c r h q => by
  match xs, h with
  | [.lst ds], h =>
    obtain ⟨bs, e, h⟩ := h
    subst e
    obtain ⟨v, u, rfl, r1, r2⟩ := r.uncons
    cases r2.unnil
    obtain ⟨a, ws, rfl, ha, ma, ra⟩ := rep_of_lst r1
    have e := ra.bls
    subst e
    exact ⟨a, bs, rfl, .inl (.inl ha), q _ M _ H h rfl c (Stp.refl M H)⟩
theorem cb_all {K : PySem.W.Frag} : CbD K gAll (rAll K) := cb_allA
end DL
namespace DL
open PySem L2
def dNever : DTS := fun _ _ _ => False
theorem ds_never {X : Cx} {W : WX} {st : Stmt} : DS X W st dNever := ⟨fun pins s σ H D I ⟨τ, M, D0, S, h⟩ => h.elim⟩
theorem wTs_nil {g : DTG} {tt : DTT} {vs : List Nat} {τ : DSt} {inn : DSt → Mu → (Mu → Prop) → Prop} {Nx : Mu → Prop} {M : Mu} : wTs g tt vs τ inn Nx [] M = Nx M := rfl
theorem wTs_cons {g : DTG} {tt : DTT} {vs : List Nat} {τ : DSt} {inn : DSt → Mu → (Mu → Prop) → Prop} {Nx : Mu → Prop} {M : Mu} {d : D} {ds : List D} :
    wTs g tt vs τ inn Nx (d :: ds) M = g d (wipeD τ vs) M (fun τ2 M2 => tt τ2 M2 (fun b M3 => if b = true then inn τ2 M3 (wTs g tt vs τ inn Nx ds) else wTs g tt vs τ inn Nx ds M3) noX) noX := rfl
theorem lc_by {i : Nat} {tt : DTT} {vs : List Nat} {τ : DSt} {p : Addr} {te : DTE} {Nx : Mu → Prop} {ds : List D} {M : Mu} (I : Nat → List D → Mu → Prop) (h0 : I 0 [] M) (hM : M p = some (.lst []))
    (hs : ∀ k d acc M, ds[k]? = some d → M p = some (.lst acc) → I k acc M → ∀ N : Mu → Prop,
      (∀ y M1, M1 p = some (.lst acc) → I (k + 1) (acc ++ [y]) (put M1 p (.lst (acc ++ [y]))) → N (put M1 p (.lst (acc ++ [y])))) → (∀ M1, M1 p = some (.lst acc) → I (k + 1) acc M1 → N M1) →
      tt ((wipeD τ vs).set i (some d)) M (fun b M3 => if b = true then dEm p te ((wipeD τ vs).set i (some d)) M3 N else N M3) noX)
    (hd : ∀ acc M, M p = some (.lst acc) → I ds.length acc M → Nx M) : wTs (dgName i) tt vs τ (wNst (dEm p te) []) Nx ds M := by
  have go : ∀ (n k : Nat) (acc : List D) (M : Mu), n + k = ds.length → M p = some (.lst acc) → I k acc M → wTs (dgName i) tt vs τ (wNst (dEm p te) []) Nx (ds.drop k) M := by
    intro n
    induction n with
    | zero =>
      intro k acc M e hp hi
      have e2 : k = ds.length := by omega
      rw [e2, List.drop_length]
      rw [e2] at hi
      exact hd acc M hp hi
    | succ n ih =>
      intro k acc M e hp hi
      have hlt : k < ds.length := by omega
      rw [List.drop_eq_getElem_cons hlt, wTs_cons]
      exact hs k ds[k] acc M (List.getElem?_eq_getElem hlt) hp hi _ (fun y M1 _ i' => ih (k + 1) _ _ (by omega) put_same i') fun M1 hp' i' => ih (k + 1) _ _ (by omega) hp' i'
  exact go ds.length 0 [] M (by omega) hM h0
theorem lc_pure {i : Nat} {tt : DTT} {vs : List Nat} {τ : DSt} {p : Addr} {te : DTE} {Nx : Mu → Prop} {ds : List D} {M : Mu} (f : D → D) (g : D → Bool) (hl : ds.length < 16777216)
    (ht : ∀ d ∈ ds, ∀ acc (N : Bool → Mu → Prop), N (g d) (put M p (.lst acc)) → tt ((wipeD τ vs).set i (some d)) (put M p (.lst acc)) N noX)
    (he : ∀ d ∈ ds, g d = true → ∀ acc (N : D → Mu → Prop), N (f d) (put M p (.lst acc)) → te ((wipeD τ vs).set i (some d)) (put M p (.lst acc)) N noX)
    (h : Nx (put M p (.lst ((ds.filter g).map f)))) : wTs (dgName i) tt vs τ (wNst (dEm p te) []) Nx ds (put M p (.lst [])) := by
  refine lc_by (fun k acc M' => M' = put M p (.lst acc) ∧ acc = ((ds.take k).filter g).map f) ⟨rfl, by simp⟩ put_same ?_ ?_
  · rintro k d acc M' hk hp ⟨rfl, e⟩ N hy hn
    have hm := List.mem_of_getElem? hk
    have tk : ds.take (k + 1) = ds.take k ++ [d] := by rw [List.take_succ, hk]; rfl
    refine ht d hm acc _ ?_
    cases hg : g d with
    | true =>
      simp only [if_true]
      refine he d hm hg acc _ ⟨acc, put_same, ?_, ?_⟩
      · rw [e, List.length_map]
        have := List.length_filter_le g (ds.take k)
        have h2 : (ds.take k).length ≤ ds.length := by rw [List.length_take]; omega
        rw [line24] <;> omega
      · refine hy (f d) _ put_same ⟨by rw [put_put], ?_⟩
        rw [tk, List.filter_append, List.map_append, ← e]
        simp [hg]
    | false =>
      simp only [Bool.false_eq_true, if_false]
      refine hn _ put_same ⟨rfl, ?_⟩
      rw [tk, List.filter_append, List.map_append, ← e]
      simp [hg]
  · rintro acc M' hp ⟨rfl, e⟩
    rw [List.take_length] at e
    rw [e]
    exact h
theorem lc_map {i : Nat} {vs : List Nat} {τ : DSt} {p : Addr} {te : DTE} {Nx : Mu → Prop} {ds : List D} {M : Mu} (f : D → D) (hl : ds.length < 16777216)
    (he : ∀ d ∈ ds, ∀ acc (N : D → Mu → Prop), N (f d) (put M p (.lst acc)) → te ((wipeD τ vs).set i (some d)) (put M p (.lst acc)) N noX)
    (h : Nx (put M p (.lst (ds.map f)))) : wTs (dgName i) dYes vs τ (wNst (dEm p te) []) Nx ds (put M p (.lst [])) :=
  lc_pure f (fun _ => true) hl (fun d _ acc N h => h) (fun d hd _ => he d hd) (by rw [List.filter_eq_self.mpr fun _ _ => rfl]; exact h)
def Adds (p : Addr) (M : Mu) (inn : DSt → Mu → (Mu → Prop) → Prop) (τ : DSt) (L : List D) : Prop := ∀ (acc : List D) (N : Mu → Prop), acc.length + L.length ≤ 16777216 → N (put M p (.lst (acc ++ L))) → inn τ (put M p (.lst acc)) N
theorem adds_em {p : Addr} {M : Mu} {te : DTE} {τ : DSt} {y : D} (h : ∀ (acc : List D) (N : D → Mu → Prop), N y (put M p (.lst acc)) → te τ (put M p (.lst acc)) N noX) : Adds p M (dEm p te) τ [y] := fun acc N hl hn =>
  h acc _ ⟨acc, put_same, by rw [line24]; simp at hl; omega, by rw [put_put]; exact hn⟩
theorem adds_ts {p : Addr} {M : Mu} {inn : DSt → Mu → (Mu → Prop) → Prop} {τ : DSt} {i : Nat} {vs : List Nat} {L : D → List D} {Nx : Mu → Prop} : ∀ {ds : List D} (acc : List D), (∀ d ∈ ds, Adds p M inn ((wipeD τ vs).set i (some d)) (L d)) →
    acc.length + (ds.flatMap L).length ≤ 16777216 → Nx (put M p (.lst (acc ++ ds.flatMap L))) → wTs (dgName i) dYes vs τ inn Nx ds (put M p (.lst acc))
  | [], acc, h, hl, hn => by
    rw [wTs_nil]
    simpa using hn
  | d :: ds, acc, h, hl, hn => by
    rw [wTs_cons]
    rw [List.flatMap_cons, List.length_append] at hl
    refine h d List.mem_cons_self acc _ (by omega) ?_
    refine adds_ts (acc ++ L d) (fun e he => h e (List.mem_cons_of_mem _ he)) (by rw [List.length_append]; omega) ?_
    rw [List.flatMap_cons, ← List.append_assoc] at hn
    exact hn
theorem adds_cl {p : Addr} {M : Mu} {em : DSt → Mu → (Mu → Prop) → Prop} {τ : DSt} {i : Nat} {vs : List Nat} {cs : List DCl} {ti : DTI} {ds : List D} {L : D → List D} (hi : ∀ (acc : List D) (N : List D → Mu → Prop), N ds (put M p (.lst acc)) → ti τ (put M p (.lst acc)) N noX)
    (h : ∀ d ∈ ds, Adds p M (wNst em cs) ((wipeD τ vs).set i (some d)) (L d)) : Adds p M (wNst em (⟨ti, dgName i, dYes, vs⟩ :: cs)) τ (ds.flatMap L) := fun acc N hl hn =>
  hi acc _ (adds_ts acc h hl hn)
end DL
namespace DL
open PySem L2 He
def obsX (fa : List Fa) (fn : List DefD) (gb : List (PySem.W.Frag → Bool)) (K : PySem.W.Frag) : AlD := ((obsD fa fn K).1 && gb.all (fun f => f K), (obsD fa fn K).2)
def SaysX (fa : List Fa) (fn : List DefD) (gb : List (PySem.W.Frag → Bool)) (K : PySem.W.Frag) : Prop := obsX fa fn gb K = valD fn
section
variable {fa : List Fa} {fn : List DefD} {gb : List (PySem.W.Frag → Bool)} {K : PySem.W.Frag}
theorem SaysX.d (c : SaysX fa fn gb K) : SaysD fa fn K := by
  have c1 : ((obsD fa fn K).1 && gb.all (fun f => f K)) = true := congrArg (fun z : AlD => z.1) c
  have c2 : (obsD fa fn K).2 = fn.map DefD.val := congrArg (fun z : AlD => z.2) c
  exact Prod.ext (ba c1).1 c2
theorem SaysX.b (c : SaysX fa fn gb K) (i : Nat) {f : PySem.W.Frag → Bool} (h : gb[i]? = some f := by rfl) : f K = true := by
  have c1 : ((obsD fa fn K).1 && gb.all (fun f => f K)) = true := congrArg (fun z : AlD => z.1) c
  exact List.all_eq_true.mp (ba c1).2 f (List.mem_of_getElem? h)
end
def tupF (x : Str) (zs : List Str) (K : PySem.W.Frag) : Bool := tupB K x (zs.map Dv.str)
theorem tupF_ok {K : PySem.W.Frag} {x : Str} {zs : List Str} {mg : Str → Option Value} (hm : mg x = some (.ref (ga K x))) (h : tupF x zs K = true) : ∃ f, mg x = some (.ref f) ∧ WrT K f (zs.map V.str) := by
  refine ⟨_, hm, ?_⟩
  have q := tupB_ok h (fun _ => none)
  have e : (zs.map Dv.str).map (Dv.v K) = zs.map V.str := by rw [List.map_map]; rfl
  rw [e] at q
  rcases q with z | z
  · have no : ∀ u : HO, (none : Option HO) ≠ some u := fun _ h => by cases h
    rcases (show (none : Option HO) = some _ ∨ ∃ o, (none : Option HO) = some (.frz o _) from z) with z | ⟨_, z⟩
    · exact (no _ z).elim
    · exact (no _ z).elim
  · exact z
theorem de_gtx {X : Cx} {W : WX} {x : Str} {pos : Pos} {zs : List Str} {d : D} (h : ∃ f, X.mg x = some (.ref f) ∧ WrT X.K f (zs.map V.str)) (e : D.tup (zs.map fun z => D.str (T z)) = d) (hg : Gl X x := by rfl) (hd : (x == ("__debug__" : Str)) = false := by decide) :
    DE X W (.Name x pos) (dC d) := by
  obtain ⟨f, h1, h2⟩ := h
  rw [← e]
  exact de_gt h1 h2 hg hd
end DL
namespace DL
open PySem L2
def putD (kvs : List (DKey × D)) (k : DKey) (d : D) : List (DKey × D) := if (kvs.any fun q => decide (q.1 = k)) = true then kvs.map (fun q => if q.1 = k then (q.1, d) else q) else kvs ++ [(k, d)]
def mergeD (kvs more : List (DKey × D)) : List (DKey × D) := more.foldl (fun acc q => putD acc q.1 q.2) kvs
section
variable {K : PySem.W.Frag} {M : Mu} {H : Hp}
theorem any_keys {k : DKey} : ∀ {kvs : List (DKey × D)} {ks : List (Key × V)}, ks.map (·.1) = kvs.map (fun q => kO q.1) → (ks.any fun q => decide (q.1 = kO k)) = kvs.any fun q => decide (q.1 = k)
  | [], [], _ => rfl
  | [], _ :: _, h => by cases h
  | _ :: _, [], h => by cases h
  | a :: kvs, b :: ks, h => by
    simp only [List.map_cons, List.cons.injEq] at h
    rw [List.any_cons, List.any_cons, any_keys h.2, h.1, kO_dec]
theorem map_keys {k : DKey} {d : D} {v : V} (r0 : Rep K M H d v) : ∀ {kvs : List (DKey × D)} {ks : List (Key × V)}, ks.map (·.1) = kvs.map (fun q => kO q.1) → Reps K M H (kvs.map (·.2)) (ks.map (·.2)) →
    ((ks.map fun q => if q.1 = kO k then (q.1, v) else q).map (·.1) = (kvs.map fun q => if q.1 = k then (q.1, d) else q).map (fun q => kO q.1)) ∧
      Reps K M H ((kvs.map fun q => if q.1 = k then (q.1, d) else q).map (·.2)) ((ks.map fun q => if q.1 = kO k then (q.1, v) else q).map (·.2))
  | [], [], _, _ => ⟨rfl, .nil⟩
  | [], _ :: _, h, _ => by cases h
  | _ :: _, [], h, _ => by cases h
  | a :: kvs, b :: ks, h, r => by
    simp only [List.map_cons, List.cons.injEq] at h
    obtain ⟨u, us, e, r1, r2⟩ := r.uncons
    simp only [List.map_cons, List.cons.injEq] at e
    obtain ⟨i1, i2⟩ := map_keys r0 h.2 (by rw [e.2]; exact r2)
    by_cases q : a.1 = k
    · have q2 : b.1 = kO k := by rw [h.1, q]
      simp only [List.map_cons, if_pos q, if_pos q2]
      exact ⟨by rw [i1, h.1], .cons r0 i2⟩
    · have q2 : ¬ b.1 = kO k := fun z => q (kO_inj (by rw [← h.1, z]))
      simp only [List.map_cons, if_neg q, if_neg q2]
      exact ⟨by rw [i1, h.1], .cons (by rw [e.1]; exact r1) i2⟩
theorem put_rep {k : DKey} {d : D} {v : V} (r0 : Rep K M H d v) {kvs : List (DKey × D)} {ks : List (Key × V)} (h : ks.map (·.1) = kvs.map (fun q => kO q.1)) (r : Reps K M H (kvs.map (·.2)) (ks.map (·.2))) :
    (putK ks (kO k) v).map (·.1) = (putD kvs k d).map (fun q => kO q.1) ∧ Reps K M H ((putD kvs k d).map (·.2)) ((putK ks (kO k) v).map (·.2)) := by
  unfold putK putD
  rw [any_keys h]
  split
  · exact map_keys r0 h r
  · rw [List.map_append, List.map_append, List.map_append, List.map_append, h]
    exact ⟨rfl, r.append (.cons r0 .nil)⟩
end
def dPairs : List (DTE × DTE) → DSt → Mu → (List (D × D) → Mu → Prop) → DX → Prop
  | [], _, M, Q, _ => Q [] M
  | (tk, tv) :: r, τ, M, Q, E => tk τ M (fun x M1 => tv τ M1 (fun y M2 => dPairs r τ M2 (fun ps M3 => Q ((x, y) :: ps) M3) E) E) E
def dDict (prs : List (DTE × DTE)) : DTE := fun τ M Q E => ∀ p, M p = none → dPairs prs τ (put M p (.dK [])) (fun ps M2 => M2 p = some (.dK []) ∧ ∃ kvs : List (DKey × D), ps = kvs.map (fun q => (kD q.1, q.2)) ∧ kvs.length ≤ 15 ∧ Q (.ref p) (put M2 p (.dK (mergeD [] kvs)))) E
def dDict0 : DTE := fun _ M Q _ => ∀ p, M p = none → Q (.ref p) (put M p (.dK []))
section
variable {X : Cx} {W : WX} {a b c e o i k v : Expr} {rest es : List Expr} {ta tb tc te to ti tk tv : DTE} {tl : DTA} {tt : DTT} {pos apos cpos p : Pos} {x : Str} {keys ks : List (Option Expr)} {values vs : List Expr} {prs : List (DTE × DTE)} {st : Stmt} {t : DTS}
theorem kD_rep {K : PySem.W.Frag} {M : Mu} {H : Hp} (k : DKey) : Rep K M H (kD k) (kV (kO k)) := by
  cases k <;> exact rfl
theorem de_dict0 : DE X W (.Dict [] [] pos) dDict0 := PE.of pe_dnewK fun σ H Q ⟨τ, M, Q0, E0, S, h⟩ => fun p hp =>
  S.q _ _ _ _ (h p (S.co.free hp)) rfl (S.co.newM hp ⟨[], rfl, rfl, .nil⟩) (Stp.newM hp)
def keysOf (kvs : List (DKey × D)) : List D := kvs.map fun q => kD q.1
def wForK (a : Addr) (kvs : List (DKey × D)) (u : HO) (g : DTG) (tb : DTS) (D0 : DEnds) : List D → DSt → Mu → Prop
  | [], τ, M => M a = some (.fK kvs u) ∧ D0.nx τ M
  | d :: ds, τ, M => M a = some (.fK kvs u) ∧ g d τ M (fun τ1 M1 => tb { D0 with nx := wForK a kvs u g tb D0 ds, ct := wForK a kvs u g tb D0 ds, bk := D0.nx } τ1 M1) (D0.ex τ)
def dForK (te : DTE) (g : DTG) (tb : DTS) : DTS := fun D0 τ M => te τ M (fun d M1 => match d with
  | .ref a => (match M1 a with
    | some (.fK kvs u) => wForK a kvs u g tb D0 (keysOf kvs) τ M1
    | _ => False)
  | _ => False) (D0.ex τ)
def dLock (i : Nat) (t : DTS) : DTS := fun D0 τ M => match τ[i]? with
  | some (some (.ref a)) => (match M a with
    | some (.dK kvs) => ∀ u, t ⟨fun τ' M' => M' a = some (.fK kvs u) ∧ D0.nx τ' (put M' a (.dK kvs)), fun d M' => M' a = some (.fK kvs u) ∧ D0.rt d (put M' a (.dK kvs)), fun τ' M' => M' a = some (.fK kvs u) ∧ D0.bk τ' (put M' a (.dK kvs)),
      fun τ' M' => M' a = some (.fK kvs u) ∧ D0.ct τ' (put M' a (.dK kvs)), fun _ _ _ => False⟩ τ (put M a (.fK kvs u))
    | _ => False)
  | _ => False
theorem ds_lock (j : Nat) (h : DS X W st t) : DS X W st (dLock j t) := PS.of (ps_lock h) fun D1 σ H ⟨τ, M, D0, S, hh⟩ => by
  unfold dLock at hh
  split at hh
  · rename_i a e
    split at hh
    · rename_i kvs em
      obtain ⟨ks, ha, ek, rk⟩ := mu_dK S.co em
      refine ⟨a, .dK ks, ha, trivial, fun od => ?_⟩
      have s0 := Stp.write (H := H) (o := .frz od (.dK ks)) (mo' := .fK kvs (.frz od (.dK ks))) em
      have c0 := S.co.write (o := .frz od (.dK ks)) (mo' := .fK kvs (.frz od (.dK ks))) em ⟨rfl, od, ks, rfl, ek, rk⟩
      -- back
      have back : ∀ {M' : Mu} {H' : Hp}, M' a = some (.fK kvs (.frz od (.dK ks))) → Cor X.K M' H' → Stp (put M a (.fK kvs (.frz od (.dK ks)))) (upd H a (.frz od (.dK ks))) M' H' →
          H' a = some (.frz od (.dK ks)) ∧ Cor X.K (put M' a (.dK kvs)) (upd H' a (.dK ks)) ∧ Stp M' H' (put M' a (.dK kvs)) (upd H' a (.dK ks)) ∧ Stp M H (put M' a (.dK kvs)) (upd H' a (.dK ks)) := by
        intro M' H' m c s
        obtain ⟨od', ks', q1, q2, q3, q4⟩ := mu_fK c m
        injection q2 with q5 q6
        injection q6 with q7
        subst q5 q7
        have s1 := Stp.write (H := H') (o := .dK ks) (mo' := .dK kvs) m
        exact ⟨q1, c.write m ⟨_, rfl, q3, q4⟩, s1, (s0.trans s).trans s1⟩
      refine ⟨τ, _, _, ⟨S.rs.stp s0, c0, ?_, ?_, ?_, ?_, ?_⟩, hh (.frz od (.dK ks))⟩
      · rintro τ' M' σ' H' ⟨m, n⟩ r c s
        obtain ⟨b1, b2, b3, b4⟩ := back m c s
        exact ⟨b1, S.nx _ _ _ _ n (r.stp b3) b2 b4⟩
      · rintro d M' v H' ⟨m, n⟩ r c s
        obtain ⟨b1, b2, b3, b4⟩ := back m c s
        exact ⟨b1, S.rt _ _ _ _ n (r.stp b3) b2 b4⟩
      · rintro τ' M' σ' H' ⟨m, n⟩ r c s
        obtain ⟨b1, b2, b3, b4⟩ := back m c s
        exact ⟨b1, S.bk _ _ _ _ n (r.stp b3) b2 b4⟩
      · rintro τ' M' σ' H' ⟨m, n⟩ r c s
        obtain ⟨b1, b2, b3, b4⟩ := back m c s
        exact ⟨b1, S.ct _ _ _ _ n (r.stp b3) b2 b4⟩
      · exact fun _ _ _ _ _ _ _ z => z.elim
    · exact hh.elim
  · exact hh.elim
end
end DL
namespace DL
open PySem L2 He
def gSetA : DSet := fun o i d M Q => match o, i with
  | .ref a, .int k => (match M a with
    | some (.lst ds) => (match ixN ds.length k with
      | some j => Q (put M a (.lst (ds.set j d)))
      | none => False)
    | some (.dK kvs) => kvs.length < 16777216 ∧ Q (put M a (.dK (putD kvs (.inl k) d)))
    | _ => False)
  | .ref a, .str x => (match M a with
    | some (.dK kvs) => kvs.length < 16777216 ∧ Q (put M a (.dK (putD kvs (.inr x) d)))
    | _ => False)
  | _, _ => False
theorem set_any {X : Cx} (hu : X.A.units + 1 < cLine) : PSet X (fun o i v H Q => rSetL o i v H Q ∨ rSetD o i v H Q) := by
  intro pins s σ H o i v ov iv u Q I ro ri rv h
  rcases h with h | h
  · exact set_list pins s σ H o i v ov iv u Q I ro ri rv h
  · exact set_dict hu pins s σ H o i v ov iv u Q I ro ri rv h
section
variable {X : Cx} {W : WX} {a b c e o i : Expr} {rest es : List Expr} {ta tb tc te to ti : DTE} {tl : DTA} {tt : DTT} {pos apos cpos p : Pos} {x : Str}
theorem dg_setA (G : Gd X W) (ho : DE X W o to) (hi : DE X W i ti) (ha : ∀ v, assign (.Subscript o i pos) X.env v = (do
      let ov ← holding [v] (eval o X.env)
      let iv ← holding [v, ov] (eval i X.env)
      standAt pos
      holding [v, ov, iv] (setItem ov iv v)
      release [v, ov, iv] []) := by intro _; rfl) : DG X W (.Subscript o i pos) (dgSub to ti gSetA) :=
  PG.of (pg_sub ho hi (set_any G.hu1) ha) fun v σ H Q ⟨d, τ, M, Q0, E0, r, S, h⟩ => S.sub h fun x M1 v1 H1 h1 r1 S1 s1 => S1.sub h1 fun y M2 v2 H2 h2 r2 S2 s2 => by
    have dic : ∀ {a : Addr} {k : DKey} {kvs : List (DKey × D)}, M2 a = some (.dK kvs) → kvs.length < 16777216 ∧ Q0 τ (put M2 a (.dK (putD kvs k d))) → rSetD (.ref a) (kV (kO k)) v H2 (fun H' => Q σ H') := by
      intro a k kvs e z
      obtain ⟨ks, hv, ek, ra⟩ := mu_dK S2.co e
      have hl := congrArg List.length ek
      rw [List.length_map, List.length_map] at hl
      have st := Stp.write (H := H2) (o := .dK (putK ks (kO k) v)) (mo' := .dK (putD kvs k d)) e
      obtain ⟨p1, p2⟩ := put_rep (k := k) ((r.stp s1).stp s2) ek ra
      exact ⟨a, _, rfl, DPut.k hv (by rw [line24, hl]; exact z.1), S2.q _ _ _ _ z.2 (S2.rs.stp st) (S2.co.write e ⟨_, rfl, p1, p2⟩) st⟩
    match x, y, h2 with
    | .ref a, .int k, h2 =>
      cases r1; cases r2
      have h3 : (match M2 a with
        | some (.lst ds) => (match ixN ds.length k with
          | some j => Q0 τ (put M2 a (.lst (ds.set j d)))
          | none => False)
        | some (.dK kvs) => kvs.length < 16777216 ∧ Q0 τ (put M2 a (.dK (putD kvs (.inl k) d)))
        | _ => False) := h2
      cases e : M2 a with
      | none => rw [e] at h3; exact h3.elim
      | some mo =>
        rw [e] at h3
        cases mo with
        | lst ds =>
          obtain ⟨vs, hv, ra⟩ := mu_lst S2.co e
          have h4 : (match ixN ds.length k with
            | some j => Q0 τ (put M2 a (.lst (ds.set j d)))
            | none => False) := h3
          cases e2 : ixN ds.length k with
          | none => rw [e2] at h4; exact h4.elim
          | some j =>
            rw [e2] at h4
            refine .inl ⟨a, vs, k, j, rfl, rfl, hv, by rw [ra.length]; exact e2, ?_⟩
            have st := Stp.write (H := H2) (o := .lst (vs.set j v)) (mo' := .lst (ds.set j d)) e
            exact S2.q _ _ _ _ h4 (S2.rs.stp st) (S2.co.write e ⟨_, rfl, ra.set ((r.stp s1).stp s2) j⟩) st
        | dK kvs => exact .inr (dic (k := .inl k) e h3)
        | _ => exact h3.elim
    | .ref a, .str x, h2 =>
      cases r1; cases r2
      have h3 : (match M2 a with
        | some (.dK kvs) => kvs.length < 16777216 ∧ Q0 τ (put M2 a (.dK (putD kvs (.inr x) d)))
        | _ => False) := h2
      cases e : M2 a with
      | none => rw [e] at h3; exact h3.elim
      | some mo =>
        rw [e] at h3
        cases mo with
        | dK kvs => exact .inr (dic (k := .inr x) e h3)
        | _ => exact h3.elim
end
def gEnds : DMt := fun x xs M Q => match x, xs with
  | .str a, [.str b] => Q (.bl (b.isSuffixOf a)) M
  | _, _ => False
def gInsert : DMt := fun x xs M Q => match x, xs with
  | .ref a, [.int i, y] => (match M a with
    | some (.lst ds) => ds.length < 16777216 ∧ 0 ≤ i ∧ i < 2 ^ 62 ∧ Q .non (put M a (.lst (ds.take i.toNat ++ [y] ++ ds.drop i.toNat)))
    | _ => False)
  | _, _ => False
section
variable {K : PySem.W.Frag}
theorem md_insert : MtD K gInsert (fun x vs H Q => ∃ (l : Addr) (xs : List V) (i : Int) (y : V), x = .ref l ∧ vs = [.int i, y] ∧ H l = some (.lst xs) ∧ xs.length < sizeLine ∧ 0 ≤ i ∧ i < 2 ^ 63 ∧ Q .non (upd H l (.lst (xs.take i.toNat ++ [y] ++ xs.drop i.toNat)))) := fun M H x v xs vs Q0 Q c rx r h q => by
  match x, xs, h with
  | .ref a, [.int i, y], h =>
    obtain ⟨u, us, rfl, r1, r2⟩ := r.uncons
    obtain ⟨u2, us2, rfl, r3, r4⟩ := r2.uncons
    cases r4.unnil; cases rx; cases r1
    have h2 : (match M a with
      | some (.lst ds) => ds.length < 16777216 ∧ 0 ≤ i ∧ i < 2 ^ 62 ∧ Q0 .non (put M a (.lst (ds.take i.toNat ++ [y] ++ ds.drop i.toNat)))
      | _ => False) := h
    cases e : M a with
    | none => rw [e] at h2; exact h2.elim
    | some mo =>
      rw [e] at h2
      cases mo with
      | lst ds =>
        obtain ⟨ws, ha, ra⟩ := mu_lst c e
        have h2 : ds.length < 16777216 ∧ 0 ≤ i ∧ i < 2 ^ 62 ∧ Q0 .non (put M a (.lst (ds.take i.toNat ++ [y] ++ ds.drop i.toNat))) := h2
        obtain ⟨h3, h4, h5, h6⟩ := h2
        refine ⟨a, ws, i, u2, rfl, rfl, ha, by rw [ra.length, line24]; exact h3, h4, by omega, ?_⟩
        exact q _ _ _ _ h6 rfl (c.write e ⟨_, rfl, ((ra.take _).snoc r3).append (ra.drop _)⟩) (Stp.write e)
      | _ => exact h2.elim
end
def dKd (kvs : List (Tx × Tx)) (te : DTE) : DTE := fun τ M Q E => te τ M (fun d M1 => match d with
  | .str z => (match kvs.lookup z with
    | some v => Q (.str v) M1
    | none => False)
  | _ => False) E
section
variable {X : Cx} {W : WX} {a b c e o i : Expr} {ta tb te : DTE} {pos p : Pos} {x : Str}
end
abbrev AlY : Type := AlD × List (Option (List (Option (Str × Int))))
def obsY (fa : List Fa) (fn : List DefD) (gb : List (PySem.W.Frag → Bool)) (ts : List Tab) (K : PySem.W.Frag) : AlY := (obsX fa fn gb K, ts.map fun t => dicW K (t.1 K))
def valY (fn : List DefD) (ts : List Tab) (w : World) : AlY := (valD fn, ts.map fun t => some (keysIn w.params t.2))
def SaysY (fa : List Fa) (fn : List DefD) (gb : List (PySem.W.Frag → Bool)) (ts : List Tab) (w : World) (K : PySem.W.Frag) : Prop := obsY fa fn gb ts K = valY fn ts w
section
variable {fa : List Fa} {fn : List DefD} {gb : List (PySem.W.Frag → Bool)} {ts : List Tab} {w : World} {K : PySem.W.Frag}
theorem SaysY.x (c : SaysY fa fn gb ts w K) : SaysX fa fn gb K := congrArg (fun z : AlY => z.1) c
theorem SaysY.tab (c : SaysY fa fn gb ts w K) (i : Nat) {t : Tab} (h : ts[i]? = some t := by rfl) : ∃ es n, KDict K w (t.1 K) es n := by
  have e : ts.map (fun t => dicW K (t.1 K)) = ts.map fun t => some (keysIn w.params t.2) := congrArg (fun z : AlY => z.2) c
  have e2 : (ts.map fun t => dicW K (t.1 K))[i]? = (ts.map fun t => some (keysIn w.params t.2))[i]? := by rw [e]
  rw [List.getElem?_map, List.getElem?_map, h] at e2
  exact dicW_ok (Option.some.inj e2)
end
end DL
namespace DL
open PySem L2
def gStr1 : DCb := fun xs M Q => match xs with
  | [.int i] => i.natAbs.log2 < 1920 ∧ Q (.str (intT i)) M
  | [.str x] => Q (.str x) M
  | _ => False
def gExtend : DMt := fun x xs M Q => match x, xs with
  | .ref a, [.lst zs] => (match M a with
    | some (.lst ds) => ds.length + zs.length ≤ 16777216 ∧ Q .non (put M a (.lst (ds ++ zs)))
    | _ => False)
  | .ref a, [.ref b] => (match M a, M b with
    | some (.lst ds), some (.lst zs) => ds.length + zs.length ≤ 16777216 ∧ Q .non (put M a (.lst (ds ++ zs)))
    | _, _ => False)
  | _, _ => False
def gPop : DMt := fun x xs M Q => match x, xs with
  | .ref a, [] => (match M a with
    | some (.lst ds) => (match ds.getLast? with
      | some d => Q d (put M a (.lst ds.dropLast))
      | none => False)
    | _ => False)
  | _, _ => False
def gClear : DMt := fun x xs M Q => match x, xs with
  | .ref a, [] => (match M a with
    | some (.lst ds) => Q .non (put M a (.lst []))
    | _ => False)
  | _, _ => False
section
variable {K : PySem.W.Frag}
end
def dStar (te : DTE) (tl : DTA) : DTA := fun τ M Q E => te τ M (fun d M1 => match d with
  | .lst xs => tl τ M1 (fun ys M2 => Q (xs ++ ys) M2) E
  | .tup xs => tl τ M1 (fun ys M2 => Q (xs ++ ys) M2) E
  | .ref a => (match M1 a with
    | some (.lst xs) => tl τ M1 (fun ys M2 => Q (xs ++ ys) M2) E
    | _ => False)
  | _ => False) E
end DL
namespace DL
open PySem L2
abbrev DTR := DR (Addr × List D)
def diRef (te : DTE) : DTR := fun τ M Q E => te τ M (fun d M1 => match d with
  | .ref a => (match M1 a with
    | some (.lst ds) => Q (a, ds) M1
    | _ => False)
  | _ => False) E
def wForR (a : Addr) (all : List D) (g : DTG) (tb : DTS) (D0 : DEnds) : List D → DSt → Mu → Prop
  | [], τ, M => M a = some (.lst all) ∧ D0.nx τ M
  | d :: ds, τ, M => M a = some (.lst all) ∧ g d τ M (fun τ1 M1 => tb { D0 with nx := wForR a all g tb D0 ds, ct := wForR a all g tb D0 ds, bk := D0.nx } τ1 M1) (D0.ex τ)
def dForR (tr : DTR) (g : DTG) (tb : DTS) : DTS := fun D0 τ M => tr τ M (fun q M1 => wForR q.1 q.2 g tb D0 q.2 τ M1) (D0.ex τ)
section
variable {X : Cx} {W : WX} {a b c e o i elt tg iter : Expr} {rest es : List Expr} {ta tb te to : DTE} {tt : DTT} {pos p : Pos} {x : Str} {g : DTG} {tr : DTR} {ifs : List Expr} {scope : Scope} {own : List (Str × Nat)} {vs : List Nat}
structure BlkR (B : Cx) (tg : Expr) (g : DTG) (ifs : List Expr) (tt : DTT) (vs : List Nat) (elt : Expr) (te : DTE) : Prop where
  g : DGw B W0 tg g vs
  t : DTs B W0 ifs tt
  e : DE B W0 elt te
end
end DL
namespace DL
open PySem L2
def okT (x : Tx) : Prop := ∀ c ∈ x, c < 1114112
theorem canLay_strs : ∀ {xs : List Tx}, (∀ x ∈ xs, okT x) → PyData.canLayAll0 (pds (xs.map D.str)) = true
  | [], _ => by simp [pds, PyData.canLayAll0]
  | x :: xs, h => by
    have h1 : PyData.canLay0 (pd (.str x)) = true := by
      unfold pd PyData.canLay0
      show (sx x).cps.all (· < 0x110000) = true
      rw [Array.all_eq_true]
      intro i hi
      have := h x (List.mem_cons_self ..) ((sx x).cps[i]) (by
        have : (sx x).cps[i] ∈ (sx x).cps.toList := by rw [Array.mem_toList_iff]; exact Array.getElem_mem hi
        exact this)
      exact decide_eq_true this
    rw [List.map_cons]
    unfold pds PyData.canLayAll0
    rw [h1, canLay_strs fun y hy => h y (List.mem_cons_of_mem _ hy)]
    rfl
theorem plains_strs : ∀ (xs : List Tx), plains (xs.map D.str) = true
  | [] => rfl
  | x :: xs => by
    rw [List.map_cons]
    unfold plains
    rw [plains_strs xs]
    rfl
theorem eqv_strs : ∀ (xs ys : List Tx), PyData.eqvAll (pds (xs.map D.str)) (pds (ys.map D.str)) = decide (xs = ys)
  | [], [] => by simp [pds, PyData.eqvAll]
  | [], _ :: _ => by simp [pds, PyData.eqvAll]
  | _ :: _, [] => by simp [pds, PyData.eqvAll]
  | x :: xs, y :: ys => by
    rw [List.map_cons, List.map_cons]
    unfold pds PyData.eqvAll
    rw [eqv_strs xs ys]
    unfold pd PyData.eqv
    rw [Bool.eq_iff_iff, Bool.and_eq_true, beq_iff_eq, decide_eq_true_iff, decide_eq_true_iff]
    constructor
    · rintro ⟨h1, h2⟩; rw [sx_inj h1, h2]
    · intro h; injection h with h1 h2; rw [h1, h2]; exact ⟨rfl, rfl⟩
theorem eqvL_strs (xs ys : List Tx) : PyData.eqv (.list (pds (xs.map D.str))) (.list (pds (ys.map D.str))) = decide (xs = ys) := by
  unfold PyData.eqv
  exact eqv_strs xs ys
theorem depth_strs : ∀ (xs : List Tx), PyData.depthAll (pds (xs.map D.str)) = 0
  | [] => by simp [pds, PyData.depthAll]
  | x :: xs => by
    rw [List.map_cons]
    unfold pds PyData.depthAll
    rw [depth_strs xs]
    unfold pd PyData.depth
    rfl
theorem eqOk_strs {xs : List Tx} (h : ∀ x ∈ xs, okT x) : eqOk (.lst (xs.map D.str)) = true := by
  unfold eqOk
  rw [Bool.and_eq_true]
  refine ⟨by unfold plain; exact plains_strs xs, ?_⟩
  unfold SeqAt.shaped
  rw [Bool.and_eq_true]
  unfold pd
  refine ⟨by unfold PyData.canLay0; exact canLay_strs h, ?_⟩
  unfold PyData.depth
  rw [depth_strs]
  decide
def txs (ts : List Tx) : List D := ts.map D.str
theorem txs_app (a b : List Tx) : txs (a ++ b) = txs a ++ txs b := List.map_append
theorem inD_txs {w : Tx} : ∀ {ws : List Tx}, inD (.str w) (txs ws) = decide (w ∈ ws)
  | [] => rfl
  | x :: ws => by
    have h := inD_txs (w := w) (ws := ws)
    show (eqF (.str x) (.str w) || inD (.str w) (txs ws)) = _
    rw [h]
    have e : eqF (.str x) (.str w) = decide (w = x) := by
      show (x == w) = decide (w = x)
      rw [Bool.eq_iff_iff, beq_iff_eq, decide_eq_true_iff]
      exact eq_comm
    rw [e, ← Bool.decide_or]
    exact decide_eq_decide.mpr (by simp [List.mem_cons])
theorem flat_txs : ∀ {ws : List Tx}, (txs ws).all flatD = true
  | [] => rfl
  | x :: ws => by
    show (flatD (.str x) && (txs ws).all flatD) = true
    rw [flat_txs]; rfl
end DL
namespace DL
open PySem L2
theorem pq {a b : Prop} (h : a ↔ b) : a = b := propext h
inductive Lk {α : Type} (a : α) : Type where
  | mk
def onSome {α : Type} {K : α → Prop} (_ : Lk K) (o : Option α) : Prop := match o with
  | some a => K a
  | none => False
def onBl {K : Bool → Prop} (_ : Lk K) (d : D) : Prop := match d with
  | .bl b => K b
  | _ => False
def onInt {K : Int → Prop} (_ : Lk K) (d : D) : Prop := match d with
  | .int i => K i
  | _ => False
def onStr {K : Tx → Prop} (_ : Lk K) (d : D) : Prop := match d with
  | .str y => K y
  | _ => False
def onVar {K : D → Prop} (_ : Lk K) (o : Option (Option D)) : Prop := match o with
  | some (some d) => K d
  | _ => False
def onML {K : List D → Prop} (_ : Lk K) (o : Option MO) : Prop := match o with
  | some (.lst ds) => K ds
  | _ => False
def onML2 {K : List D → Prop} {L : List (DKey × D) → Prop} (_ : Lk K) (_ : Lk L) (o : Option MO) : Prop := match o with
  | some (.lst ds) => K ds
  | some (.dK kvs) => L kvs
  | _ => False
def onML3 {K : List D → Prop} {L : List (DKey × D) → Prop} (_ : Lk K) (_ : Lk L) (o : Option MO) : Prop := match o with
  | some (.lst ds) => K ds
  | some (.dK kvs) => L kvs
  | some (.fK kvs _) => L kvs
  | _ => False
def onDR {K : List (DKey × D) → Prop} (_ : Lk K) (o : Option MO) : Prop := match o with
  | some (.dK kvs) => K kvs
  | some (.fK kvs _) => K kvs
  | _ => False
def onFK {K : List (DKey × D) → HO → Prop} (_ : Lk K) (o : Option MO) : Prop := match o with
  | some (.fK kvs u) => K kvs u
  | _ => False
theorem onML3_l {K : List D → Prop} {L : List (DKey × D) → Prop} {ds : List D} : onML3 (K := K) (L := L) ⟨⟩ ⟨⟩ (some (.lst ds)) = K ds := pq Iff.rfl
theorem onML3_d {K : List D → Prop} {L : List (DKey × D) → Prop} {ds : List (DKey × D)} : onML3 (K := K) (L := L) ⟨⟩ ⟨⟩ (some (.dK ds)) = L ds := pq Iff.rfl
theorem onML3_f {K : List D → Prop} {L : List (DKey × D) → Prop} {ds : List (DKey × D)} {u : HO} : onML3 (K := K) (L := L) ⟨⟩ ⟨⟩ (some (.fK ds u)) = L ds := pq Iff.rfl
theorem onDR_d {L : List (DKey × D) → Prop} {ds : List (DKey × D)} : onDR (K := L) ⟨⟩ (some (.dK ds)) = L ds := pq Iff.rfl
theorem onDR_f {L : List (DKey × D) → Prop} {ds : List (DKey × D)} {u : HO} : onDR (K := L) ⟨⟩ (some (.fK ds u)) = L ds := pq Iff.rfl
theorem onFK_f {L : List (DKey × D) → HO → Prop} {ds : List (DKey × D)} {u : HO} : onFK (K := L) ⟨⟩ (some (.fK ds u)) = L ds u := pq Iff.rfl
def onDK {K : List (DKey × D) → Prop} (_ : Lk K) (o : Option MO) : Prop := match o with
  | some (.dK kvs) => K kvs
  | _ => False
def truK {K : Bool → Prop} (_ : Lk K) (M : Mu) (d : D) : Prop := match d with
  | .str x => x.length ≤ 16777216 ∧ K (!x.isEmpty)
  | d => match truD M d with
    | some b => K b
    | none => False
def frzK {K : DK} (_ : Lk K) (d : D) (M : Mu) : Prop := match d with
  | .ref a => (match M a with
    | some (.lst ds) => K (.lst ds) (del M a)
    | _ => False)
  | _ => False
def isiK {K : Bool → Prop} (_ : Lk K) (o : Option String) (T : String) : Prop := match o with
  | some n => ["bool", "int", "str", "list", "tuple", "dict"].contains T = true ∧ K (isaB n T)
  | none => False
def rng1K {K : List D → Mu → Prop} (_ : Lk K) (ds : List D) (M : Mu) : Prop := match ds with
  | [.int j] => -(2 ^ 62) ≤ j ∧ j < 2 ^ 62 ∧ K (upTo 0 j.toNat) M
  | _ => False
def rng2K {K : List D → Mu → Prop} (_ : Lk K) (ds : List D) (M : Mu) : Prop := match ds with
  | [.int i, .int j] => (-(2 ^ 62) ≤ i ∧ i < 2 ^ 62 ∧ -(2 ^ 62) ≤ j ∧ j < 2 ^ 62) ∧ K (upTo i (j - i).toNat) M
  | _ => False
def fzK {K : Addr → List D → Prop} (_ : Lk K) (o : Option (Option D)) (M : Mu) : Prop := match o with
  | some (some (.ref a)) => (match M a with
    | some (.lst ds) => K a ds
    | _ => False)
  | _ => False
def fmtK {K : DK} (_ : Lk K) (d : D) (M : Mu) : Prop := match d with
  | .str y => y.length ≤ 16777216 ∧ K (.str y) M
  | .int i => i.natAbs.log2 < 1920 ∧ K (.str (intT i)) M
  | _ => False
def opK {K : DK} (_ : Lk K) (g : DOp) (x y : D) (M : Mu) : Prop := g x y M K
def unK {K : DK} (_ : Lk K) (g : DUn) (x : D) (M : Mu) : Prop := g x M K
def cbK {K : DK} (_ : Lk K) (g : DCb) (ds : List D) (M : Mu) : Prop := g ds M K
def mtK {K : DK} (_ : Lk K) (g : DMt) (x : D) (ds : List D) (M : Mu) : Prop := g x ds M K
def slK {K : DK} (_ : Lk K) (x : D) (lo hi : Option Int) (M : Mu) : Prop := gSl x lo hi M K
def callK {K : DK} {L : DX} (_ : Lk K) (_ : Lk L) (sp : DSp) (ds : List D) (M : Mu) : Prop := sp ds M K L
theorem onSome_s {α : Type} {a : α} {k : α → Prop} : onSome (K := k) ⟨⟩ (some a) = k a := pq Iff.rfl
theorem onBl_b {b : Bool} {k : Bool → Prop} : onBl (K := k) ⟨⟩ (.bl b) = k b := pq Iff.rfl
theorem onInt_i {b : Int} {k : Int → Prop} : onInt (K := k) ⟨⟩ (.int b) = k b := pq Iff.rfl
theorem onVar_s {d : D} {k : D → Prop} : onVar (K := k) ⟨⟩ (some (some d)) = k d := pq Iff.rfl
theorem onML_l {ds : List D} {k : List D → Prop} : onML (K := k) ⟨⟩ (some (.lst ds)) = k ds := pq Iff.rfl
theorem onML2_l {ds : List D} {k : List D → Prop} {l : List (DKey × D) → Prop} : onML2 (K := k) (L := l) ⟨⟩ ⟨⟩ (some (.lst ds)) = k ds := pq Iff.rfl
theorem onML2_d {ds : List (DKey × D)} {k : List D → Prop} {l : List (DKey × D) → Prop} : onML2 (K := k) (L := l) ⟨⟩ ⟨⟩ (some (.dK ds)) = l ds := pq Iff.rfl
theorem onDK_d {ds : List (DKey × D)} {l : List (DKey × D) → Prop} : onDK (K := l) ⟨⟩ (some (.dK ds)) = l ds := pq Iff.rfl
section
variable {M : Mu} {Q : DK} {k : Bool → Prop} {τ : DSt} {E : DX} {te ta tb : DTE} {tl : DTA}
theorem tru_n : truK (K := k) ⟨⟩ M .non = k false := pq Iff.rfl
theorem tru_b {b : Bool} : truK (K := k) ⟨⟩ M (.bl b) = k b := pq Iff.rfl
theorem tru_i {i : Int} : truK (K := k) ⟨⟩ M (.int i) = k (i != 0) := pq Iff.rfl
theorem tru_s {x : Tx} : truK (K := k) ⟨⟩ M (.str x) = (x.length ≤ 16777216 ∧ k (!x.isEmpty)) := pq Iff.rfl
theorem tru_l {x : List D} : truK (K := k) ⟨⟩ M (.lst x) = k (!x.isEmpty) := pq Iff.rfl
theorem tru_t {x : List D} : truK (K := k) ⟨⟩ M (.tup x) = k (!x.isEmpty) := pq Iff.rfl
theorem tru_r {a : Addr} : truK (K := k) ⟨⟩ M (.ref a) = onML2 (K := fun ds => k !ds.isEmpty) (L := fun kvs => k !kvs.isEmpty) ⟨⟩ ⟨⟩ (M a) := by
  show (match (match M a with
    | some (.lst ds) => some !ds.isEmpty
    | some (.dK kvs) => some !kvs.isEmpty
    | _ => none) with
    | some b => k b
    | none => False) = _
  unfold onML2
  cases M a with
  | none => rfl
  | some mo => cases mo <;> rfl
theorem r_var {i : Nat} : dVar i τ M Q E = onVar (K := fun d => Q d M) ⟨⟩ τ[i]? := pq Iff.rfl
theorem r_test {Qb : Bool → Mu → Prop} : dTest te τ M Qb E = te τ M (fun d M1 => onBl (K := fun b => Qb b M1) ⟨⟩ d) E := pq Iff.rfl
theorem r_tru {Qb : Bool → Mu → Prop} : dTru te τ M Qb E = te τ M (fun d M1 => truK (K := fun b => Qb b M1) ⟨⟩ M1 d) E := pq Iff.rfl
theorem r_andV : dAndV ta tb τ M Q E = ta τ M (fun d M1 => onBl (K := fun b => if b = true then tb τ M1 Q E else Q (.bl false) M1) ⟨⟩ d) E := pq Iff.rfl
theorem r_orV : dOrV ta tb τ M Q E = ta τ M (fun d M1 => onBl (K := fun b => if b = true then Q (.bl true) M1 else tb τ M1 Q E) ⟨⟩ d) E := pq Iff.rfl
theorem r_notV : dNotV ta τ M Q E = ta τ M (fun d M1 => onBl (K := fun b => Q (.bl (!b)) M1) ⟨⟩ d) E := pq Iff.rfl
theorem r_frz : dFrz te τ M Q E = te τ M (fun d M1 => frzK (K := Q) ⟨⟩ d M1) E := pq Iff.rfl
theorem frz_r {a : Addr} : frzK (K := Q) ⟨⟩ (.ref a) M = onML (K := fun ds => Q (.lst ds) (del M a)) ⟨⟩ (M a) := pq Iff.rfl
theorem r_osome {Qo : Option Int → Mu → Prop} : doSome te τ M Qo E = te τ M (fun d M1 => onInt (K := fun i => Qo (some i) M1) ⟨⟩ d) E := pq Iff.rfl
theorem sl_s {x : Tx} {lo hi : Option Int} : slK (K := Q) ⟨⟩ (.str x) lo hi M = (x.length ≤ 16777216 ∧ Q (.str (cut x lo hi)) M) := pq Iff.rfl
theorem sl_l {x : List D} {lo hi : Option Int} : slK (K := Q) ⟨⟩ (.lst x) lo hi M = Q (.lst (cut x lo hi)) M := pq Iff.rfl
theorem sl_t {x : List D} {lo hi : Option Int} : slK (K := Q) ⟨⟩ (.tup x) lo hi M = (¬ (HT.sIx x.length 0 lo = 0 ∧ HT.sIx x.length x.length hi = x.length) ∧ Q (.tup (cut x lo hi)) M) := pq Iff.rfl
theorem sl_r {a : Addr} {lo hi : Option Int} : slK (K := Q) ⟨⟩ (.ref a) lo hi M = onML (K := fun ds => Q (.lst (cut ds lo hi)) M) ⟨⟩ (M a) := pq Iff.rfl
theorem add_i {i j : Int} : opK (K := Q) ⟨⟩ gAdd (.int i) (.int j) M = Q (.int (i + j)) M := pq Iff.rfl
theorem add_s {a b : Tx} : opK (K := Q) ⟨⟩ gAdd (.str a) (.str b) M = (a.length + b.length ≤ 16777216 ∧ Q (.str (a ++ b)) M) := pq Iff.rfl
theorem add_l {a b : List D} : opK (K := Q) ⟨⟩ gAdd (.lst a) (.lst b) M = (a.length + b.length ≤ 16777216 ∧ Q (.lst (a ++ b)) M) := pq Iff.rfl
theorem add_t {a b : List D} : opK (K := Q) ⟨⟩ gAdd (.tup a) (.tup b) M = (a ≠ [] ∧ a.length + b.length ≤ 16777216 ∧ Q (.tup (a ++ b)) M) := pq Iff.rfl
theorem add_rl {p : Addr} {b : List D} : opK (K := Q) ⟨⟩ gAdd (.ref p) (.lst b) M = onML (K := fun a => a.length + b.length ≤ 16777216 ∧ Q (.lst (a ++ b)) M) ⟨⟩ (M p) := pq Iff.rfl
theorem add_lr {p : Addr} {a : List D} : opK (K := Q) ⟨⟩ gAdd (.lst a) (.ref p) M = onML (K := fun b => a.length + b.length ≤ 16777216 ∧ Q (.lst (a ++ b)) M) ⟨⟩ (M p) := pq Iff.rfl
theorem sub_i {i j : Int} : opK (K := Q) ⟨⟩ gSub (.int i) (.int j) M = Q (.int (i - j)) M := pq Iff.rfl
theorem mul_i {i j : Int} : opK (K := Q) ⟨⟩ gMul (.int i) (.int j) M = (CMul i j ∧ Q (.int (i * j)) M) := pq Iff.rfl
theorem div_i {i j : Int} : opK (K := Q) ⟨⟩ gDiv (.int i) (.int j) M = (CDiv i j ∧ Q (.int (i / j)) M) := pq Iff.rfl
theorem mod_i {i j : Int} : opK (K := Q) ⟨⟩ gMod (.int i) (.int j) M = (0 < j ∧ Q (.int (i % j)) M) := pq Iff.rfl
theorem pow_i {i j : Int} : opK (K := Q) ⟨⟩ gPow (.int i) (.int j) M = (CPow i j ∧ Q (.int (i ^ j.toNat)) M) := pq Iff.rfl
theorem neg_i {i : Int} : unK (K := Q) ⟨⟩ gNeg (.int i) M = Q (.int (-i)) M := pq Iff.rfl
theorem cmp_i {p : Int → Int → Bool} {i j : Int} : opK (K := Q) ⟨⟩ (gInt p) (.int i) (.int j) M = Q (.bl (p i j)) M := pq Iff.rfl
variable {nb : Bool → Bool}
theorem eq_i {i j : Int} : opK (K := Q) ⟨⟩ (gEqN nb) (.int i) (.int j) M = Q (.bl (nb (decide (i = j)))) M := pq Iff.rfl
theorem eq_s {i j : Tx} : opK (K := Q) ⟨⟩ (gEqN nb) (.str i) (.str j) M = Q (.bl (nb (decide (i = j)))) M := pq Iff.rfl
theorem eq_b {i j : Bool} : opK (K := Q) ⟨⟩ (gEqN nb) (.bl i) (.bl j) M = Q (.bl (nb (decide (i = j)))) M := pq Iff.rfl
theorem eq_n : opK (K := Q) ⟨⟩ (gEqN nb) .non .non M = Q (.bl (nb true)) M := pq Iff.rfl
theorem eq_l {a b : List D} : opK (K := Q) ⟨⟩ (gEqN nb) (.lst a) (.lst b) M = (eqOk (.lst a) = true ∧ eqOk (.lst b) = true ∧ Q (.bl (nb (PyData.eqv (.list (pds a)) (.list (pds b))))) M) := pq Iff.rfl
theorem eq_t {a b : List D} : opK (K := Q) ⟨⟩ (gEqN nb) (.tup a) (.tup b) M = (eqOk (.tup a) = true ∧ eqOk (.tup b) = true ∧ Q (.bl (nb (PyData.eqv (.tuple (pds a)) (.tuple (pds b))))) M) := pq Iff.rfl
theorem eq_rl {p : Addr} {b : List D} : opK (K := Q) ⟨⟩ (gEqN nb) (.ref p) (.lst b) M = onML (K := fun a => eqOk (.lst a) = true ∧ eqOk (.lst b) = true ∧ Q (.bl (nb (PyData.eqv (.list (pds a)) (.list (pds b))))) M) ⟨⟩ (M p) := pq Iff.rfl
theorem eq_lr {p : Addr} {a : List D} : opK (K := Q) ⟨⟩ (gEqN nb) (.lst a) (.ref p) M = onML (K := fun b => eqOk (.lst a) = true ∧ eqOk (.lst b) = true ∧ Q (.bl (nb (PyData.eqv (.list (pds a)) (.list (pds b))))) M) ⟨⟩ (M p) := pq Iff.rfl
theorem tt {P : Prop} : (true = true ∧ P) = P := by simp
theorem eq_ni {i : Int} : opK (K := Q) ⟨⟩ (gEqN nb) .non (.int i) M = Q (.bl (nb false)) M := tt
theorem eq_in {i : Int} : opK (K := Q) ⟨⟩ (gEqN nb) (.int i) .non M = Q (.bl (nb false)) M := tt
theorem eq_ns {i : Tx} : opK (K := Q) ⟨⟩ (gEqN nb) .non (.str i) M = Q (.bl (nb false)) M := tt
theorem eq_sn {i : Tx} : opK (K := Q) ⟨⟩ (gEqN nb) (.str i) .non M = Q (.bl (nb false)) M := tt
theorem eq_nb {i : Bool} : opK (K := Q) ⟨⟩ (gEqN nb) .non (.bl i) M = Q (.bl (nb false)) M := tt
theorem eq_bn {i : Bool} : opK (K := Q) ⟨⟩ (gEqN nb) (.bl i) .non M = Q (.bl (nb false)) M := tt
theorem eq_is {i : Int} {x : Tx} : opK (K := Q) ⟨⟩ (gEqN nb) (.int i) (.str x) M = Q (.bl (nb false)) M := tt
theorem eq_si {i : Int} {x : Tx} : opK (K := Q) ⟨⟩ (gEqN nb) (.str x) (.int i) M = Q (.bl (nb false)) M := tt
theorem ix_l {ds : List D} {i : Int} : opK (K := Q) ⟨⟩ gIx (.lst ds) (.int i) M = onSome (K := fun d => Q d M) ⟨⟩ (atI ds i) := by
  show (match atI ds i with | some d => Q d M | none => False) = _
  cases atI ds i <;> rfl
theorem ix_t {ds : List D} {i : Int} : opK (K := Q) ⟨⟩ gIx (.tup ds) (.int i) M = onSome (K := fun d => Q d M) ⟨⟩ (atI ds i) := by
  show (match atI ds i with | some d => Q d M | none => False) = _
  cases atI ds i <;> rfl
theorem ix_s {x : Tx} {i : Int} : opK (K := Q) ⟨⟩ gIx (.str x) (.int i) M = (x.length ≤ 16777216 ∧ onSome (K := fun c => Q (.str [c]) M) ⟨⟩ (atI x i)) := by
  show (x.length ≤ 16777216 ∧ (match atI x i with | some c => Q (.str [c]) M | none => False)) = _
  cases atI x i <;> rfl
theorem ix_ri {a : Addr} {i : Int} : opK (K := Q) ⟨⟩ gIx (.ref a) (.int i) M = onML3 (K := fun ds => onSome (K := fun d => Q d M) ⟨⟩ (atI ds i)) (L := fun kvs => onSome (K := fun d => Q d M) ⟨⟩ (lookK kvs (.inl i))) ⟨⟩ ⟨⟩ (M a) := by
  show (match M a with
    | some (.lst ds) => (match atI ds i with | some d => Q d M | none => False)
    | some (.dK kvs) => (match lookK kvs (.inl i) with | some d => Q d M | none => False)
    | some (.fK kvs _) => (match lookK kvs (.inl i) with | some d => Q d M | none => False)
    | _ => False) = _
  cases M a with
  | none => rfl
  | some mo => cases mo with
    | lst ds => show (match atI ds i with | some d => Q d M | none => False) = onSome (K := fun d => Q d M) ⟨⟩ (atI ds i); cases atI ds i <;> rfl
    | dK kvs => show (match lookK kvs (.inl i) with | some d => Q d M | none => False) = onSome (K := fun d => Q d M) ⟨⟩ (lookK kvs (.inl i)); cases lookK kvs (.inl i) <;> rfl
    | fK kvs u => show (match lookK kvs (.inl i) with | some d => Q d M | none => False) = onSome (K := fun d => Q d M) ⟨⟩ (lookK kvs (.inl i)); cases lookK kvs (.inl i) <;> rfl
    | _ => rfl
theorem ix_rs {a : Addr} {x : Tx} : opK (K := Q) ⟨⟩ gIx (.ref a) (.str x) M = onDR (K := fun kvs => onSome (K := fun d => Q d M) ⟨⟩ (lookK kvs (.inr x))) ⟨⟩ (M a) := by
  show (match M a with
    | some (.dK kvs) => (match lookK kvs (.inr x) with | some d => Q d M | none => False)
    | some (.fK kvs _) => (match lookK kvs (.inr x) with | some d => Q d M | none => False)
    | _ => False) = _
  cases M a with
  | none => rfl
  | some mo => cases mo with
    | dK kvs => show (match lookK kvs (.inr x) with | some d => Q d M | none => False) = onSome (K := fun d => Q d M) ⟨⟩ (lookK kvs (.inr x)); cases lookK kvs (.inr x) <;> rfl
    | fK kvs u => show (match lookK kvs (.inr x) with | some d => Q d M | none => False) = onSome (K := fun d => Q d M) ⟨⟩ (lookK kvs (.inr x)); cases lookK kvs (.inr x) <;> rfl
    | _ => rfl
theorem in_ss {c : Nat} {z : Tx} : opK (K := Q) ⟨⟩ (gInN nb) (.str [c]) (.str z) M = Q (.bl (nb (decide (c ∈ z)))) M := pq Iff.rfl
theorem in_l {x : D} {ys : List D} : opK (K := Q) ⟨⟩ (gInN nb) x (.lst ys) M = (flatD x = true ∧ ys.all flatD = true ∧ Q (.bl (nb (inD x ys))) M) := by
  cases x <;> first
    | rfl
    | (rename_i w; cases w with
      | nil => rfl
      | cons a l => cases l <;> rfl)
theorem in_t {x : D} {ys : List D} : opK (K := Q) ⟨⟩ (gInN nb) x (.tup ys) M = (flatD x = true ∧ ys.all flatD = true ∧ Q (.bl (nb (inD x ys))) M) := by
  cases x <;> first
    | rfl
    | (rename_i w; cases w with
      | nil => rfl
      | cons a l => cases l <;> rfl)
theorem in_ir {i : Int} {a : Addr} : opK (K := Q) ⟨⟩ (gInN nb) (.int i) (.ref a) M = onML3 (K := fun ys => ys.all flatD = true ∧ Q (.bl (nb (inD (.int i) ys))) M) (L := fun kvs => Q (.bl (nb (lookK kvs (.inl i)).isSome)) M) ⟨⟩ ⟨⟩ (M a) := pq Iff.rfl
theorem in_sr {x : Tx} {a : Addr} : opK (K := Q) ⟨⟩ (gInN nb) (.str x) (.ref a) M = onML3 (K := fun ys => ys.all flatD = true ∧ Q (.bl (nb (inD (.str x) ys))) M) (L := fun kvs => Q (.bl (nb (lookK kvs (.inr x)).isSome)) M) ⟨⟩ ⟨⟩ (M a) := by
  cases x with
  | nil => rfl
  | cons c l => cases l <;> rfl
theorem isn_n : opK (K := Q) ⟨⟩ (gIsNN nb) .non .non M = Q (.bl (nb true)) M := pq Iff.rfl
theorem isn_b {b : Bool} : opK (K := Q) ⟨⟩ (gIsNN nb) (.bl b) .non M = Q (.bl (nb false)) M := pq Iff.rfl
theorem isn_i {b : Int} : opK (K := Q) ⟨⟩ (gIsNN nb) (.int b) .non M = Q (.bl (nb false)) M := pq Iff.rfl
theorem isn_s {b : Tx} : opK (K := Q) ⟨⟩ (gIsNN nb) (.str b) .non M = Q (.bl (nb false)) M := pq Iff.rfl
theorem isn_r {b : Addr} : opK (K := Q) ⟨⟩ (gIsNN nb) (.ref b) .non M = Q (.bl (nb false)) M := pq Iff.rfl
theorem isn_l {b : List D} : opK (K := Q) ⟨⟩ (gIsNN nb) (.lst b) .non M = Q (.bl (nb false)) M := pq Iff.rfl
theorem isn_t {b : List D} : opK (K := Q) ⟨⟩ (gIsNN nb) (.tup b) .non M = Q (.bl (nb false)) M := pq Iff.rfl
theorem len_s {x : Tx} : cbK (K := Q) ⟨⟩ gLen [.str x] M = (x.length ≤ 16777216 ∧ Q (.int x.length) M) := pq Iff.rfl
theorem len_c {ns : List Int} : cbK (K := Q) ⟨⟩ gLen [.scr ns] M = Q (.int ns.length) M := pq Iff.rfl
theorem len_l {x : List D} : cbK (K := Q) ⟨⟩ gLen [.lst x] M = Q (.int x.length) M := pq Iff.rfl
theorem len_t {x : List D} : cbK (K := Q) ⟨⟩ gLen [.tup x] M = Q (.int x.length) M := pq Iff.rfl
theorem len_r {a : Addr} : cbK (K := Q) ⟨⟩ gLen [.ref a] M = onML2 (K := fun ds => Q (.int ds.length) M) (L := fun kvs => Q (.int kvs.length) M) ⟨⟩ ⟨⟩ (M a) := pq Iff.rfl
theorem int_i {i : Int} : cbK (K := Q) ⟨⟩ gInt1 [.int i] M = Q (.int i) M := pq Iff.rfl
theorem int_b {b : Bool} : cbK (K := Q) ⟨⟩ gInt1 [.bl b] M = Q (.int (if b then 1 else 0)) M := pq Iff.rfl
theorem min_ii {i j : Int} : cbK (K := Q) ⟨⟩ gMin2 [.int i, .int j] M = Q (.int (if j < i then j else i)) M := pq Iff.rfl
theorem max_ii {i j : Int} : cbK (K := Q) ⟨⟩ gMax2 [.int i, .int j] M = Q (.int (if j > i then j else i)) M := pq Iff.rfl
theorem list_l {x : List D} : cbK (K := Q) ⟨⟩ gList [.lst x] M = Q (.lst x) M := pq Iff.rfl
theorem list_t {x : List D} : cbK (K := Q) ⟨⟩ gList [.tup x] M = Q (.lst x) M := pq Iff.rfl
theorem list_r {a : Addr} : cbK (K := Q) ⟨⟩ gList [.ref a] M = onML (K := fun ds => Q (.lst ds) M) ⟨⟩ (M a) := pq Iff.rfl
theorem list_c {ns : List Int} : cbK (K := Q) ⟨⟩ gList [.scr ns] M = Q (.lst (ns.map D.int)) M := pq Iff.rfl
theorem listM_c {ns : List Int} : cbK (K := Q) ⟨⟩ gListM [.scr ns] M = (∀ p, M p = none → Q (.ref p) (put M p (.lst (ns.map D.int)))) := pq Iff.rfl
theorem listM_l {x : List D} : cbK (K := Q) ⟨⟩ gListM [.lst x] M = (∀ p, M p = none → Q (.ref p) (put M p (.lst x))) := pq Iff.rfl
theorem listM_t {x : List D} : cbK (K := Q) ⟨⟩ gListM [.tup x] M = (∀ p, M p = none → Q (.ref p) (put M p (.lst x))) := pq Iff.rfl
theorem listM_r {a : Addr} : cbK (K := Q) ⟨⟩ gListM [.ref a] M = onML (K := fun ds => ∀ p, M p = none → Q (.ref p) (put M p (.lst ds))) ⟨⟩ (M a) := pq Iff.rfl
theorem isi_ {d : D} {T : String} : cbK (K := Q) ⟨⟩ gIsi [d, .ty T] M = isiK (K := fun b => Q (.bl b) M) ⟨⟩ (tyD M d) T := pq Iff.rfl
theorem isi_k {n T : String} {k : Bool → Prop} : isiK (K := k) ⟨⟩ (some n) T = (["bool", "int", "str", "list", "tuple", "dict"].contains T = true ∧ k (isaB n T)) := pq Iff.rfl
theorem ty_n : tyD M .non = some "NoneType" := rfl
theorem ty_b {b : Bool} : tyD M (.bl b) = some "bool" := rfl
theorem ty_i {b : Int} : tyD M (.int b) = some "int" := rfl
theorem ty_s {b : Tx} : tyD M (.str b) = some "str" := rfl
theorem ty_l {b : List D} : tyD M (.lst b) = some "list" := rfl
theorem ty_t {b : List D} : tyD M (.tup b) = some "tuple" := rfl
theorem it_s {x : Tx} : isTy "str" M (.str x) = True := by show ("str" = "str") = True; simp
theorem it_l {x : List D} : isTy "list" M (.lst x) = True := by show ("list" = "list") = True; simp
def isTyM (T : String) (o : Option MO) : Prop := match o with
  | some (.lst _) => T = "list"
  | some (.dK _) => T = "dict"
  | some (.dT _) => T = "dict"
  | _ => False
theorem it_r {T : String} {a : Addr} : isTy T M (.ref a) = isTyM T (M a) := pq Iff.rfl
theorem itM_l {x : List D} : isTyM "list" (some (.lst x)) = True := by show ("list" = "list") = True; simp
theorem itM_d {x : List (DKey × D)} : isTyM "dict" (some (.dK x)) = True := by show ("dict" = "dict") = True; simp
theorem app_r {a : Addr} {y : D} : mtK (K := Q) ⟨⟩ gAppend (.ref a) [y] M = onML (K := fun ds => ds.length < 16777216 ∧ Q .non (put M a (.lst (ds ++ [y])))) ⟨⟩ (M a) := pq Iff.rfl
theorem rev_r {a : Addr} : mtK (K := Q) ⟨⟩ gReverse (.ref a) [] M = onML (K := fun ds => Q .non (put M a (.lst ds.reverse))) ⟨⟩ (M a) := pq Iff.rfl
theorem join_l {s : Tx} {ds : List D} : mtK (K := Q) ⟨⟩ gJoin (.str s) [.lst ds] M = (∃ ys : List Tx, ds = ys.map D.str ∧ (ys.map (·.length)).sum + ys.length * s.length ≤ 16777216 ∧ Q (.str (joinT s ys)) M) := pq Iff.rfl
theorem join_t {s : Tx} {ds : List D} : mtK (K := Q) ⟨⟩ gJoin (.str s) [.tup ds] M = (∃ ys : List Tx, ds = ys.map D.str ∧ (ys.map (·.length)).sum + ys.length * s.length ≤ 16777216 ∧ Q (.str (joinT s ys)) M) := pq Iff.rfl
theorem join_r {s : Tx} {a : Addr} : mtK (K := Q) ⟨⟩ gJoin (.str s) [.ref a] M = onML (K := fun ds => ∃ ys : List Tx, ds = ys.map D.str ∧ (ys.map (·.length)).sum + ys.length * s.length ≤ 16777216 ∧ Q (.str (joinT s ys)) M) ⟨⟩ (M a) := pq Iff.rfl
theorem starts_s {a b : Tx} : mtK (K := Q) ⟨⟩ gStarts (.str a) [.str b] M = Q (.bl (b.isPrefixOf a)) M := pq Iff.rfl
variable {d : D} {Qs : DSt → Mu → Prop}
theorem r_gtup {n : Nat} {u : DTGs} {ds : List D} : dgTup n u (.tup ds) τ M Qs E = (ds.length = n ∧ u ds τ M Qs (fun _ _ => False)) := pq Iff.rfl
theorem r_glst {n : Nat} {u : DTGs} {ds : List D} : dgLst n u (.lst ds) τ M Qs E = (ds.length = n ∧ u ds τ M Qs (fun _ _ => False)) := pq Iff.rfl
theorem r_gnil : dgNil [] τ M Qs E = Qs τ M := pq Iff.rfl
theorem r_gcons {i : Nat} {u : DTGs} {r : List D} : dgCons i u (d :: r) τ M Qs E = u r (τ.set i (some d)) M Qs E := pq Iff.rfl
def setK {K : Mu → Prop} (_ : Lk K) (g : DSet) (o i d : D) (M : Mu) : Prop := g o i d M K
theorem set_r {a : Addr} {k : Int} {Qm : Mu → Prop} : setK (K := Qm) ⟨⟩ gSetA (.ref a) (.int k) d M = onML2 (K := fun ds => onSome (K := fun j => Qm (put M a (.lst (ds.set j d)))) ⟨⟩ (ixN ds.length k)) (L := fun kvs => kvs.length < 16777216 ∧ Qm (put M a (.dK (putD kvs (.inl k) d)))) ⟨⟩ ⟨⟩ (M a) := by
  show (match M a with
    | some (.lst ds) => (match ixN ds.length k with | some j => Qm (put M a (.lst (ds.set j d))) | none => False)
    | some (.dK kvs) => kvs.length < 16777216 ∧ Qm (put M a (.dK (putD kvs (.inl k) d)))
    | _ => False) = _
  cases M a with
  | none => rfl
  | some mo => cases mo with
    | lst ds => show (match ixN ds.length k with | some j => Qm (put M a (.lst (ds.set j d))) | none => False) = onSome (K := fun j => Qm (put M a (.lst (ds.set j d)))) ⟨⟩ (ixN ds.length k); cases ixN ds.length k <;> rfl
    | _ => rfl
theorem set_rs {a : Addr} {x : Tx} {Qm : Mu → Prop} : setK (K := Qm) ⟨⟩ gSetA (.ref a) (.str x) d M = onDK (K := fun kvs => kvs.length < 16777216 ∧ Qm (put M a (.dK (putD kvs (.inr x) d)))) ⟨⟩ (M a) := pq Iff.rfl
theorem str_i {i : Int} : cbK (K := Q) ⟨⟩ gStr1 [.int i] M = (i.natAbs.log2 < 1920 ∧ Q (.str (intT i)) M) := pq Iff.rfl
theorem str_s {x : Tx} : cbK (K := Q) ⟨⟩ gStr1 [.str x] M = Q (.str x) M := pq Iff.rfl
theorem ext_l {a : Addr} {zs : List D} : mtK (K := Q) ⟨⟩ gExtend (.ref a) [.lst zs] M = onML (K := fun ds => ds.length + zs.length ≤ 16777216 ∧ Q .non (put M a (.lst (ds ++ zs)))) ⟨⟩ (M a) := pq Iff.rfl
theorem pop_r {a : Addr} : mtK (K := Q) ⟨⟩ gPop (.ref a) [] M = onML (K := fun ds => onSome (K := fun d => Q d (put M a (.lst ds.dropLast))) ⟨⟩ ds.getLast?) ⟨⟩ (M a) := by
  show (match M a with
    | some (.lst ds) => (match ds.getLast? with
      | some d => Q d (put M a (.lst ds.dropLast))
      | none => False)
    | _ => False) = _
  cases M a with
  | none => rfl
  | some mo => cases mo with
    | lst ds => show (match ds.getLast? with | some d => Q d (put M a (.lst ds.dropLast)) | none => False) = onSome (K := fun d => Q d (put M a (.lst ds.dropLast))) ⟨⟩ ds.getLast?; cases ds.getLast? <;> rfl
    | _ => rfl
theorem clr_r {a : Addr} : mtK (K := Q) ⟨⟩ gClear (.ref a) [] M = onML (K := fun _ => Q .non (put M a (.lst []))) ⟨⟩ (M a) := pq Iff.rfl
theorem ends_s {a b : Tx} : mtK (K := Q) ⟨⟩ gEnds (.str a) [.str b] M = Q (.bl (b.isSuffixOf a)) M := pq Iff.rfl
theorem ins_r {a : Addr} {i : Int} {y : D} : mtK (K := Q) ⟨⟩ gInsert (.ref a) [.int i, y] M = onML (K := fun ds => ds.length < 16777216 ∧ 0 ≤ i ∧ i < 2 ^ 62 ∧ Q .non (put M a (.lst (ds.take i.toNat ++ [y] ++ ds.drop i.toNat)))) ⟨⟩ (M a) := pq Iff.rfl
theorem r_any {Ql : List D → Mu → Prop} : diAny te τ M Ql E = te τ M (fun d M1 => onSome (K := fun ds => Ql ds M1) ⟨⟩ (itemsD d)) E := by
  unfold diAny
  congr 1
  funext d M1
  cases itemsD d <;> rfl
def scrK {K : List D → Prop} (_ : Lk K) (d : D) : Prop := match d with
  | .scr ns => K (ns.map D.int)
  | _ => False
theorem scr_c {K : List D → Prop} {ns : List Int} : scrK (K := K) ⟨⟩ (.scr ns) = K (ns.map D.int) := pq Iff.rfl
theorem r_scr {Ql : List D → Mu → Prop} : diScr te τ M Ql E = te τ M (fun d M1 => scrK (K := fun ds => Ql ds M1) ⟨⟩ d) E := by
  unfold diScr
  congr 1
theorem items_s {x : Tx} : itemsD (.str x) = some (x.map fun c => D.str [c]) := rfl
theorem items_l {x : List D} : itemsD (.lst x) = some x := rfl
theorem items_t {x : List D} : itemsD (.tup x) = some x := rfl
theorem r_rng1 {Ql : List D → Mu → Prop} : diRng1 tl τ M Ql E = tl τ M (fun ds M1 => rng1K (K := Ql) ⟨⟩ ds M1) E := pq Iff.rfl
theorem r_rng2 {Ql : List D → Mu → Prop} : diRng2 tl τ M Ql E = tl τ M (fun ds M1 => rng2K (K := Ql) ⟨⟩ ds M1) E := pq Iff.rfl
theorem rng1_i {j : Int} {Ql : List D → Mu → Prop} : rng1K (K := Ql) ⟨⟩ [.int j] M = (-(2 ^ 62) ≤ j ∧ j < 2 ^ 62 ∧ Ql (upTo 0 j.toNat) M) := pq Iff.rfl
theorem rng2_i {i j : Int} {Ql : List D → Mu → Prop} : rng2K (K := Ql) ⟨⟩ [.int i, .int j] M = ((-(2 ^ 62) ≤ i ∧ i < 2 ^ 62 ∧ -(2 ^ 62) ≤ j ∧ j < 2 ^ 62) ∧ Ql (upTo i (j - i).toNat) M) := pq Iff.rfl
theorem r_fz {i : Nat} {t : DTS} {D0 : DEnds} : dFz i t D0 τ M = fzK (K := fun a ds => t D0 (τ.set i (some (.lst ds))) (del M a)) ⟨⟩ τ[i]? M := by
  unfold dFz fzK
  cases τ[i]? with
  | none => rfl
  | some o => cases o with
    | none => rfl
    | some d => cases d with
      | ref a => show (match M a with | some (.lst ds) => t D0 (τ.set i (some (.lst ds))) (del M a) | _ => False) = (match M a with | some (.lst ds) => t D0 (τ.set i (some (.lst ds))) (del M a) | _ => False); rfl
      | _ => rfl
theorem fz_r {a : Addr} {k : Addr → List D → Prop} : fzK (K := k) ⟨⟩ (some (some (.ref a))) M = onML (K := fun ds => k a ds) ⟨⟩ (M a) := pq Iff.rfl
end
theorem onStr_s {y : Tx} {k : Tx → Prop} : onStr (K := k) ⟨⟩ (.str y) = k y := pq Iff.rfl
theorem fmt_s {y : Tx} {M : Mu} {Q : DK} : fmtK (K := Q) ⟨⟩ (.str y) M = (y.length ≤ 16777216 ∧ Q (.str y) M) := pq Iff.rfl
theorem fmt_i {i : Int} {M : Mu} {Q : DK} : fmtK (K := Q) ⟨⟩ (.int i) M = (i.natAbs.log2 < 1920 ∧ Q (.str (intT i)) M) := pq Iff.rfl
theorem ex_mk {nx : DSt → Mu → Prop} {rt : DK} {bk ct : DSt → Mu → Prop} {xc : XD → DSt → Mu → Prop} {τ : DSt} : DEnds.ex ⟨nx, rt, bk, ct, xc⟩ τ = (fun x M => xc x τ M) := funext fun _ => funext fun _ => pq Iff.rfl
section
variable {nx : DSt → Mu → Prop} {rt : DK} {bk ct : DSt → Mu → Prop} {xc : XD → DSt → Mu → Prop}
theorem nx_mk : DEnds.nx ⟨nx, rt, bk, ct, xc⟩ = nx := funext fun _ => funext fun _ => pq Iff.rfl
theorem rt_mk : DEnds.rt ⟨nx, rt, bk, ct, xc⟩ = rt := funext fun _ => funext fun _ => pq Iff.rfl
theorem bk_mk : DEnds.bk ⟨nx, rt, bk, ct, xc⟩ = bk := funext fun _ => funext fun _ => pq Iff.rfl
theorem ct_mk : DEnds.ct ⟨nx, rt, bk, ct, xc⟩ = ct := funext fun _ => funext fun _ => pq Iff.rfl
theorem xc_mk : DEnds.xc ⟨nx, rt, bk, ct, xc⟩ = xc := funext fun _ => funext fun _ => funext fun _ => pq Iff.rfl
end
section
variable {d : D} {g : DOp} {gu : DUn} {gc : DCb} {gm : DMt} {gs : DSet} {tg : DTG} {T : String} {ta tb te to : DTE} {t u : DTT} {tl : DTA} {sp : DSp} {a b : DTS} {ti : DTI} {i : Nat} {l h : DTO} {τ : DSt} {M : Mu} {Q : DK} {E : DX} {Qb : Bool → Mu → Prop} {Ql : List D → Mu → Prop} {Qo : Option Int → Mu → Prop} {Qs : DSt → Mu → Prop} {D0 : DEnds} {ts : List DTE} {acc : Tx} {Qt : Tx → Mu → Prop} {p : Addr} {Nx : Mu → Prop}
theorem u_c : dC d τ M Q E = Q d M := pq Iff.rfl
theorem u_op : dOp g ta tb τ M Q E = ta τ M (fun x M1 => tb τ M1 (fun y M2 => opK (K := Q) ⟨⟩ g x y M2) E) E := pq Iff.rfl
theorem u_un : dUn gu ta τ M Q E = ta τ M (fun x M1 => unK (K := Q) ⟨⟩ gu x M1) E := pq Iff.rfl
theorem u_and : dAnd t u τ M Qb E = t τ M (fun b M1 => if b = true then u τ M1 Qb E else Qb false M1) E := pq Iff.rfl
theorem u_or : dOr t u τ M Qb E = t τ M (fun b M1 => if b = true then Qb true M1 else u τ M1 Qb E) E := pq Iff.rfl
theorem u_not : dNot t τ M Qb E = t τ M (fun b M1 => Qb (!b) M1) E := pq Iff.rfl
theorem u_if : dIf t ta tb τ M Q E = t τ M (fun b M1 => if b = true then ta τ M1 Q E else tb τ M1 Q E) E := pq Iff.rfl
theorem u_anil : daNil τ M Ql E = Ql [] M := pq Iff.rfl
theorem u_acons : daCons te tl τ M Ql E = te τ M (fun d M1 => tl τ M1 (fun ds M2 => Ql (d :: ds) M2) E) E := pq Iff.rfl
theorem u_lst : dLst tl τ M Q E = tl τ M (fun ds M1 => ds.length ≤ 16777216 ∧ Q (.lst ds) M1) E := pq Iff.rfl
theorem u_lstM : dLstM tl τ M Q E = tl τ M (fun ds M1 => ds.length ≤ 16777216 ∧ ∀ p, M1 p = none → Q (.ref p) (put M1 p (.lst ds))) E := pq Iff.rfl
theorem u_tup : dTup tl τ M Q E = tl τ M (fun ds M1 => ds.length ≤ 16777216 ∧ Q (.tup ds) M1) E := pq Iff.rfl
theorem u_call : dCall sp tl τ M Q E = tl τ M (fun ds M1 => callK (K := Q) (L := E) ⟨⟩ ⟨⟩ sp ds M1) E := pq Iff.rfl
theorem u_sl : dSl te l h τ M Q E = te τ M (fun d M1 => l τ M1 (fun lo M2 => h τ M2 (fun hi M3 => slK (K := Q) ⟨⟩ d lo hi M3) E) E) E := pq Iff.rfl
theorem u_onone : doNone τ M Qo E = Qo none M := pq Iff.rfl
theorem u_cb : dCB gc tl τ M Q E = tl τ M (fun ds M1 => cbK (K := Q) ⟨⟩ gc ds M1) E := pq Iff.rfl
theorem u_mt : dMt T gm to tl τ M Q E = to τ M (fun d M1 => isTy T M1 d ∧ tl τ M1 (fun ds M2 => mtK (K := Q) ⟨⟩ gm d ds M2) E) E := pq Iff.rfl
theorem u_mt0 : dMt0 T gm to τ M Q E = to τ M (fun d M1 => isTy T M1 d ∧ mtK (K := Q) ⟨⟩ gm d [] M1) E := pq Iff.rfl
theorem u_pass : dPass D0 τ M = D0.nx τ M := pq Iff.rfl
theorem u_seq : dSeq a b D0 τ M = a { D0 with nx := b D0 } τ M := pq Iff.rfl
theorem u_set : dSet i te D0 τ M = te τ M (fun d M1 => D0.nx (τ.set i (some d)) M1) (D0.ex τ) := pq Iff.rfl
theorem u_asg : dAsg te tg D0 τ M = te τ M (fun d M1 => tg d τ M1 D0.nx (D0.ex τ)) (D0.ex τ) := pq Iff.rfl
theorem u_drop : dDrop te D0 τ M = te τ M (fun _ M1 => D0.nx τ M1) (D0.ex τ) := pq Iff.rfl
theorem u_ret : dRet te D0 τ M = te τ M D0.rt (D0.ex τ) := pq Iff.rfl
theorem u_retN : dRetN D0 τ M = D0.rt .non M := pq Iff.rfl
theorem u_ifs : dIfS t a b D0 τ M = t τ M (fun c M1 => if c = true then a D0 τ M1 else b D0 τ M1) (D0.ex τ) := pq Iff.rfl
theorem u_brk : dBrk D0 τ M = D0.bk τ M := pq Iff.rfl
theorem u_cnt : dCnt D0 τ M = D0.ct τ M := pq Iff.rfl
theorem u_for : dFor ti tg a D0 τ M = ti τ M (fun ds M1 => wFor tg a D0 ds τ M1) (D0.ex τ) := pq Iff.rfl
theorem u_gname : dgName i d τ M Qs E = Qs (τ.set i (some d)) M := pq Iff.rfl
theorem u_gsub : dgSub ta tb gs d τ M Qs E = ta τ M (fun o M1 => tb τ M1 (fun i M2 => setK (K := fun M3 => Qs τ M3) ⟨⟩ gs o i d M2) E) E := pq Iff.rfl
theorem u_fs : dFs ts τ M Q E = dJs ts [] τ M (fun out M1 => Q (.str out) M1) E := pq Iff.rfl
theorem u_fmt : dFmt te τ M Q E = te τ M (fun x M1 => fmtK (K := Q) ⟨⟩ x M1) E := pq Iff.rfl
theorem u_js0 : dJs [] acc τ M Qt E = Qt acc M := pq Iff.rfl
theorem u_js : dJs (te :: ts) acc τ M Qt E = te τ M (fun x M1 => onStr (K := fun y => (acc ++ y).length ≤ 16777216 ∧ dJs ts (acc ++ y) τ M1 Qt E) ⟨⟩ x) E := pq Iff.rfl
theorem u_em : dEm p te τ M Nx = te τ M (fun y M1 => ∃ acc, M1 p = some (.lst acc) ∧ acc.length < sizeLine ∧ Nx (put M1 p (.lst (acc ++ [y])))) noX := pq Iff.rfl
def onRef {K : Addr → Prop} (_ : Lk K) (d : D) : Prop := match d with
  | .ref a => K a
  | _ => False
theorem onRef_r {K : Addr → Prop} {a : Addr} : onRef (K := K) ⟨⟩ (.ref a) = K a := pq Iff.rfl
theorem u_dict {prs : List (DTE × DTE)} : dDict prs τ M Q E = ∀ p, M p = none → dPairs prs τ (put M p (.dK [])) (fun ps M2 => M2 p = some (.dK []) ∧ ∃ kvs : List (DKey × D), ps = kvs.map (fun q => (kD q.1, q.2)) ∧ kvs.length ≤ 15 ∧ Q (.ref p) (put M2 p (.dK (mergeD [] kvs)))) E := pq Iff.rfl
theorem u_dict0 : dDict0 τ M Q E = ∀ p, M p = none → Q (.ref p) (put M p (.dK [])) := pq Iff.rfl
theorem u_dp0 {Qp : List (D × D) → Mu → Prop} : dPairs [] τ M Qp E = Qp [] M := pq Iff.rfl
theorem u_dp1 {Qp : List (D × D) → Mu → Prop} {prs : List (DTE × DTE)} : dPairs ((ta, tb) :: prs) τ M Qp E = ta τ M (fun x M1 => tb τ M1 (fun y M2 => dPairs prs τ M2 (fun ps M3 => Qp ((x, y) :: ps) M3) E) E) E := pq Iff.rfl
def starK {K : List D → Mu → Prop} (_ : Lk K) (d : D) (M : Mu) : Prop := match d with
  | .lst xs => K xs M
  | .tup xs => K xs M
  | .ref a => (match M a with
    | some (.lst xs) => K xs M
    | _ => False)
  | _ => False
theorem star_l {xs : List D} : starK (K := Ql) ⟨⟩ (.lst xs) M = Ql xs M := pq Iff.rfl
theorem star_t {xs : List D} : starK (K := Ql) ⟨⟩ (.tup xs) M = Ql xs M := pq Iff.rfl
theorem star_r {a : Addr} : starK (K := Ql) ⟨⟩ (.ref a) M = onML (K := fun xs => Ql xs M) ⟨⟩ (M a) := pq Iff.rfl
theorem u_star : dStar te tl τ M Ql E = te τ M (fun d M1 => starK (K := fun xs M2 => tl τ M2 (fun ys M3 => Ql (xs ++ ys) M3) E) ⟨⟩ d M1) E := pq Iff.rfl
theorem u_ref {Qr : Addr × List D → Mu → Prop} : diRef te τ M Qr E = te τ M (fun d M1 => onRef (K := fun p => onML (K := fun ds => Qr (p, ds) M1) ⟨⟩ (M1 p)) ⟨⟩ d) E := by
  unfold diRef
  congr 1
theorem u_forR {tr : DTR} : dForR tr tg a D0 τ M = tr τ M (fun q M1 => wForR q.1 q.2 tg a D0 q.2 τ M1) (D0.ex τ) := pq Iff.rfl
theorem u_forK : dForK te tg a D0 τ M = te τ M (fun d M1 => onRef (K := fun p => onFK (K := fun kvs u => wForK p kvs u tg a D0 (keysOf kvs) τ M1) ⟨⟩ (M1 p)) ⟨⟩ d) (D0.ex τ) := pq Iff.rfl
theorem u_lock : dLock i a D0 τ M = onVar (K := fun d => onRef (K := fun p => onDK (K := fun kvs => ∀ u, a ⟨fun τ' M' => M' p = some (.fK kvs u) ∧ D0.nx τ' (put M' p (.dK kvs)), fun d M' => M' p = some (.fK kvs u) ∧ D0.rt d (put M' p (.dK kvs)), fun τ' M' => M' p = some (.fK kvs u) ∧ D0.bk τ' (put M' p (.dK kvs)),
    fun τ' M' => M' p = some (.fK kvs u) ∧ D0.ct τ' (put M' p (.dK kvs)), fun _ _ _ => False⟩ τ (put M p (.fK kvs u))) ⟨⟩ (M p)) ⟨⟩ d) ⟨⟩ τ[i]? := by
  unfold dLock
  cases τ[i]? with
  | none => rfl
  | some o => cases o with
    | none => rfl
    | some d => cases d with
      | _ => rfl
theorem u_kd {kvs : List (Tx × Tx)} : dKd kvs te τ M Q E = te τ M (fun d M1 => onStr (K := fun z => onSome (K := fun v => Q (.str v) M1) ⟨⟩ (kvs.lookup z)) ⟨⟩ d) E := by
  unfold dKd
  congr 1
  funext d M1
  cases d with
  | str z => show (match kvs.lookup z with | some v => Q (.str v) M1 | none => False) = onSome (K := fun v => Q (.str v) M1) ⟨⟩ (kvs.lookup z); cases kvs.lookup z <;> rfl
  | _ => rfl
theorem u_yes : dYes τ M Qb E = Qb true M := pq Iff.rfl
theorem u_never : dNever D0 τ M = False := pq Iff.rfl
end
end DL
namespace DL
open PySem L2 He
section
variable {X : Cx} {W : WX} {k : Nat} {A : Around} {g : Addr} {sp : Sp} {pins : List (Addr × Obj)} {σ : L2.St} {H : Hp} {s : Shared} {Q : VK} {us : List Value} {vs : List V}
theorem run_S (F : FnR X.prog X.w X.K X.mg X.base (L2N.CX X.prog X.w) k g sp) (tk : L2N.Takes X W) (hr : Room k A) (e0 : Env0 X.prog X.w X.K X.mg X.base A X.stack s H) (I : Inv X pins σ H s) (r : Vals vs us) (h : sp vs H Q (WE W σ)) :
    wpAny (model X.prog X.w) A (call (.ref g) us) (EP X pins σ Q) X.xe s := by
  refine wpAny_call (codeAny_mono (F A X.stack s H us vs Q (WE W σ) hr e0 r h) fun r s' hq => ?_)
  cases r with
  | error e => exact L2N.passAt tk σ pins H s e s' I hq
  | ok fl =>
    cases fl with
    | ret u => exact I.after hq
    | next => exact False.elim hq
    | brk => exact False.elim hq
    | cont => exact False.elim hq
end
structure FnC (P : Program) (w : World) (K : PySem.W.Frag) (mg : Str → Option Value) (base : Heap) (k : Nat) (C m : Str) (sp : DSp) : Prop where
  at_ : PySem.W.findIn K (.ref (ga K C)) m = some (some (.ref (ma K (ga K C) m)))
  fn : PySem.W.isFn K (.ref (ma K (ga K C) m)) = true
  kp : PySem.W.keepIn K (.ref (ma K (ga K C) m)) = true
  run : FnR P w K mg base (L2N.CX P w) k (ma K (ga K C) m) (lsp K sp)
theorem FnC.mono {P : Program} {w : World} {K : PySem.W.Frag} {mg : Str → Option Value} {base : Heap} {j k : Nat} {C m : Str} {sp : DSp} (F : FnC P w K mg base j C m sp) (h : j ≤ k) : FnC P w K mg base k C m sp := ⟨F.at_, F.fn, F.kp, F.run.mono h⟩
theorem _root_.L2.FnOk.fnR {P : Program} {w : World} {K : PySem.W.Frag} {mg : Str → Option Value} {base : Heap} {CX : CXT} {k : Nat} {f : Addr} {fd : FuncData} {ps : List Str} {sp : Sp} (F : FnOk P w K mg base CX k f fd ps sp) (hb : Binds K fd ps []) : FnR P w K mg base CX k f sp := by
  have q := F.raw hb .nil
  simpa using q
theorem FnC.of {P : Program} {w : World} {K : PySem.W.Frag} {mg : Str → Option Value} {base : Heap} {k : Nat} {C m : Str} {fd : FuncData} {ps : List Str} {sp : DSp} (F : FnOk P w K mg base (L2N.CX P w) k (ma K (ga K C) m) fd ps (lsp K sp))
    (M : Meth K (ga K C) m (ma K (ga K C) m)) (hb : Binds K fd ps []) : FnC P w K mg base k C m sp := ⟨M.at_, M.fn, M.kp, F.fnR hb⟩
theorem FnC.ofR {P : Program} {w : World} {K : PySem.W.Frag} {mg : Str → Option Value} {base : Heap} {k : Nat} {C m : Str} {sp : DSp} (F : FnR P w K mg base (L2N.CX P w) k (ma K (ga K C) m) (lsp K sp))
    (M : Meth K (ga K C) m (ma K (ga K C) m)) : FnC P w K mg base k C m sp := ⟨M.at_, M.fn, M.kp, F⟩
theorem FnC.meth {P : Program} {w : World} {K : PySem.W.Frag} {mg : Str → Option Value} {base : Heap} {k : Nat} {C m : Str} {sp : DSp} (F : FnC P w K mg base k C m sp) : Meth K (ga K C) m (ma K (ga K C) m) := ⟨F.at_, F.fn, F.kp⟩
section
variable {K : PySem.W.Frag} {W : WX} {τ : DSt} {M : Mu} {σ : L2.St} {H : Hp} {E0 : DX} {sp : DSp} {ds : List D} {vs : List V} {G : DK} {Q1 : VK}
theorem Sit.call {α β : Type} {R : Mu → Hp → α → β → Prop} {Q0 : α → Mu → Prop} {Q : β → Hp → Prop} (S : Sit K W R τ M σ H Q0 E0 Q) (r : Reps K M H ds vs) (h : sp ds M G E0)
    (k : ∀ d M1 v H1, G d M1 → Rep K M1 H1 d v → Sit K W R τ M1 σ H1 Q0 E0 Q → Stp M H M1 H1 → Q1 v H1) : lsp K sp vs H Q1 (WE W σ) :=
  ⟨ds, M, G, E0, r, S.co, h, fun d M' v H' g r c s => k d M' v H' g r (S.go c s) s, S.e⟩
theorem SitS.call {D0 : DEnds} {D1 : Ends} (S : SitS K W τ M σ H D0 D1) (r : Reps K M H ds vs) (h : sp ds M G (D0.ex τ))
    (k : ∀ d M1 v H1, G d M1 → Rep K M1 H1 d v → SitS K W τ M1 σ H1 D0 D1 → Stp M H M1 H1 → Q1 v H1) : lsp K sp vs H Q1 (WE W σ) :=
  ⟨ds, M, G, D0.ex τ, r, S.co, h, fun d M' v H' g r c s => k d M' v H' g r (S.go (S.rs.stp s) c s) s, fun x M' c d H' h r c' s => S.xc x τ M' c d σ H' h r (S.rs.stp s) c' s⟩
theorem SitG.call {Q0 : DSt → Mu → Prop} {Q : L2.St → Hp → Prop} (S : SitG K W τ M σ H Q0 E0 Q) (r : Reps K M H ds vs) (h : sp ds M G E0)
    (k : ∀ d M1 v H1, G d M1 → Rep K M1 H1 d v → SitG K W τ M1 σ H1 Q0 E0 Q → Stp M H M1 H1 → Q1 v H1) : lsp K sp vs H Q1 (WE W σ) :=
  ⟨ds, M, G, E0, r, S.co, h, fun d M' v H' g r c s => k d M' v H' g r ⟨S.rs.stp s, c, fun a b c d h r' c' s' => S.q a b c d h r' c' (s.trans s'), fun x M' c d H' h r c' s' => S.e x M' c d H' h r c' (s.trans s')⟩ s, S.e⟩
theorem mu_ins {a : Addr} {C : Str} {fs : List (Str × D)} (c : Cor K M H) (e : M a = some (.ins C fs)) : ∃ dx gs, H a = some (.ins (ga K C) dx gs) ∧ gs.map (·.1) = fs.map (·.1) ∧ Reps K M H (fs.map (·.2)) (gs.map (·.2)) := by
  obtain ⟨o, h1, dx, gs, rfl, h2, h3⟩ := c a _ e
  exact ⟨dx, gs, h1, h2, h3⟩
end
def putG {α : Type} (f : Str) (x : α) : List (Str × α) → List (Str × α)
  | [] => [(f, x)]
  | (g, y) :: r => if g = f then (g, x) :: r else (g, y) :: putG f x r
section
variable {K : PySem.W.Frag} {M : Mu} {H : Hp}
theorem fld_get {f : Str} : ∀ {fs : List (Str × D)} {gs : List (Str × V)} {d : D}, gs.map (·.1) = fs.map (·.1) → Reps K M H (fs.map (·.2)) (gs.map (·.2)) → fs.lookup f = some d → ∃ v, gs.lookup f = some v ∧ Rep K M H d v
  | [], _, _, _, _, e => by cases e
  | (g, x) :: r, [], _, h, _, _ => by cases h
  | (g, x) :: r, (g', y) :: r', d, h, hr, e => by
    obtain ⟨h1, h2⟩ := List.cons.inj h
    have h1 : g' = g := h1
    subst h1
    obtain ⟨v, u, e1, r1, r2⟩ := hr.uncons
    obtain ⟨e2, e3⟩ := List.cons.inj e1
    subst e2 e3
    rw [List.lookup_cons] at e ⊢
    cases q : (f == g') with
    | true =>
      rw [q] at e
      cases e
      exact ⟨_, rfl, r1⟩
    | false =>
      rw [q] at e
      exact fld_get h2 r2 e
theorem fld_put {f : Str} {d : D} {v : V} (rd : Rep K M H d v) : ∀ {fs : List (Str × D)} {gs : List (Str × V)}, gs.map (·.1) = fs.map (·.1) → Reps K M H (fs.map (·.2)) (gs.map (·.2)) →
    (putF f v gs).map (·.1) = (putG f d fs).map (·.1) ∧ Reps K M H ((putG f d fs).map (·.2)) ((putF f v gs).map (·.2))
  | [], [], _, _ => ⟨rfl, .cons rd .nil⟩
  | [], _ :: _, h, _ => by cases h
  | _ :: _, [], h, _ => by cases h
  | (g, x) :: r, (g', y) :: r', h, hr => by
    obtain ⟨h1, h2⟩ := List.cons.inj h
    have h1 : g' = g := h1
    subst h1
    obtain ⟨w, u, e1, r1, r2⟩ := hr.uncons
    obtain ⟨e2, e3⟩ := List.cons.inj e1
    subst e2 e3
    unfold putF putG
    by_cases q : g' = f
    · rw [if_pos q, if_pos q]
      exact ⟨congrArg (g' :: ·) h2, .cons rd r2⟩
    · rw [if_neg q, if_neg q]
      obtain ⟨i1, i2⟩ := fld_put rd h2 r2
      exact ⟨congrArg (g' :: ·) i1, .cons r1 i2⟩
end
def dFld (C f : Str) (te : DTE) : DTE := fun τ M Q E => te τ M (fun d M1 => match d with
  | .ref a => (match M1 a with
    | some (.ins c fs) => c = C ∧ (match fs.lookup f with
      | some x => Q x M1
      | none => False)
    | _ => False)
  | _ => False) E
def dSetF (C f : Str) (to tv : DTE) : DTS := fun D0 τ M => tv τ M (fun y M1 => to τ M1 (fun d M2 => match d with
  | .ref a => (match M2 a with
    | some (.ins c fs) => c = C ∧ fs.length < 1000 ∧ D0.nx τ (put M2 a (.ins C (putG f y fs)))
    | _ => False)
  | _ => False) (D0.ex τ)) (D0.ex τ)
def dMake (C : Str) (sp : DSp) (ta : DTA) : DTE := fun τ M Q E => ta τ M (fun ds M1 => ∀ p, M1 p = none → sp (.ref p :: ds) (put M1 p (.ins C [])) (fun d M2 => d = .non ∧ Q (.ref p) M2) E) E
def isIns (C : Str) (M : Mu) (d : D) : Prop := match d with
  | .ref a => (match M a with
    | some (.ins c _) => c = C
    | _ => False)
  | _ => False
def dBinL (C : Str) (sp : DSp) (ta tb : DTE) : DTE := fun τ M Q E => ta τ M (fun x M1 => tb τ M1 (fun y M2 => isIns C M2 x ∧ ((∃ z, y = .str z) ∨ isIns C M2 y) ∧ sp [x, y] M2 Q E) E) E
def dBinR (C : Str) (sp : DSp) (ta tb : DTE) : DTE := fun τ M Q E => ta τ M (fun x M1 => tb τ M1 (fun y M2 => (∃ z, x = .str z) ∧ isIns C M2 y ∧ sp [y, x] M2 Q E) E) E
def dInO (C : Str) (sp : DSp) (ta tb : DTE) : DTE := fun τ M Q E => ta τ M (fun y M1 => tb τ M1 (fun x M2 => isIns C M2 x ∧ sp [x, y] M2 (fun r M3 => match r with
  | .bl b => Q (.bl b) M3
  | _ => False) E) E) E
def dGetO (C : Str) (sp : DSp) (ta tb : DTE) : DTE := fun τ M Q E => ta τ M (fun x M1 => tb τ M1 (fun y M2 => isIns C M2 x ∧ sp [x, y] M2 Q E) E) E
def dgSetO (C : Str) (sp : DSp) (to ti : DTE) : DTG := fun d τ M Q E => to τ M (fun x M1 => ti τ M1 (fun y M2 => isIns C M2 x ∧ sp [x, y, d] M2 (fun _ M3 => Q τ M3) E) E) E
def dAugO (C : Str) (sp : DSp) (i : Nat) (te : DTE) : DTS := fun D0 τ M => match τ[i]? with
  | some (some x) => te τ M (fun y M1 => isIns C M1 x ∧ sp [x, y] M1 (fun r M2 => D0.nx (τ.set i (some r)) M2) (D0.ex τ)) (D0.ex τ)
  | _ => False
def onRows (C f : Str) (M : Mu) (d : D) (K : List D → Prop) : Prop := match d with
  | .ref a => (match M a with
    | some (.ins c fs) => c = C ∧ (match fs.lookup f with
      | some (.lst ds) => K ds
      | _ => False)
    | _ => False)
  | _ => False
def gLenO (C f : Str) : DCb := fun xs M Q => match xs with
  | [d] => onRows C f M d fun ds => Q (.int ds.length) M
  | _ => False
def gListO (C f : Str) : DCb := fun xs M Q => match xs with
  | [d] => onRows C f M d fun ds => Q (.lst ds) M
  | _ => False
def gListOM (C f : Str) : DCb := fun xs M Q => match xs with
  | [d] => onRows C f M d fun ds => ∀ p, M p = none → Q (.ref p) (put M p (.lst ds))
  | _ => False
theorem isIns_at {C : Str} {K : PySem.W.Frag} {M : Mu} {H : Hp} {x : D} {v : V} (h : isIns C M x) (r : Rep K M H x v) (c : Cor K M H) : ∃ a fs dx gs, x = .ref a ∧ v = .ref a ∧ M a = some (.ins C fs) ∧ H a = some (.ins (ga K C) dx gs) ∧ gs.map (·.1) = fs.map (·.1) := by
  cases x with
  | ref a =>
    cases r
    have h2 : (match M a with
      | some (.ins c _) => c = C
      | _ => False) := h
    cases e : M a with
    | none => rw [e] at h2; exact h2.elim
    | some mo =>
      rw [e] at h2
      cases mo with
      | ins c' fs =>
        cases h2
        obtain ⟨dx, gs, h1, h3, _⟩ := mu_ins c e
        exact ⟨a, fs, dx, gs, rfl, rfl, e, h1, h3⟩
      | _ => exact h2.elim
  | _ => exact h.elim
theorem onRows_at {C f : Str} {K : PySem.W.Frag} {M : Mu} {H : Hp} {x : D} {v : V} {L : List D → Prop} (h : onRows C f M x L) (r : Rep K M H x v) (c : Cor K M H) :
    ∃ a dx gs l ds vs, v = .ref a ∧ H a = some (.ins (ga K C) dx gs) ∧ gs.lookup f = some (.ref l) ∧ H l = some (.lst vs) ∧ M l = none ∧ Reps K M H ds vs ∧ L ds := by
  cases x with
  | ref a =>
    cases r
    have h2 : (match M a with
      | some (.ins c fs) => c = C ∧ (match fs.lookup f with
        | some (.lst ds) => L ds
        | _ => False)
      | _ => False) := h
    cases e : M a with
    | none => rw [e] at h2; exact h2.elim
    | some mo =>
      rw [e] at h2
      cases mo with
      | ins c' fs =>
        obtain ⟨h3, h4⟩ := h2
        subst h3
        obtain ⟨dx, gs, h1, h3, h5⟩ := mu_ins c e
        cases q : fs.lookup f with
        | none => rw [q] at h4; exact h4.elim
        | some d =>
          rw [q] at h4
          cases d with
          | lst ds =>
            obtain ⟨v, h6, h7⟩ := fld_get h3 h5 q
            obtain ⟨l, vs, rfl, h8, h9, h10⟩ := rep_of_lst h7
            exact ⟨a, dx, gs, l, ds, vs, rfl, h1, h6, h8, h9, h10, h4⟩
          | _ => exact h4.elim
      | _ => exact h2.elim
  | _ => exact h.elim
end DL
namespace DL
open PySem L2 He
abbrev FC (X : Cx) (k : Nat) (C m : Str) (sp : DSp) : Prop := FnC X.prog X.w X.K X.mg X.base k C m sp
section
variable {X : Cx} {W : WX} {a b e o i : Expr} {es : List Expr} {ta tb te to tv ti : DTE} {tl : DTA} {C f m x : Str} {sp : DSp} {k : Nat} {pos pos' apos p p2 : Pos}
theorem de_cls (hm : X.mg C = some (.ref (ga X.K C))) (hg : Gl X C := by rfl) (hd : (C == ("__debug__" : Str)) = false := by decide) : DE X W (.Name C pos) (dC (.cl C)) :=
  de_glob (v := .ref (ga X.K C)) hg hm rfl (fun M H => rfl) hd
theorem de_fld (c : Cls X.K (ga X.K C)) (n : NoAttr X.K (ga X.K C) f) (he : DE X W e te) (hb : attributeBase e f X.env (eval e X.env) = eval e X.env := by rfl) : DE X W (.Attribute e f pos) (dFld C f te) :=
  PE.of (pe_fld he hb) fun σ H Q ⟨τ, M, Q0, E0, S, h⟩ => S.sub h fun d M1 v H1 h1 r1 S1 s1 => by
    cases d with
    | ref a =>
      cases r1
      have h2 : (match M1 a with
        | some (.ins c fs) => c = C ∧ (match fs.lookup f with
          | some x => Q0 x M1
          | none => False)
        | _ => False) := h1
      cases q : M1 a with
      | none => rw [q] at h2; exact h2.elim
      | some mo =>
        rw [q] at h2
        cases mo with
        | ins c' fs =>
          obtain ⟨h3, h4⟩ := h2
          subst h3
          obtain ⟨dx, gs, g1, g2, g3⟩ := mu_ins S1.co q
          cases e1 : fs.lookup f with
          | none => rw [e1] at h4; exact h4.elim
          | some y =>
            rw [e1] at h4
            obtain ⟨v, g4, g5⟩ := fld_get g2 g3 e1
            exact ⟨a, _, dx, gs, v, rfl, g1, c, n, g4, S1.end_ h4 g5⟩
        | _ => exact h2.elim
    | _ => exact h1.elim
theorem ds_setF (c : Cls X.K (ga X.K C)) (n : NoAttr X.K (ga X.K C) f) (ho : DE X W o to) (hv : DE X W e tv) (hs : swapsWith e (some (.Attribute o f pos')) pos.line X.env = pure false := by rfl) : DS X W (.Assign [.Attribute o f pos'] e pos) (dSetF C f to tv) :=
  PS.of (ps_fld ho hv hs) fun D1 σ H ⟨τ, M, D0, S, h⟩ => S.sub h fun y M1 v1 H1 h1 r1 S1 s1 => S1.sub h1 fun d M2 v2 H2 h2 r2 S2 s2 => by
    cases d with
    | ref a =>
      cases r2
      have h3 : (match M2 a with
        | some (.ins c fs) => c = C ∧ fs.length < 1000 ∧ D0.nx τ (put M2 a (.ins C (putG f y fs)))
        | _ => False) := h2
      cases q : M2 a with
      | none => rw [q] at h3; exact h3.elim
      | some mo =>
        rw [q] at h3
        cases mo with
        | ins c' fs =>
          obtain ⟨h4, h5, h6⟩ := h3
          subst h4
          obtain ⟨dx, gs, g1, g2, g3⟩ := mu_ins S2.co q
          obtain ⟨p1, p3⟩ := fld_put (f := f) (r1.stp s2) g2 g3
          have hl := congrArg List.length g2
          rw [List.length_map, List.length_map] at hl
          have st : Stp M2 H2 (put M2 a (.ins c' (putG f y fs))) (upd H2 a (.ins (ga X.K c') dx (putF f v1 gs))) := Stp.write q
          exact ⟨a, _, dx, gs, rfl, g1, c, n, by rw [hl]; exact h5, S2.nx τ _ σ _ h6 (S2.rs.stp st) (S2.co.write q ⟨dx, _, rfl, p1, p3⟩) st⟩
        | _ => exact h3.elim
    | _ => exact h2.elim
theorem run_makeS {pins : List (Addr × Obj)} {σ : L2.St} {H : Hp} {s : Shared} {Q : VK} {us : List Value} {vs : List V} {Ca fa : Addr} {spv : Sp} (M : Mk X.K Ca fa) (F : FnR X.prog X.w X.K X.mg X.base (L2N.CX X.prog X.w) k fa spv) (tk : L2N.Takes X W) (hr : Room (k + 1) X.A) (I : Inv X pins σ H s) (r : Vals vs us)
    (h : ∀ x dx, H x = Option.none → H dx = Option.none → dx ≠ x → spv (V.ref x :: vs) (upd (upd H dx (.own x)) x (.ins Ca dx [])) (fun v H2 => v = .non ∧ Q (.ref x) H2) (WE W σ)) :
    wpAny (model X.prog X.w) X.A (call (.ref Ca) us) (EP X pins σ Q) X.xe s := by
  have hq := h (s.heap.objs.size + 1) s.heap.objs.size (I.hok.fresh (Nat.le_succ _)) (I.hok.fresh (Nat.le_refl _)) (Nat.ne_of_lt (Nat.lt_succ_self _))
  have I2 := Inv.made (C := Ca) I
  have r2 : Vals (V.ref (s.heap.objs.size + 1) :: vs) (Value.ref (s.heap.objs.size + 1) :: us) := .cons rfl r
  refine wpAny_call (make_map (f := fa) I.kIn M.makes M.init (beq_iff_eq.mp M.fn) (codeAny_mono (F _ X.stack _ _ (Value.ref (s.heap.objs.size + 1) :: us) _ _ (WE W σ) (hr.make Ca us []) (I2.env0.make Ca us []) r2 hq) fun r s' hq' => ?_))
  cases r with
  | error e => exact L2N.passAt tk σ pins _ _ e s' I2 hq'
  | ok fl =>
    cases fl with
    | ret u =>
      obtain ⟨v, H', I3, rv, ev, q3⟩ := I2.after hq'
      subst ev
      exact ⟨rv, ⟨V.ref (s.heap.objs.size + 1), H', I3, rfl, q3⟩⟩
    | next => exact False.elim hq'
    | brk => exact False.elim hq'
    | cont => exact False.elim hq'
theorem make_of {τ : DSt} {M : Mu} {σ : L2.St} {H : Hp} {Q0 : DK} {E0 : DX} {Q : VK} {ds : List D} {vs : List V} (S : Sit X.K W (RD X.K) τ M σ H Q0 E0 Q) (r : Reps X.K M H ds vs)
    (h : ∀ p, M p = none → sp (.ref p :: ds) (put M p (.ins C [])) (fun d M2 => d = .non ∧ Q0 (.ref p) M2) E0) (x dx : Addr) (hx : H x = none) (hd : H dx = none) (hn : dx ≠ x) :
    lsp X.K sp (V.ref x :: vs) (upd (upd H dx (.own x)) x (.ins (ga X.K C) dx [])) (fun v H2 => v = .non ∧ Q (.ref x) H2) (WE W σ) := by
  have s1 : Stp M H M (upd H dx (.own x)) := Stp.new hd
  have hx' : upd H dx (.own x) x = none := by rw [upd_ne (Ne.symm hn)]; exact hx
  have s2 : Stp M (upd H dx (.own x)) (put M x (.ins C [])) (upd (upd H dx (.own x)) x (.ins (ga X.K C) dx [])) := Stp.newM hx'
  have st := s1.trans s2
  exact ⟨.ref x :: ds, _, _, E0, .cons rfl (r.stp st), (S.co.new hd).newM hx' ⟨dx, [], rfl, rfl, .nil⟩, h x (S.co.free hx),
    fun d M' v H' q r c s' => by obtain ⟨rfl, q⟩ := q; exact ⟨r, S.q _ M' _ H' q rfl c (st.trans s')⟩, fun y M' c d H' q r c' s' => S.e y M' c d H' q r c' (st.trans s')⟩
end
end DL
namespace DL
open PySem L2 He
section
variable {X : Cx} {W : WX} {a b e o i : Expr} {es : List Expr} {ta tb te to tv ti : DTE} {tl : DTA} {C f m x : Str} {sp : DSp} {k : Nat} {pos pos' apos p p2 : Pos}
theorem run_C {pins : List (Addr × Obj)} {σ : L2.St} {H : Hp} {s : Shared} {Q : VK} {us : List Value} {vs : List V} {A : Around} (F : FC X k C m sp) (G : Gd X W) (hr : Room k A) (e0 : Env0 X.prog X.w X.K X.mg X.base A X.stack s H) (I : Inv X pins σ H s) (r : Vals vs us)
    (h : lsp X.K sp vs H Q (WE W σ)) : wpAny (model X.prog X.w) A (call (.ref (ma X.K (ga X.K C) m)) us) (EP X pins σ Q) X.xe s := run_S F.run G.tk hr e0 I r h
end
end DL
namespace DL
open PySem L2 He
section
variable {X : Cx} {W : WX} {a b e o i : Expr} {es : List Expr} {ta tb te to tv ti : DTE} {tl : DTA} {C f m x : Str} {sp : DSp} {k : Nat} {pos pos' apos p p2 : Pos}
theorem ds_augO {op : Operator} (j : Nat) (F : FC X k C (dunderI op.info.2) sp) (O : PySem.W.selfFirst X.K (ga X.K C) = true) (G : Gd X W) (hr : Room k X.A) (he : DE X W e te) (hi : X.N[j]? = some x := by rfl) (hx : Loc X.env.scope x := by first | exact .inl rfl | exact .inr rfl)
    (hf : X.fn x = true ∨ X.env.scope.names.lookup x = some .local := by first | exact .inl rfl | exact .inr rfl) : DS X W (.AugAssign (.Name x pos') op e pos) (dAugO C sp j te) := by
  refine ⟨fun pins s σ H D1 I h => ?_⟩
  obtain ⟨τ, M, D0, S, h⟩ := h
  unfold dAugO at h
  split at h
  · rename_i d ed
    obtain ⟨v, e1, rd⟩ := S.rs.get ed
    obtain ⟨m, hn, hl⟩ := I.loc
    have vis : Vis X.env.scope x := by rcases hx with k | k; exact .inl k; exact .inr (.inl k)
    obtain ⟨u, r, l⟩ := hl j x v hi e1 vis
    refine wpAny_AugAssign_Name ?_
    have go : wpAny (model X.prog X.w) X.A (eval e X.env) (fun w s₂ => wpAny (model X.prog X.w) X.A (inplaceOp op u w) (fun r s₃ => wpAny (model X.prog X.w) X.A (storeName X.env x r) (fun _ => SP X pins D1 .next) X.xe s₃) X.xe s₂) X.xe s := by
      refine thn (he.run pins s σ H _ I (S.sub (Q1 := fun z H1 => ∃ y M1, Rep X.K M1 H1 y z ∧ Rep X.K M1 H1 d v ∧ SitS X.K W τ M1 σ H1 D0 D1 ∧ isIns C M1 d ∧ sp [d, y] M1 (fun r M2 => D0.nx (τ.set j (some r)) M2) (D0.ex τ)) h fun y M1 z H1 h1 r1 S1 s1 => ⟨y, M1, r1, rd.stp s1, S1, h1⟩)) fun w s1 ⟨z, H1, I1, rz, y, M1, ry, rd1, S1, h1⟩ => ?_
      obtain ⟨a, fs, dx, gs, rfl, rfl, hM, hH, _⟩ := isIns_at h1.1 rd1 S1.co
      cases r
      obtain ⟨mA, O1, _⟩ := ins_get I1.hok hH
      obtain ⟨od, J, _⟩ := O1.look
      obtain ⟨m0, hF⟩ := I1.fr
      refine PySem.W.ksp_inplace hF I1.ok.mod.kin J O F.at_ F.fn ?_
      refine wpAny_mono (run_C (us := [.ref a, w]) (vs := [.ref a, z]) (Q := fun z' H' => D1.nx (σ.set j (some z')) H') F G hr I1.env0 I1 (.cons rfl (.cons rz .nil)) (S1.call (.cons rd1 (.cons ry .nil)) h1.2 fun d2 M2 z2 H2 h2 r2 S2 s2 => S2.nx _ M2 _ H2 h2 (S2.rs.set r2 j) S2.co (Stp.refl M2 H2))) (fun w' s' z => ?_) fun _ _ z => z
      obtain ⟨z', H', I', rz', qz⟩ := z
      exact SlX.cmpback rz' (store_ok I' G.nd hi hx rz' (fun s3 I3 => ⟨_, H', I3, qz⟩) hf)
    rcases l with ⟨hk, hm⟩ | ⟨hk, c, hc, hcell⟩
    · exact wpAny_loadName_local I.ok.kind hk hn hm go
    · rcases hk with hk | hk
      · exact wpAny_loadName_cell I.ok.kind hk hc hcell go
      · rcases hx with k | k
        · have : X.env.scope.names.lookup x = some .free := hk
          rw [k] at this; cases this
        · have : X.env.scope.names.lookup x = some .free := hk
          rw [k] at this; cases this
  · exact h.elim
end
end DL
namespace DL
open PySem L2 He
section
open PySem.W PySem.Calls PyProof.Rows
variable {prog : Program} {w : World} {A : Around} {E : Value → Shared → Prop} {s : Shared} {K : Frag} {x C L f f1 : Addr} {h₀ : Heap} {m : Str → Option Value} {ox : Obj} {od : Option Obj}
end
section
variable {X : Cx} {W : WX} {a b e o i : Expr} {es : List Expr} {ta tb te to tv ti : DTE} {tl : DTA} {C f m x : Str} {sp : DSp} {k : Nat} {pos pos' apos p p2 : Pos}
def dInv (C : Str) (sp : DSp) (te : DTE) : DTE := fun τ M Q E => te τ M (fun d M1 => isIns C M1 d ∧ sp [d] M1 Q E) E
def noF (M : Mu) (m : Str) (d : D) : Prop := match d with
  | .ref a => (match M a with
    | some (.ins _ fs) => ¬ m ∈ fs.map (·.1)
    | _ => False)
  | _ => False
def dMeth (C m : Str) (sp : DSp) (to : DTE) (ta : DTA) : DTE := fun τ M Q E => to τ M (fun x M1 => isIns C M1 x ∧ noF M1 m x ∧ ta τ M1 (fun ds M2 => sp (x :: ds) M2 Q E) E) E
end
end DL
namespace DL
open PySem L2 He
section
variable {X : Cx} {W : WX} {a b e o i : Expr} {es : List Expr} {ta tb te to tv ti : DTE} {tl : DTA} {C f m x : Str} {sp : DSp} {k : Nat} {pos pos' apos p p2 : Pos}
def dPrp (C : Str) (sp : DSp) (te : DTE) : DTE := fun τ M Q E => te τ M (fun d M1 => isIns C M1 d ∧ sp [d] M1 Q noX) E
theorem cx_no {outer : List Env} {H : Hp} {s s' : Shared} {e : Value} (h : L2N.CX X.prog X.w outer H s (fun _ _ _ => False) e s') : False := by
  obtain ⟨_, _, _, _, _, _, _, _, _, _, _, _, z⟩ := h
  exact z
def readB (C : Str) (K : PySem.W.Frag) : Bool := PySem.W.readsIn K (ga K C) (.type "type") && decide (PySem.W.specialIn K (.ref (ga K C)) "__getattribute__" = some (some (.builtin "type.__getattribute__")))
theorem readB_ok {K : PySem.W.Frag} (h : readB C K = true) : ClX.CRead K (ga K C) (.type "type") := by
  obtain ⟨h1, h2⟩ := ba h
  exact ⟨h1, of_decide_eq_true h2⟩
structure IsC (K : PySem.W.Frag) (C : Str) : Prop where
  cl : Cls K (ga K C)
  ca : PySem.W.findIn K (.ref (ga K C)) "__class__" = some (some (.builtin "object.__class__"))
  cn : PySem.W.specialIn K (.builtin "object.__class__") "__get__" = some (some (.builtin "getset_descriptor.__get__"))
  ct : PySem.W.takesIn K (.builtin "object.__class__") = some true
  cm : PySem.W.mroIn K (ga K C) (.type "object") = some true
  no : ∀ T ∈ ["NoneType", "bool", "int", "str", "list", "tuple", "dict"], PySem.W.kitOne K (.type T) (.ref (ga K C)) = some false
def isCB (C : Str) (K : PySem.W.Frag) : Bool := decide (PySem.W.findIn K (.ref (ga K C)) "__class__" = some (some (.builtin "object.__class__"))) && (decide (PySem.W.specialIn K (.builtin "object.__class__") "__get__" = some (some (.builtin "getset_descriptor.__get__"))) &&
  (decide (PySem.W.takesIn K (.builtin "object.__class__") = some true) && (decide (PySem.W.mroIn K (ga K C) (.type "object") = some true) && ["NoneType", "bool", "int", "str", "list", "tuple", "dict"].all fun T => decide (PySem.W.kitOne K (.type T) (.ref (ga K C)) = some false))))
theorem isCB_ok {K : PySem.W.Frag} (c : Cls K (ga K C)) (h : isCB C K = true) : IsC K C := by
  obtain ⟨h1, h⟩ := ba h
  obtain ⟨h2, h⟩ := ba h
  obtain ⟨h3, h⟩ := ba h
  obtain ⟨h4, h5⟩ := ba h
  exact ⟨c, of_decide_eq_true h1, of_decide_eq_true h2, of_decide_eq_true h3, of_decide_eq_true h4, fun T hT => of_decide_eq_true (List.all_eq_true.mp h5 T hT)⟩
def gIsC (C : Str) : DCb := fun xs M Q => match xs with
  | [d, .cl c] => c = C ∧ ((isIns C M d ∧ Q (.bl true) M) ∨ ((∃ n, tyD M d = some n) ∧ Q (.bl false) M))
  | _ => False
theorem cb_isC {K : PySem.W.Frag} (c : IsC K C) : CbD K (gIsC C) (rIsi K) := fun M H xs vs Q0 Q co r h q => by
  match xs, h with
  | [d, .cl c'], h =>
    obtain ⟨h0, h⟩ := h
    subst h0
    obtain ⟨v, u, rfl, r1, r2⟩ := r.uncons
    obtain ⟨w, u, rfl, r3, r4⟩ := r2.uncons
    cases r4.unnil; cases r3
    rcases h with ⟨h1, h2⟩ | ⟨⟨n, h1⟩, h2⟩
    · obtain ⟨a, fs, dx, gs, rfl, rfl, hM, hH, _⟩ := isIns_at h1 r1 co
      exact ⟨.ref a, .ref _, .ref _, .ref _, true, rfl, .own _, .base (.ins hH c.cl c.ca c.cn c.ct c.cm), by unfold PySem.W.kitOne; rw [if_pos (beq_self_eq_true _)], q _ M _ H h2 rfl co (Stp.refl M H)⟩
    · obtain ⟨t1, t2⟩ := ty_rep co r1 h1
      exact ⟨v, .ref _, .type n, .ref _, false, rfl, .own _, t1, c.no n t2, q _ M _ H h2 rfl co (Stp.refl M H)⟩
end
end DL
namespace DL
open PySem L2 He
def spLenH (K : PySem.W.Frag) (C f : Str) : Sp := fun vs H Q _ => ∃ a dx gs l xs, vs = [.ref a] ∧ H a = some (.ins (ga K C) dx gs) ∧ gs.lookup f = some (.ref l) ∧ H l = some (.lst xs) ∧ Q (.int xs.length) H
def spIterS (K : PySem.W.Frag) (C f : Str) (n : Nat) : Sp := fun vs H Q _ => ∃ a dx gs l xs, vs = [.ref a] ∧ H a = some (.ins (ga K C) dx gs) ∧ gs.lookup f = some (.ref l) ∧ H l = some (.lst xs) ∧ ∀ it, H it = none → n ≤ it → Q (.ref it) (upd H it (ItO l it 0))
def FnI (P : Program) (w : World) (K : PySem.W.Frag) (mg : Str → Option Value) (base : Heap) (k : Nat) (g : Addr) (C f : Str) : Prop :=
  ∀ (A : Around) (outer : List Env) (s : Shared) (H : Hp) (us : List Value) (vs : List V) (Q : VK) (E : XK), Room k A → Env0 P w K mg base A outer s H → Vals vs us → spIterS K C f s.heap.objs.size vs H Q E →
    codeAny (model P w) A (.call (.ref g) ⟨us, []⟩) (CR (L2N.CX P w) outer P w H s Q E) s
theorem fnI_of {P : Program} {w : World} {K : PySem.W.Frag} {mg : Str → Option Value} {base : Heap} {k : Nat} {g : Addr} {x qual C f : Str} {params : Arguments} {body : List Stmt} {scope : Scope} {N ps : List Str} {fd : FuncData} (F : FunD K x qual params body scope [] [] g fd) (S : FnScope N ps scope) (hb : Binds K fd ps []) (hl1 : ps.length = 1)
    (hbody : ∀ (cdv : Value) (A : Around) (outer : List Env) (s : Shared) (H : Hp) (vs : List V) (Q : VK) (E : XK), spIterS K C f s.heap.objs.size vs H Q E →
      ∃ t, PSs (cxOf (L2N.CX P w) P w K mg base N qual scope g cdv A outer s H E) body t ∧ t { nx := fun _ H' => Q .non H', rt := Q } (start N vs) H) : FnI P w K mg base (k + 1) g C f := by
  intro A outer s H us vs Q E hr e0 r hsp
  obtain ⟨oc, od, dV, kV, doc, pm, an, cdv, ct, osl, rfl, lk, hcd, _, _⟩ := F.ex
  have hl : vs.length = ps.length := by
    obtain ⟨a, _, _, _, _, e, _⟩ := hsp
    rw [e, hl1]
    rfl
  have KX : K.In s.heap := e0.mod.kin.keeps fun b o e => (e0.bs b o e).1
  have lim : s.heap.NoLimit := e0.mod.nolimit.keeps fun b o e => (e0.bs b o e).1
  have hbt := hb s us KX (by rw [List.append_nil, ← r.length]; exact hl)
  rw [List.append_nil] at hbt
  have hkind : ∀ y ∈ ps.zip us, scope.names.lookup y.1 = some .local ∨ (scope.names.lookup y.1 = some .cell ∧ ((cellsFrom (s.heap.objs.size + 1) scope.names []).lookup y.1).isSome = true) := fun ⟨n, v⟩ hy => by
    rcases S.par n (List.of_mem_zip hy).1 with q | q
    · exact .inl q
    · exact .inr ⟨q, PySem.W.cellsFrom_some _ _ _ (.inl q)⟩
  refine codeAny_call_function hr.depth (KX _ _ lk) rfl S.co S.gen rfl (PySem.W.codeRec_of KX hcd) (hbt _ _ _ _ ?_)
  refine wpAny_newFunctionEnv_cells S.kind hkind fun env he s1 x => ?_
  subst he
  refine ⟨lim.keeps x.toInCall.keep, codeAny_func ?_⟩
  obtain ⟨t, ht, hq⟩ := hbody cdv A outer s H vs Q E hsp
  have I : Inv (cxOf (L2N.CX P w) P w K mg base N qual scope g cdv A outer s H E) [] (start N vs) H s1 := inv_start S hr.hd e0 hl r x
  refine wpAny_mono (ht.run [] s1 (start N vs) H _ I hq) (fun fl s' hs => ?_) fun e s' hs => hs
  have fin : ∀ {σ' : L2.St} {H' : Hp} {v : V} {u : Value}, Inv (cxOf (L2N.CX P w) P w K mg base N qual scope g cdv A outer s H E) [] σ' H' s' → RelV v u → Q v H' → CE outer P w H s Q u s' :=
    fun {σ' H' v u} J rv q => ⟨v, H', J.os, J.bare, J.base, J.hok, rv, q⟩
  cases fl with
  | ret u =>
    obtain ⟨v, σ', H', J, rv, q⟩ := hs
    exact fin J rv q
  | next =>
    obtain ⟨σ', H', J, q⟩ := hs
    exact fin (v := V.non) (u := Value.none) J rfl q
  | brk =>
    obtain ⟨_, _, _, q⟩ := hs
    exact False.elim q
  | cont =>
    obtain ⟨_, _, _, q⟩ := hs
    exact False.elim q
structure LenC (P : Program) (w : World) (K : PySem.W.Frag) (mg : Str → Option Value) (base : Heap) (C f : Str) : Prop where
  m : Meth K (ga K C) "__len__" (ma K (ga K C) "__len__")
  run : FnR P w K mg base (L2N.CX P w) 1 (ma K (ga K C) "__len__") (spLenH K C f)
structure IterC (P : Program) (w : World) (K : PySem.W.Frag) (mg : Str → Option Value) (base : Heap) (C f : Str) : Prop where
  m : Meth K (ga K C) "__iter__" (ma K (ga K C) "__iter__")
  run : FnI P w K mg base 1 (ma K (ga K C) "__iter__") C f
def rListO (K : PySem.W.Frag) (C f : Str) : List V → Hp → VK → Prop := fun xs H Q => ∃ a dx gs l ys, xs = [.ref a] ∧ H a = some (.ins (ga K C) dx gs) ∧ gs.lookup f = some (.ref l) ∧ H l = some (.lst ys) ∧ ∀ q, H q = none → Q (.ref q) (upd H q (.lst ys))
section
variable {X : Cx} {W : WX} {C f : Str} {pins : List (Addr × Obj)} {σ : L2.St} {H : Hp} {s : Shared}
theorem len_at {A : Around} {E : Value → Shared → Prop} {Q : Value → Shared → Prop} {a dx l : Addr} {gs : List (Str × V)} {ys : List V} (L : LenC X.prog X.w X.K X.mg X.base C f) (hr : Room 1 A.in1) (e0 : Env0 X.prog X.w X.K X.mg X.base A.in1 X.stack s H) (I : Inv X pins σ H s)
    (hH : H a = some (.ins (ga X.K C) dx gs)) (hf : gs.lookup f = some (.ref l)) (hl : H l = some (.lst ys)) (hz : ys.length ≤ sizeLine) (h : ∀ t s', Inv X pins σ H s' → Q (.int ys.length t) s') : wpAny (model X.prog X.w) A (call (.builtin "len") [.ref a]) Q E s := by
  obtain ⟨mA, O, _⟩ := ins_get I.hok hH
  obtain ⟨od, J, _⟩ := O.look
  obtain ⟨m0, hF⟩ := I.fr
  refine PySem.W.len_K hF I.ok.mod.kin J L.m.at_ L.m.fn ?_
  refine wpAny_call (codeAny_mono (L.run A.in1 X.stack s H [.ref a] [.ref a] (fun v H' => v = .int ys.length ∧ H' = H) (fun _ _ _ => False) hr e0 (.cons rfl .nil) ⟨a, dx, gs, l, ys, rfl, hH, hf, hl, rfl, rfl⟩) fun r s' hq => ?_)
  cases r with
  | error er => exact (cx_no hq).elim
  | ok fl =>
    cases fl with
    | ret u =>
      obtain ⟨v, H', I3, rv, rfl, rfl⟩ := I.after hq
      obtain ⟨t, rfl⟩ := rv
      have := line24
      exact ⟨⟨Int.natCast_nonneg _, by have : ys.length < 2 ^ 63 := by omega
                                       exact_mod_cast this⟩, h _ _ (I3.tok _)⟩
    | next => exact False.elim hq
    | brk => exact False.elim hq
    | cont => exact False.elim hq
theorem ext_loop {q it l : Addr} {ys : List V} {Rs : Result → Shared → Prop} (hc : X.calm = true) {A1 : Around} (hh : A1.handled = none) (hql : l ≠ q) (hqi : it ≠ q) (hdone : ∀ H' s', Inv X pins σ H' s' → (H' q = some (.lst ys) ∧ ∀ b, b ≠ q → H' b = H b) → Rs (.ok (.ret .none)) s') :
    ∀ (n i : Nat) (H' : Hp) (s : Shared), n + i = ys.length → Inv X pins σ H' s → FpOk X pins H' it → (H' q = some (.lst (ys.take i)) ∧ ∀ b, b ≠ q → H' b = H b) → H' l = some (.lst ys) → s.heap.IsListIter it l i →
      codeAny (model X.prog X.w) A1 (.builtin "list.extend.loop" ⟨[.ref q, .ref it, .none], []⟩) Rs s := by
  intro n
  induction n with
  | zero =>
    intro i H' s hn I F hq hl hit
    refine codeAny_builtin PySem.F.entry_extend_loop ?_
    rw [Around.under_plainId PySem.F.plain_extend_loop _]
    show wpAny _ A1.in1 (pyNext (.ref it) >>= _) _ _ s
    obtain ⟨f0, f1, f2, f3, f4, f5⟩ := F
    obtain ⟨z, its, k, rv, hlen, e⟩ := I.lstM hl
    have pl : s.heap.IsList l its.toArray := ⟨_, e, rfl, _, rfl⟩
    refine wpAny_bind (wpAny_pyNext_list_end hh hit pl (by simp; omega) fun h' eb => ?_)
    refine wpAny_pure (hdone H' _ (I.turned (t' := s.toks) (fun b o hb e => eb b o hb e) f0 f1 f3 f4 f5) ?_)
    rw [List.take_of_length_le (by omega)] at hq
    exact hq
  | succ n ih =>
    intro i H' s hn I F hq hl hit
    refine codeAny_builtin PySem.F.entry_extend_loop ?_
    rw [Around.under_plainId PySem.F.plain_extend_loop _]
    show wpAny _ A1.in1 (pyNext (.ref it) >>= _) _ _ s
    obtain ⟨f0, f1, f2, f3, f4, f5⟩ := id F
    obtain ⟨z, its, k, rv, hlen, e⟩ := I.lstM hl
    have pl : s.heap.IsList l its.toArray := ⟨_, e, rfl, _, rfl⟩
    have hi : i < ys.length := by omega
    obtain ⟨u, hu, ru⟩ := rv.get (List.getElem?_eq_getElem hi)
    refine wpAny_bind (wpAny_pyNext_list_item hit pl (x := u) (by simpa using hu) fun h' st' sb => ?_)
    have I1 : Inv X pins σ H' { s with heap := h' } := I.turned (t' := s.toks) (fun b o hb e => (sb.2 b hb).trans e) f0 f1 f3 f4 f5
    show wpAny _ A1.in1 (updateSeq q (·.push u) >>= _) _ _ _
    obtain ⟨z2, its2, k2, r2, hl2, e2⟩ := I1.lstM hq.1
    have hz3 : (ys.take i ++ [ys[i]]).length ≤ sizeLine := by
      rw [List.length_append, List.length_take, List.length_singleton]
      omega
    have hz4 : its2.length = i := by
      rw [← hl2, List.length_take]
      omega
    refine wpAny_bind (wpAny_updateSeq e2 rfl (wpAny_pure ⟨plainId_quiet PySem.F.plain_extend_loop _, ?_⟩) (by rw [List.size_toArray]; omega) (by show (its2.toArray.push u).size ≤ sizeLine + 1; rw [Array.size_push, List.size_toArray]; omega))
    have I2 := I1.lset (f := (·.push u)) (its' := its2 ++ [u]) (t' := s.toks) hq.1 e2 (by simp) (r2.append (.cons ru .nil)) hz3
    have ne : H' it = none := f0
    have F2 : FpOk X pins (upd H' q (.lst (ys.take i ++ [ys[i]]))) it := ⟨by rw [upd_ne hqi]; exact f0, f1, f2, f3, f4, f5⟩
    refine ih (i + 1) _ _ (by omega) I2 F2 ⟨?_, fun b hb => by rw [upd_ne hb]; exact hq.2 b hb⟩ (by rw [upd_ne hql]; exact hl) ?_
    · rw [upd_same, List.take_succ, List.getElem?_eq_getElem hi]
      rfl
    · obtain ⟨o, ho, c1, d1⟩ := st'
      exact ⟨o, (Heap.get?_update_other h' (Obj.mapSeq (·.push u)) (Ne.symm hqi)).trans ho, c1, d1⟩
end
end DL
namespace DL
open PySem L2 He
section
variable {X : Cx} {W : WX} {C f : Str} {pins : List (Addr × Obj)} {σ : L2.St} {H : Hp} {s : Shared}
theorem iter_at {A : Around} {E : Value → Shared → Prop} {Q : Value → Shared → Prop} {a dx l : Addr} {gs : List (Str × V)} {ys : List V} (T : IterC X.prog X.w X.K X.mg X.base C f) (hr : Room 1 A) (e0 : Env0 X.prog X.w X.K X.mg X.base A X.stack s H) (I : Inv X pins σ H s)
    (hH : H a = some (.ins (ga X.K C) dx gs)) (hf : gs.lookup f = some (.ref l)) (hl : H l = some (.lst ys)) (h : ∀ it s', H it = none → s.heap.objs.size ≤ it → Inv X pins σ (upd H it (ItO l it 0)) s' → Q (.ref it) s') : wpAny (model X.prog X.w) A (pyIter (.ref a)) Q E s := by
  obtain ⟨mA, O, _⟩ := ins_get I.hok hH
  obtain ⟨od, J, _⟩ := O.look
  obtain ⟨m0, hF⟩ := I.fr
  refine PySem.W.owit_iter hF I.ok.mod.kin J T.m.at_ T.m.fn ?_
  refine wpAny_call (codeAny_mono (T.run A X.stack s H [.ref a] [.ref a] (fun v H' => ∃ it, v = .ref it ∧ H it = none ∧ s.heap.objs.size ≤ it ∧ H' = upd H it (ItO l it 0)) (fun _ _ _ => False) hr e0 (.cons rfl .nil) ⟨a, dx, gs, l, ys, rfl, hH, hf, hl, fun it hn hs => ⟨it, rfl, hn, hs, rfl⟩⟩) fun r s' hq => ?_)
  cases r with
  | error er => exact (cx_no hq).elim
  | ok fl =>
    cases fl with
    | ret u =>
      obtain ⟨v, H', I3, rv, it, rfl, hn, hsz, rfl⟩ := I.after hq
      cases rv
      have hob : s'.heap.get? it = some (GNX.itObj l 0) := (show _ ∧ _ from I3.hok it _ upd_same).1
      have hT : s'.TypeIs (.ref it) "list_iterator" := ⟨_, hob, rfl⟩
      unfold PySem.W.OwitIt
      exact wpAny_specialOf (name := Str.ofString "__next__") hT slot_listiter_next.lookup (h it s' hn hsz I3)
    | next => exact False.elim hq
    | brk => exact False.elim hq
    | cont => exact False.elim hq
theorem hint_len {A : Around} {E : Value → Shared → Prop} {Q : Bool → Shared → Prop} {a dx l : Addr} {gs : List (Str × V)} {ys : List V} (L : LenC X.prog X.w X.K X.mg X.base C f) (hr : Room 1 A.in1) (e0 : Env0 X.prog X.w X.K X.mg X.base A.in1 X.stack s H) (I : Inv X pins σ H s)
    (hH : H a = some (.ins (ga X.K C) dx gs)) (hf : gs.lookup f = some (.ref l)) (hl : H l = some (.lst ys)) (h : ∀ b s', Inv X pins σ H s' → Q b s') : wpAny (model X.prog X.w) A (Builtin.List.listLengthHint (.ref a)) Q E s := by
  obtain ⟨mA, O, _⟩ := ins_get I.hok hH
  obtain ⟨od, J, _⟩ := O.look
  unfold Builtin.List.listLengthHint
  refine wpAny_bind (wpAny_bind (J.type.here ((PySem.W.looks_findIn I.kIn L.m.at_).here ?_)))
  refine PySem.W.KFB.if_not rfl ?_
  refine PySem.W.KFB.if_so rfl ?_
  refine wpAny_bind (wpAny_rule ?_)
  refine wpAny_bind (wpAny_attempt (len_at L hr e0 I hH hf hl (I.lstM hl).1 fun t s' I' => ?_))
  show wpAny _ _ (if Builtin.List.listTooLong ((ys.length : Int)).toNat then _ else _) _ _ _
  have hz := (I.lstM hl).1
  have e : Builtin.List.listTooLong ((ys.length : Int)).toNat = false := by
    rw [Int.toNat_natCast]
    exact notLongL hz
  rw [e]
  refine PySem.W.KFB.if_not rfl ?_
  exact wpAny_pure (h _ _ I')
theorem call_listO (T : IterC X.prog X.w X.K X.mg X.base C f) (L : LenC X.prog X.w X.K X.mg X.base C f) (hc : X.calm = true) (hr : Room 5 X.A) : CallR X (.type "list") (rListO X.K C f) := by
  intro pins s σ H xs us Q I rv h
  obtain ⟨a, dx, gs, l, ys, rfl, ha, hf, hl, hq⟩ := h
  obtain ⟨u, rfl, ru⟩ := rv.one
  cases ru
  refine callType_codes (Q₁ := fun obj s₁ => obj = .ref s.heap.objs.size ∧ s₁ = { s with heap := s.heap.push { cls := .type "list", data := .seq #[] } }) PySem.F.called_list (PySem.F.typeCall_list_1 _) PySem.F.entry_list_init
    (code_list_new _ ⟨rfl, rfl⟩) fun obj s₁ h₁ => ?_
  obtain ⟨rfl, rfl⟩ := h₁
  have hS : (s.heap.push { cls := .type "list", data := .seq #[] }).get? s.heap.objs.size = some { cls := .type "list", data := .seq #[] } := Heap.get?_push_size _ rfl
  refine ⟨⟨_, hS, rfl⟩, PySem.F.args_list_init_2 _ _, ?_⟩
  have fr : H s.heap.objs.size = none := I.hok.fresh (Nat.le_refl _)
  have hQ := hq _ fr
  have I1 : Inv X pins σ (upd H s.heap.objs.size (.lst [])) { s with heap := s.heap.push { cls := .type "list", data := .seq #[] } } := I.lnew (its := []) (t' := s.toks) .nil (Nat.zero_le _)
  show wpAny _ _ (do let old ← Builtin.List.listItems (.ref s.heap.objs.size); Builtin.List.listUpdate (.ref s.heap.objs.size) (fun _ => #[]); letGo old.toList.reverse; Builtin.List.listExtendWith (.ref s.heap.objs.size) (.ref a) .none) _ _ _
  refine wpAny_bind ?_
  unfold Builtin.List.listItems
  refine wpAny_bind (wpAny_seqItems hS rfl (wpAny_pure ?_))
  show wpAny _ _ (updateSeq s.heap.objs.size (fun _ => #[]) >>= fun _ => letGo (#[] : Array Value).toList.reverse >>= fun _ => Builtin.List.listExtendWith (.ref s.heap.objs.size) (.ref a) .none) _ _ _
  refine wpAny_bind (wpAny_updateSeq hS rfl ?_)
  have I2 := I1.lset (f := fun _ => #[]) (its := []) (its' := []) (ys := []) (t' := s.toks) upd_same hS rfl .nil (Nat.zero_le _)
  rw [upd_upd] at I2
  refine wpAny_bind (wpAny_letGo ?_)
  generalize s.heap.objs.size = q at *
  have hne : q ≠ a := fun z => by rw [z, ha] at fr; cases fr
  have hql : l ≠ q := fun z => by rw [← z, hl] at fr; cases fr
  have ha2 : upd H q (.lst []) a = some (.ins (ga X.K C) dx gs) := by rw [upd_ne (Ne.symm hne)]; exact ha
  have hl2 : upd H q (.lst []) l = some (.lst ys) := by rw [upd_ne hql]; exact hl
  obtain ⟨mA, O, _⟩ := ins_get I2.hok ha2
  obtain ⟨od, J, _⟩ := O.look
  unfold Builtin.List.listExtendWith
  refine wpAny_bind (J.type.here ?_)
  have h1 : Builtin.List.listSameRef (.ref q) (.ref a) = false := by simp [Builtin.List.listSameRef, hne]
  have h2 : (Value.ref (ga X.K C) == Value.type "list") = false := rfl
  have h3 : (Value.ref (ga X.K C) == Value.type "tuple") = false := rfl
  simp only [h1, h2, h3, Bool.or_false, Bool.false_eq_true, if_false]
  have r1 : Room 4 X.A.in1 := Room.in1 hr
  have r2 : Room 3 X.A.in1.in1 := Room.in1 r1
  have r3 : Room 2 X.A.in1.in1.in1 := Room.in1 r2
  refine wpAny_bind (iter_at T (r2.mono (by decide)) I2.env0.in1.in1 I2 ha2 hf hl2 fun it s3 hn hsz I3 => ?_)
  have hqi : it ≠ q := fun z => by rw [z, upd_same] at hn; cases hn
  have hia : a ≠ it := fun z => by rw [← z, ha2] at hn; cases hn
  have hil : l ≠ it := fun z => by rw [← z, hl2] at hn; cases hn
  refine wpAny_bind (wpAny_holding (hint_len L (r3.mono (by decide)) I3.env0.in1.in1.in1 I3 (by rw [upd_ne hia]; exact ha2) hf (by rw [upd_ne hil]; exact hl2) fun b s4 I4 => ?_))
  have hob : s4.heap.get? it = some (GNX.itObj l 0) := (show _ ∧ _ from I4.hok it _ upd_same).1
  have hsz2 : X.s_0.heap.objs.size ≤ it := Nat.le_trans I2.sz hsz
  have F4 : FpOk X pins (ItX.dropH (upd (upd H q (.lst [])) it (ItO l it 0)) it) it := ItX.inv_fp I4 upd_same hsz2
  have I5 := ItX.inv_drop I4 upd_same
  rw [ItX.dropH_upd hn] at I5 F4
  have fin : ∀ (H' : Hp) (s' : Shared), Inv X pins σ H' s' → (H' q = some (.lst ys) ∧ ∀ b, b ≠ q → H' b = upd H q (.lst []) b) → wants (fun r s₂ => r = .none ∧ EP X pins σ Q (.ref q) s₂) X.xe (.ok (.ret .none)) s' := fun H' s' I' hq' => by
    have e : H' = upd H q (.lst ys) := funext fun b => by
      by_cases z : b = q
      · rw [z, upd_same, hq'.1]
      · rw [hq'.2 b z, upd_ne z, upd_ne z]
    rw [e] at I'
    exact ⟨rfl, .ref q, _, I', rfl, hQ⟩
  have loop : ∀ s', Inv X pins σ (upd H q (.lst [])) s' → s'.heap.IsListIter it l 0 → codeAny (model X.prog X.w) X.A.in1 (.builtin "list.extend.loop" ⟨[.ref q, .ref it, .none], []⟩) (wants (fun r s₂ => r = .none ∧ EP X pins σ Q (.ref q) s₂) X.xe) s' :=
    fun s' I' hit => ext_loop (A1 := X.A.in1) hc (I'.ok.hd hc) hql hqi fin ys.length 0 _ s' (by omega) I' F4 ⟨by rw [upd_same, List.take_zero], fun b hb => rfl⟩ hl2 hit
  have hit4 : s4.heap.IsListIter it l 0 := ⟨_, hob, rfl, rfl⟩
  refine wpAny_ite_split (fun _ => ?_) (fun _ => wpAny_pure ⟨plainId_quiet PySem.F.plain_extend_loop _, loop s4 I5 hit4⟩)
  refine wpAny_bind (wpAny_rule ?_)
  refine wpAny_bind ?_
  show wpAny _ _ (updateSeq q (·.push .none) >>= fun _ => updateSeq q (·.pop)) _ _ _
  obtain ⟨z5, its5, k5, r5, hl5, e5⟩ := I5.lstM upd_same
  cases r5
  refine wpAny_bind (wpAny_updateSeq e5 rfl ?_)
  have I6 := I5.lset (f := (·.push Value.none)) (its' := [Value.none]) (ys := [.non]) (t' := s4.toks) upd_same e5 (by simp) (.cons rfl .nil) (by rw [List.length_singleton, sizeLine_eq]; decide)
  obtain ⟨z7, its7, k7, r7, hl7, e7⟩ := I6.lstM upd_same
  obtain ⟨u7, rfl, ru7⟩ := r7.one
  refine wpAny_updateSeq e7 rfl ?_ (by show 1 ≤ sizeLine; rw [sizeLine_eq]; decide) (by show 0 ≤ sizeLine + 1; exact Nat.zero_le _)
  have I8 := I6.lset (f := (·.pop)) (its := [u7]) (its' := []) (ys := []) (t' := s4.toks) upd_same e7 (by rfl) .nil (Nat.zero_le _)
  rw [upd_upd, upd_upd] at I8
  refine wpAny_pure ⟨plainId_quiet PySem.F.plain_extend_loop _, loop _ I8 ?_⟩
  obtain ⟨o, ho, c1, d1⟩ := hit4
  exact ⟨o, (Heap.get?_update_other _ (Obj.mapSeq (·.pop)) (Ne.symm hqi)).trans ((Heap.get?_update_other _ (Obj.mapSeq (·.push Value.none)) (Ne.symm hqi)).trans ho), c1, d1⟩
end
section
variable {K : PySem.W.Frag} {C f : Str}
theorem cb_listO : CbD K (gListO C f) (rListO K C f) := fun M H xs vs Q0 Q c r h q => by
  match xs, h with
  | [d], h =>
    obtain ⟨v, u, rfl, r1, r2⟩ := r.uncons
    cases r2.unnil
    obtain ⟨a, dx, gs, l, ds, vs, rfl, h1, h2, h3, h4, h5, h6⟩ := onRows_at h r1 c
    exact ⟨a, dx, gs, l, vs, rfl, h1, h2, h3, new_lst c h5 h6 q⟩
end
end DL
namespace DL
open PySem L2 He
def starSp (n : Nat) (sp : DSp) : DSp := fun ds M Q E => n ≤ ds.length ∧ ds.length ≤ 16777216 ∧ sp (ds.take n ++ [.tup (ds.drop n)]) M Q E
theorem def_star {P : Program} {w : World} {K : PySem.W.Frag} {mg : Str → Option Value} {base : Heap} {x qual : Str} {st : Stmt} {f : Addr} {fd : FuncData} {N ps : List Str} {pv : Str} {k : Nat} {sp : DSp} {t : DTS}
    (F : FunD K x qual (defArgs st) (defBody st) (defScope st) [] [] f fd) (S : FnScope N (ps ++ [pv]) (defScope st)) (len : ∀ ds M Q E, sp ds M Q E → ds.length = ps.length + 1)
    (hbind : ∀ (kV doc pm : Value) (an : Option Addr) (cdv ct : Value) (us rest : List Value), us.length = ps.length → bindArgs (PySem.W.fnOf x qual (defArgs st) (defBody st) (defScope st) .none kV doc pm an cdv ct) ⟨us ++ rest, []⟩ = (newTuple rest >>= fun t => pure (ps.zip us ++ [(pv, t)])))
    (hd : ∀ (cdv : Value) (A : Around) (outer : List Env) (s : Shared) (H : Hp) (E : XK), Gd (cxOf (L2N.CX P w) P w K mg base N qual (defScope st) f cdv A outer s H E) (fun c d _ H => E c d H) → Room k (cxOf (L2N.CX P w) P w K mg base N qual (defScope st) f cdv A outer s H E).A →
      DSs (cxOf (L2N.CX P w) P w K mg base N qual (defScope st) f cdv A outer s H E) (fun c d _ H => E c d H) (defBody st) t)
    (hp : ∀ ds M Q E, sp ds M Q E → t { nx := fun _ M' => Q .non M', rt := Q, xc := fun x _ M' => E x M' } (ds.map some ++ List.replicate (N.length - (ps.length + 1)) none) M) :
    FnR P w K mg base (L2N.CX P w) (k + 1) f (lsp K (starSp ps.length sp)) := by
  obtain ⟨oc, od, dV, kV, doc, pm, an, cdv, ct, osl, rfl, lk, hcd, hD, _⟩ := F.ex
  have e0 : dV = .none := by
    rcases hD with ⟨_, e⟩ | ⟨e, _⟩
    · exact e
    · exact absurd rfl e
  subst e0
  refine FnR.imp (StX.fn_star (k := k) (sp := lsp K sp) (ps := ps) (pv := pv) lk hcd S cxUpN (hbind kV doc pm an cdv ct) fun A outer s H vs Q E hr h => ?_) fun vs H Q E h => ?_
  · obtain ⟨ds, M, Q0, E0, r, c, h, hq, he⟩ := h
    have hl := len ds M Q0 E0 h
    refine ⟨lifS K (fun c d _ H => E c d H) t, ?_, ?_⟩
    · refine hd cdv A outer s H E ?_ hr
      exact ⟨rfl, L2N.takes_of rfl rfl rfl rfl, by have := hr.un; show A.units + 3 + 64 < cLine; have e : (A.deeper (PyProof.Rows.envOfC qual (defScope st) s.heap.objs.size f cdv)).units = A.units + 3 := rfl; omega, passes_of rfl, S.nd⟩
    · refine ⟨_, M, { nx := fun _ M' => Q0 .non M', rt := Q0, xc := fun x _ M' => E0 x M' }, ⟨?_, c, fun τ' M' σ' H' h r c' s' => hq .non M' .non H' h rfl c' s', hq, fun _ _ _ _ h => h.elim, fun _ _ _ _ h => h.elim, fun x τ' M' c d σ' H' h r _ c' s' => he x M' c d H' h r c' s'⟩, hp ds M Q0 E0 h⟩
      unfold L2.start
      rw [r.length, hl]
      exact RepS.start _ r
  · obtain ⟨ds, M, Q0, E0, r, c, ⟨h1, h2, h3⟩, hq, he⟩ := h
    have hl := r.length
    refine ⟨vs.take ps.length, vs.drop ps.length, (List.take_append_drop _ _).symm, by rw [List.length_take]; omega, by rw [List.length_drop, line24]; omega, fun p hp => ?_⟩
    have st : Stp M H M (upd H p (.tup (vs.drop ps.length))) := Stp.new hp
    refine ⟨ds.take ps.length ++ [.tup (ds.drop ps.length)], M, Q0, E0, ((r.take _).stp st).append (.cons (rep_tup upd_same (c.free hp) ((r.drop _).stp st)) .nil), c.new hp, h3, fun d M' v H' q r' c' s' => hq d M' v H' q r' c' (st.trans s'), fun x M' cc d H' q r' c' s' => he x M' cc d H' q r' c' (st.trans s')⟩
def onIns {K : List (Str × D) → Prop} (C : Str) (_ : Lk K) (o : Option MO) : Prop := match o with
  | some (.ins c fs) => c = C ∧ K fs
  | _ => False
theorem onIns_i {K : List (Str × D) → Prop} {C : Str} {fs : List (Str × D)} : onIns (K := K) C ⟨⟩ (some (.ins C fs)) = K fs := by show (C = C ∧ K fs) = K fs; simp
def onLst {K : List D → Prop} (_ : Lk K) (d : D) : Prop := match d with
  | .lst ds => K ds
  | _ => False
theorem onLst_l {K : List D → Prop} {ds : List D} : onLst (K := K) ⟨⟩ (.lst ds) = K ds := pq Iff.rfl
def isInsM (C : Str) (o : Option MO) : Prop := match o with
  | some (.ins c _) => c = C
  | _ => False
theorem isIns_r {C : Str} {M : Mu} {a : Addr} : isIns C M (.ref a) = isInsM C (M a) := pq Iff.rfl
theorem isInsM_i {C : Str} {fs : List (Str × D)} : isInsM C (some (.ins C fs)) = True := by show (C = C) = True; simp
def noFM (m : Str) (o : Option MO) : Prop := match o with
  | some (.ins _ fs) => ¬ m ∈ fs.map (·.1)
  | _ => False
theorem noF_r {m : Str} {M : Mu} {a : Addr} : noF M m (.ref a) = noFM m (M a) := pq Iff.rfl
theorem noFM_i {m C : Str} {fs : List (Str × D)} : noFM m (some (.ins C fs)) = ¬ m ∈ fs.map (·.1) := pq Iff.rfl
section
variable {C f m : Str} {sp : DSp} {ta tb te to tv ti : DTE} {tl : DTA} {τ : DSt} {M : Mu} {Q : DK} {E : DX} {D0 : DEnds} {i : Nat} {Qs : DSt → Mu → Prop} {d : D}
theorem u_fld : dFld C f te τ M Q E = te τ M (fun d M1 => onRef (K := fun a => onIns (K := fun fs => onSome (K := fun x => Q x M1) ⟨⟩ (fs.lookup f)) C ⟨⟩ (M1 a)) ⟨⟩ d) E := by
  unfold dFld
  congr 1
  funext d M1
  cases d with
  | ref a =>
    show (match M1 a with
      | some (.ins c fs) => c = C ∧ (match fs.lookup f with
        | some x => Q x M1
        | none => False)
      | _ => False) = onIns (K := fun fs => onSome (K := fun x => Q x M1) ⟨⟩ (fs.lookup f)) C ⟨⟩ (M1 a)
    cases M1 a with
    | none => rfl
    | some mo => cases mo with
      | ins c fs => show (c = C ∧ (match fs.lookup f with
        | some x => Q x M1
        | none => False)) = (c = C ∧ onSome (K := fun x => Q x M1) ⟨⟩ (fs.lookup f)); cases fs.lookup f <;> rfl
      | _ => rfl
  | _ => rfl
theorem u_setF : dSetF C f to tv D0 τ M = tv τ M (fun y M1 => to τ M1 (fun d M2 => onRef (K := fun a => onIns (K := fun fs => fs.length < 1000 ∧ D0.nx τ (put M2 a (.ins C (putG f y fs)))) C ⟨⟩ (M2 a)) ⟨⟩ d) (D0.ex τ)) (D0.ex τ) := pq Iff.rfl
theorem u_make : dMake C sp tl τ M Q E = tl τ M (fun ds M1 => ∀ p, M1 p = none → callK (K := fun d M2 => d = .non ∧ Q (.ref p) M2) (L := E) ⟨⟩ ⟨⟩ sp (.ref p :: ds) (put M1 p (.ins C []))) E := pq Iff.rfl
theorem u_binL : dBinL C sp ta tb τ M Q E = ta τ M (fun x M1 => tb τ M1 (fun y M2 => isIns C M2 x ∧ ((∃ z, y = .str z) ∨ isIns C M2 y) ∧ callK (K := Q) (L := E) ⟨⟩ ⟨⟩ sp [x, y] M2) E) E := pq Iff.rfl
theorem u_binR : dBinR C sp ta tb τ M Q E = ta τ M (fun x M1 => tb τ M1 (fun y M2 => (∃ z, x = .str z) ∧ isIns C M2 y ∧ callK (K := Q) (L := E) ⟨⟩ ⟨⟩ sp [y, x] M2) E) E := pq Iff.rfl
theorem u_inO : dInO C sp ta tb τ M Q E = ta τ M (fun y M1 => tb τ M1 (fun x M2 => isIns C M2 x ∧ callK (K := fun r M3 => onBl (K := fun b => Q (.bl b) M3) ⟨⟩ r) (L := E) ⟨⟩ ⟨⟩ sp [x, y] M2) E) E := pq Iff.rfl
theorem u_getO : dGetO C sp ta tb τ M Q E = ta τ M (fun x M1 => tb τ M1 (fun y M2 => isIns C M2 x ∧ callK (K := Q) (L := E) ⟨⟩ ⟨⟩ sp [x, y] M2) E) E := pq Iff.rfl
theorem u_setO : dgSetO C sp to ti d τ M Qs E = to τ M (fun x M1 => ti τ M1 (fun y M2 => isIns C M2 x ∧ callK (K := fun _ M3 => Qs τ M3) (L := E) ⟨⟩ ⟨⟩ sp [x, y, d] M2) E) E := pq Iff.rfl
theorem u_augO : dAugO C sp i te D0 τ M = onVar (K := fun x => te τ M (fun y M1 => isIns C M1 x ∧ callK (K := fun r M2 => D0.nx (τ.set i (some r)) M2) (L := D0.ex τ) ⟨⟩ ⟨⟩ sp [x, y] M1) (D0.ex τ)) ⟨⟩ τ[i]? := pq Iff.rfl
theorem u_prp : dPrp C sp te τ M Q E = te τ M (fun d M1 => isIns C M1 d ∧ callK (K := Q) (L := noX) ⟨⟩ ⟨⟩ sp [d] M1) E := pq Iff.rfl
theorem u_inv : dInv C sp te τ M Q E = te τ M (fun d M1 => isIns C M1 d ∧ callK (K := Q) (L := E) ⟨⟩ ⟨⟩ sp [d] M1) E := pq Iff.rfl
theorem u_meth : dMeth C m sp to tl τ M Q E = to τ M (fun x M1 => isIns C M1 x ∧ noF M1 m x ∧ tl τ M1 (fun ds M2 => callK (K := Q) (L := E) ⟨⟩ ⟨⟩ sp (x :: ds) M2) E) E := pq Iff.rfl
theorem rows_r {a : Addr} {K : List D → Prop} : onRows C f M (.ref a) K = onIns (K := fun fs => onSome (K := fun d => onLst (K := K) ⟨⟩ d) ⟨⟩ (fs.lookup f)) C ⟨⟩ (M a) := by
  show (match M a with
    | some (.ins c fs) => c = C ∧ (match fs.lookup f with
      | some (.lst ds) => K ds
      | _ => False)
    | _ => False) = onIns (K := fun fs => onSome (K := fun d => onLst (K := K) ⟨⟩ d) ⟨⟩ (fs.lookup f)) C ⟨⟩ (M a)
  cases M a with
  | none => rfl
  | some mo => cases mo with
    | ins c fs =>
      show (c = C ∧ (match fs.lookup f with
        | some (.lst ds) => K ds
        | _ => False)) = (c = C ∧ onSome (K := fun d => onLst (K := K) ⟨⟩ d) ⟨⟩ (fs.lookup f))
      cases fs.lookup f with
      | none => rfl
      | some d => cases d <;> rfl
    | _ => rfl
theorem lenO_r {d : D} : cbK (K := Q) ⟨⟩ (gLenO C f) [d] M = onRows C f M d (fun ds => Q (.int ds.length) M) := pq Iff.rfl
theorem listO_r {d : D} : cbK (K := Q) ⟨⟩ (gListO C f) [d] M = onRows C f M d (fun ds => Q (.lst ds) M) := pq Iff.rfl
theorem listOM_r {d : D} : cbK (K := Q) ⟨⟩ (gListOM C f) [d] M = onRows C f M d (fun ds => ∀ p, M p = none → Q (.ref p) (put M p (.lst ds))) := pq Iff.rfl
def isCK {K : Bool → Prop} (_ : Lk K) (C : Str) (o : Option MO) : Prop := match o with
  | some (.ins c _) => c = C ∧ K true
  | some (.lst _) => K false
  | some (.dK _) => K false
  | _ => False
theorem isCK_i {K : Bool → Prop} {fs : List (Str × D)} : isCK (K := K) ⟨⟩ C (some (.ins C fs)) = K true := by show (C = C ∧ K true) = K true; simp
theorem isCK_l {K : Bool → Prop} {ds : List D} : isCK (K := K) ⟨⟩ C (some (.lst ds)) = K false := pq Iff.rfl
theorem isC_r {a : Addr} : cbK (K := Q) ⟨⟩ (gIsC C) [.ref a, .cl C] M = isCK (K := fun b => Q (.bl b) M) ⟨⟩ C (M a) := by
  show (C = C ∧ ((isInsM C (M a) ∧ Q (.bl true) M) ∨ ((∃ n, tyD M (.ref a) = some n) ∧ Q (.bl false) M))) = isCK (K := fun b => Q (.bl b) M) ⟨⟩ C (M a)
  have e : tyD M (.ref a) = (match M a with
    | some (.lst _) => some "list"
    | some (.dK _) => some "dict"
    | _ => none) := rfl
  rw [e]
  cases M a with
  | none => simp [isInsM, isCK]
  | some mo => cases mo <;> simp [isInsM, isCK]
theorem isC_s {x : Tx} : cbK (K := Q) ⟨⟩ (gIsC C) [.str x, .cl C] M = Q (.bl false) M := by
  show (C = C ∧ ((False ∧ Q (.bl true) M) ∨ ((∃ n, (some "str" : Option String) = some n) ∧ Q (.bl false) M))) = _
  simp
theorem isC_i {x : Int} : cbK (K := Q) ⟨⟩ (gIsC C) [.int x, .cl C] M = Q (.bl false) M := by
  show (C = C ∧ ((False ∧ Q (.bl true) M) ∨ ((∃ n, (some "int" : Option String) = some n) ∧ Q (.bl false) M))) = _
  simp
theorem isC_b {x : Bool} : cbK (K := Q) ⟨⟩ (gIsC C) [.bl x, .cl C] M = Q (.bl false) M := by
  show (C = C ∧ ((False ∧ Q (.bl true) M) ∨ ((∃ n, (some "bool" : Option String) = some n) ∧ Q (.bl false) M))) = _
  simp
theorem isC_n : cbK (K := Q) ⟨⟩ (gIsC C) [.non, .cl C] M = Q (.bl false) M := by
  show (C = C ∧ ((False ∧ Q (.bl true) M) ∨ ((∃ n, (some "NoneType" : Option String) = some n) ∧ Q (.bl false) M))) = _
  simp
theorem isC_l {x : List D} : cbK (K := Q) ⟨⟩ (gIsC C) [.lst x, .cl C] M = Q (.bl false) M := by
  show (C = C ∧ ((False ∧ Q (.bl true) M) ∨ ((∃ n, (some "list" : Option String) = some n) ∧ Q (.bl false) M))) = _
  simp
theorem isC_t {x : List D} : cbK (K := Q) ⟨⟩ (gIsC C) [.tup x, .cl C] M = Q (.bl false) M := by
  show (C = C ∧ ((False ∧ Q (.bl true) M) ∨ ((∃ n, (some "tuple" : Option String) = some n) ∧ Q (.bl false) M))) = _
  simp
theorem putG_0 {α : Type} {x : α} : putG f x [] = [(f, x)] := rfl
theorem putG_1 {α : Type} {x y : α} {r : List (Str × α)} : putG f x ((f, y) :: r) = (f, x) :: r := by unfold putG; rw [if_pos rfl]
theorem lk_1 {α : Type} {x : α} {r : List (Str × α)} : List.lookup f ((f, x) :: r) = some x := by rw [List.lookup_cons, beq_self_eq_true]
end
abbrev AlZ : Type := AlY × (Bool × List He5.FnW)
def obsZ (fa : List Fa) (fn : List DefD) (gb : List (PySem.W.Frag → Bool)) (ts : List Tab) (fx : List He5.DefA) (K : PySem.W.Frag) : AlZ := (obsY fa fn gb ts K, fx.all fun d => d.ok K, fx.map fun d => He5.fnA K (d.at_ K))
def valZ (fn : List DefD) (ts : List Tab) (fx : List He5.DefA) (w : World) : AlZ := (valY fn ts w, true, fx.map He5.DefA.val)
def SaysZ (fa : List Fa) (fn : List DefD) (gb : List (PySem.W.Frag → Bool)) (ts : List Tab) (fx : List He5.DefA) (w : World) (K : PySem.W.Frag) : Prop := obsZ fa fn gb ts fx K = valZ fn ts fx w
section
variable {fa : List Fa} {fn : List DefD} {gb : List (PySem.W.Frag → Bool)} {ts : List Tab} {fx : List He5.DefA} {w : World} {K : PySem.W.Frag}
theorem SaysZ.y (c : SaysZ fa fn gb ts fx w K) : SaysY fa fn gb ts w K := congrArg (fun z : AlZ => z.1) c
theorem SaysZ.def_ (c : SaysZ fa fn gb ts fx w K) (i : Nat) {d : He5.DefA} (h : fx[i]? = some d := by rfl) : ∃ fd, FunD K d.name d.qual d.params d.body d.scope (d.dvs K) (d.kws K) (d.at_ K) fd := by
  have c2 : (fx.all fun d => d.ok K) = true := congrArg (fun z : AlZ => z.2.1) c
  have e : fx.map (fun d => He5.fnA K (d.at_ K)) = fx.map He5.DefA.val := congrArg (fun z : AlZ => z.2.2) c
  have e2 : (fx.map fun d => He5.fnA K (d.at_ K))[i]? = (fx.map He5.DefA.val)[i]? := by rw [e]
  rw [List.getElem?_map, List.getElem?_map, h] at e2
  exact He5.DefA.funD (Option.some.inj e2) (List.all_eq_true.mp c2 d (List.mem_of_getElem? h))
end
end DL
namespace DL
open PySem L2 He
def dEmD (p : Addr) (tk tv : DTE) : DSt → Mu → (Mu → Prop) → Prop := fun τ M Nx => tk τ M (fun y M1 => tv τ M1 (fun z M2 => ∃ (kvs : List (DKey × D)) (k : DKey), y = kD k ∧ M2 p = some (.dK kvs) ∧ kvs.length < sizeLine ∧ Nx (put M2 p (.dK (putD kvs k z)))) noX) noX
def emtD (p : Addr) (tk tv : TE) : L2.St → Hp → (Hp → Prop) → Prop := fun σ H Nx => tk σ H fun y H4 => tv σ H4 fun z H5 => ∃ kvs k, y = kV k ∧ H5 p = some (.dK kvs) ∧ kvs.length < sizeLine ∧ Nx (upd H5 p (.dK (putK kvs k z)))
def dDc (ti : DTI) (g : DTG) (tt : DTT) (vs : List Nat) (tk tv : DTE) : DTE := fun τ M Q E => ti τ M (fun ds M1 => ∀ p, M1 p = none → wTs g tt vs τ (dEmD p tk tv) (fun M2 => Q (.ref p) M2) ds (put M1 p (.dK []))) E
theorem emD_ok {K : PySem.W.Frag} {tk tv : DTE} (p : Addr) : Inn K (dEmD p tk tv) (emtD p (lif K W0 (RD K) tk) (lif K W0 (RD K) tv)) := fun τ σ M H Nx0 Nx rs co hN h => by
  refine ⟨τ, M, _, noX, ⟨rs, co, fun yd M6 yv H6 h6 r6 c6 s6 => ?_, fun _ _ _ _ _ z => z.elim⟩, h⟩
  refine ⟨τ, M6, _, noX, ⟨rs.stp s6, c6, fun zd M7 zv H7 h7 r7 c7 s7 => ?_, fun _ _ _ _ _ z => z.elim⟩, h6⟩
  obtain ⟨kvs, k, rfl, ha, hl, h8⟩ := h7
  obtain ⟨ks, hv, ek, ra⟩ := mu_dK c7 ha
  have hlen := congrArg List.length ek
  rw [List.length_map, List.length_map] at hlen
  have st := Stp.write (H := H7) (o := .dK (putK ks (kO k) zv)) (mo' := .dK (putD kvs k zd)) ha
  obtain ⟨p1, p2⟩ := put_rep (k := k) r7 ek ra
  have ekv : yv = kV (kO k) := by
    cases k with
    | inl i => exact r6
    | inr z => exact r6
  exact ⟨ks, kO k, ekv, hv, by rw [hlen]; exact hl, hN _ _ h8 (c7.write ha ⟨_, rfl, p1, p2⟩) ((s6.trans s7).trans st)⟩
section
variable {X : Cx} {W : WX} {kx vx tg iter : Expr} {ifs : List Expr} {scope : Scope} {pos : Pos} {ti : DTI} {g : DTG} {tt : DTT} {tk tv : DTE}
structure BlkDc (B : Cx) (tg : Expr) (g : DTG) (ifs : List Expr) (tt : DTT) (vs : List Nat) (kx vx : Expr) (tk tv : DTE) : Prop where
  g : DGw B W0 tg g vs
  t : DTs B W0 ifs tt
  k : DE B W0 kx tk
  v : DE B W0 vx tv
theorem de_dc (own : List (Str × Nat)) (G : Gd X W) (hi : DI X W tg iter ti) (hb : ∀ (s : Shared) (H : Hp) (C : Addr) (cl : List (Str × Addr)) (fp : List Addr), Gd (X.blk s H scope (compEnvC scope cl C X.env) fp) W0 → BlkDc (X.blk s H scope (compEnvC scope cl C X.env) fp) tg g ifs tt (own.map (·.2)) kx vx tk tv)
    (ok : blkC X.N X.env.scope scope own = true := by first | kernel_rfl | decide +kernel) (hs : ∀ x, foldedSetIterable iter X.env x = pure x := by intro _; rfl) : DE X W (.DictComp kx vx [⟨tg, iter, ifs, 0⟩] scope pos) (dDc ti g tt (own.map (·.2)) tk tv) :=
  PE.of (pe_dc (own := own) (g := lifGw X.K W0 g (own.map (·.2))) (tt := lif X.K W0 RB tt) (tk := lif X.K W0 (RD X.K) tk) (tv := lif X.K W0 (RD X.K) tv) G.calm G.nd hi (blkOk_by ok) (fun s H C cl fp => (hb s H C cl fp (G.blk ..)).g) (fun s H C cl fp => (hb s H C cl fp (G.blk ..)).t)
      (fun s H C cl fp => (hb s H C cl fp (G.blk ..)).k) (fun s H C cl fp => (hb s H C cl fp (G.blk ..)).v) hs) fun σ H Q ⟨τ, M, Q0, E0, S, h⟩ => by
    refine S.sub h fun ds M1 J H1 h1 r1 S1 s1 => ?_
    intro D hD
    exact turns_ok (emD_ok D) r1 S1.rs (fun M' H' n c' s' => S1.q (.ref D) M' (.ref D) H' n rfl c' s') (Stp.newM hD) (S1.co.newM hD (mo := .dK []) ⟨[], rfl, rfl, .nil⟩) (h1 D (S1.co.free hD))
theorem ps_setDc {i : Nat} {y : Str} {py pos spos : Pos} {own : List (Str × Nat)} {wi : TI} {g : TG} {tt : TT} {tk tv : TE} (hc : X.calm = true) (hN : X.N.Nodup) (hy : X.N[i]? = some y) (hyl : X.env.scope.names.lookup y = some .local)
    (hsw : swapsWith (.DictComp kx vx [⟨tg, iter, ifs, 0⟩] scope pos) (some (.Name y py)) spos.line X.env = pure true) (hi : PI X tg iter wi) (ok : BlkOk X.N X.env.scope scope own)
    (hg : ∀ (s : Shared) (H : Hp) (C : Addr) (cl : List (Str × Addr)) (fp : List Addr), PG (X.blk s H scope (compEnvC scope cl C X.env) fp) tg g) (ht : ∀ (s : Shared) (H : Hp) (C : Addr) (cl : List (Str × Addr)) (fp : List Addr), PTs (X.blk s H scope (compEnvC scope cl C X.env) fp) ifs tt)
    (hk : ∀ (s : Shared) (H : Hp) (C : Addr) (cl : List (Str × Addr)) (fp : List Addr), PE (X.blk s H scope (compEnvC scope cl C X.env) fp) kx tk)
    (he : ∀ (s : Shared) (H : Hp) (C : Addr) (cl : List (Str × Addr)) (fp : List Addr), PE (X.blk s H scope (compEnvC scope cl C X.env) fp) vx tv) (hs : ∀ x, foldedSetIterable iter X.env x = pure x) :
    PS X (.Assign [.Name y py] (.DictComp kx vx [⟨tg, iter, ifs, 0⟩] scope pos) spos) (tAsg (tDc wi g tt tk tv (own.map (·.2))) (gName i)) := by
  refine ⟨fun P s σ H D I h => ?_⟩
  rw [exec_Assign_Name_used _ _ _ _ hsw]
  refine wpAny_bind (wpAny_standAt (wpAny_bind ?_))
  show wpAny _ X.A (do let _ ← comprehension (.DictComp kx vx [⟨tg, iter, ifs, 0⟩] scope pos) scope X.env (firstIterPos [⟨tg, iter, ifs, 0⟩] pos) newDict false (eval iter X.env) (some (assign (.Name y py) X.env))) _ _ s
  have h : tDc wi g tt tk tv (own.map (·.2)) σ H (fun x H1 => gName i x σ H1 D.nx) := h
  refine wpAny_bind (thn (dc_core (Qf := fun _ z => SP X P D .next z) hc hN I hi ok hg ht hk he hs h fun L C z m H' I' q hn f => ?_) fun _ z hq => wpAny_pure (wpAny_pure hq))
  show wpAny _ _ (assign (.Name y py) X.env (.ref L)) _ _ _
  refine wpAny_assign_Name (store_ok2 (v := V.ref L) I' hN hy (.inl hyl) rfl (fun z2 I2 ⟨a, sb, ha⟩ => ?_) (.inr hyl))
  obtain ⟨g0, g1, g2, g3, g4, g5⟩ := f
  have ne : C ≠ a := ha.elim (fun q => by rw [q]; exact g1) fun q e => g4 y a q e.symm
  refine ⟨m, hn.sameBut sb ne, fun h3 sb3 => ?_⟩
  exact ⟨_, H', I2.turned (t' := z2.toks) (fun b o hb e => (sb3.2 b hb).trans e) g0 g1 g3 g4 g5, q⟩
theorem ds_setDc {y : Str} {spos py : Pos} (j : Nat) (own : List (Str × Nat)) (G : Gd X W) (hi : DI X W tg iter ti) (hb : ∀ (s : Shared) (H : Hp) (C : Addr) (cl : List (Str × Addr)) (fp : List Addr), Gd (X.blk s H scope (compEnvC scope cl C X.env) fp) W0 → BlkDc (X.blk s H scope (compEnvC scope cl C X.env) fp) tg g ifs tt (own.map (·.2)) kx vx tk tv)
    (ok : blkC X.N X.env.scope scope own = true := by first | kernel_rfl | decide +kernel) (hs : ∀ x, foldedSetIterable iter X.env x = pure x := by intro _; rfl) (hy : X.N[j]? = some y := by rfl) (hyl : X.env.scope.names.lookup y = some .local := by rfl)
    (hsw : swapsWith (.DictComp kx vx [⟨tg, iter, ifs, 0⟩] scope pos) (some (.Name y py)) spos.line X.env = pure true := by rfl) : DS X W (.Assign [.Name y py] (.DictComp kx vx [⟨tg, iter, ifs, 0⟩] scope pos) spos) (dSet j (dDc ti g tt (own.map (·.2)) tk tv)) :=
  PS.of (ps_setDc (own := own) (g := lifGw X.K W0 g (own.map (·.2))) (tt := lif X.K W0 RB tt) (tk := lif X.K W0 (RD X.K) tk) (tv := lif X.K W0 (RD X.K) tv) G.calm G.nd hy hyl hsw hi (blkOk_by ok) (fun s H C cl fp => (hb s H C cl fp (G.blk ..)).g) (fun s H C cl fp => (hb s H C cl fp (G.blk ..)).t)
      (fun s H C cl fp => (hb s H C cl fp (G.blk ..)).k) (fun s H C cl fp => (hb s H C cl fp (G.blk ..)).v) hs) fun D1 σ H ⟨τ, M, D0, S, h⟩ => by
    refine S.sub h fun ds M1 J H1 h1 r1 S1 s1 => ?_
    intro D hD
    exact turns_ok (emD_ok D) r1 S1.rs (fun M' H' n c' s' => S1.nx _ M' _ H' n ((S1.rs.stp s').set (d := .ref D) (v := .ref D) rfl j) c' s') (Stp.newM hD) (S1.co.newM hD (mo := .dK []) ⟨[], rfl, rfl, .nil⟩) (h1 D (S1.co.free hD))
end
abbrev DTP := DR ((Mu → Prop) × List D)
def ItP (K : PySem.W.Frag) (M : Mu) (H : Hp) (q : (Mu → Prop) × List D) (J : It) : Prop := ∀ M' H', Cor K M' H' → Stp M H M' H' → q.1 M' →
  (∀ i, q.2.length ≤ i → J.stop i H') ∧ (∀ i, i < q.2.length → J.go i H') ∧ ∀ i d v H2, q.2[i]? = some d → J.yld i H' v H2 → Rep K M' H2 d v ∧ Cor K M' H2 ∧ Stp M' H' M' H2
abbrev DIP (X : Cx) (W : WX) (tg iter : Expr) (tr : DTP) : Prop := PI X tg iter (lif X.K W (ItP X.K) tr)
def diKeys (te : DTE) : DTP := fun τ M Q E => te τ M (fun d M1 => match d with
  | .ref a => (match M1 a with
    | some (.fK kvs u) => Q ((fun M => M a = some (.fK kvs u)), keysOf kvs) M1
    | _ => False)
  | _ => False) E
section
variable {X : Cx} {W : WX} {elt tg iter e : Expr} {ifs : List Expr} {scope : Scope} {pos p : Pos} {tr : DTP} {g : DTG} {tt : DTT} {te : DTE} {own : List (Str × Nat)} {vs : List Nat} {x : Str}
theorem di_keys (he : DE X W e te) : DIP X W tg e (diKeys te) := PI.of (pi_keys he) fun σ H R ⟨τ, M, Q0, E0, S, h⟩ => S.sub h fun d M1 v H1 h1 r1 S1 s1 => by
  cases d with
  | ref a =>
    cases r1
    have h2 : (match M1 a with
      | some (.fK kvs u) => Q0 ((fun M => M a = some (.fK kvs u)), keysOf kvs) M1
      | _ => False) := h1
    cases em : M1 a with
    | none => rw [em] at h2; exact h2.elim
    | some mo =>
      rw [em] at h2
      cases mo with
      | fK kvs u =>
        obtain ⟨od, ks, hf, eu, ek, rk⟩ := mu_fK S1.co em
        subst eu
        have hlen : ks.length = (keysOf kvs).length := by
          have := congrArg List.length ek
          rw [List.length_map, List.length_map] at this
          rw [this, keysOf, List.length_map]
        refine ⟨a, od, rfl, .inl ⟨ks, hf, S1.end_ (d := ((fun M => M a = some (.fK kvs (.frz od (.dK ks)))), keysOf kvs)) h2 ?_⟩⟩
        intro M' H' c' s' hp
        have hp : M' a = some (.fK kvs (.frz od (.dK ks))) := hp
        have at_ : H' a = some (.frz od (.dK ks)) := by
          obtain ⟨od', ks', q1, q2, _⟩ := mu_fK c' hp
          rw [q1, q2]
        refine ⟨fun i h => ⟨at_, by show ks.length ≤ i; rw [hlen]; exact h⟩, fun i h => ⟨at_, by rw [hlen]; exact h⟩, fun i d v H2 h y => ?_⟩
        obtain ⟨rfl, key, val, ykv, rfl⟩ := y
        have h : (keysOf kvs)[i]? = some d := h
        have hlt : i < (keysOf kvs).length := by
          rcases Nat.lt_or_ge i (keysOf kvs).length with z | z
          · exact z
          · rw [List.getElem?_eq_none z] at h; cases h
        have hk2 : i < kvs.length := by rw [keysOf, List.length_map] at hlt; exact hlt
        have q : (ks.map (·.1))[i]? = (kvs.map fun q => kO q.1)[i]? := by rw [ek]
        rw [List.getElem?_map, List.getElem?_map, ykv, List.getElem?_eq_getElem hk2] at q
        have q2 : key = kO kvs[i].1 := by simpa using q
        have q3 : d = kD kvs[i].1 := by
          rw [List.getElem?_eq_getElem hlt] at h
          have := Option.some.inj h
          rw [← this]
          simp [keysOf]
        rw [q2, q3]
        exact ⟨kD_rep _, c', Stp.refl M' _⟩
      | _ => exact h2.elim
  | _ => exact h1.elim
def wTsP (P : Mu → Prop) (g : DTG) (tt : DTT) (vs : List Nat) (τ : DSt) (inn : DSt → Mu → (Mu → Prop) → Prop) (Nx : Mu → Prop) : List D → Mu → Prop
  | [], M => P M ∧ Nx M
  | d :: ds, M => P M ∧ g d (wipeD τ vs) M (fun τ2 M2 => tt τ2 M2 (fun b M3 => if b = true then inn τ2 M3 (wTsP P g tt vs τ inn Nx ds) else wTsP P g tt vs τ inn Nx ds M3) noX) noX
def dLcP (tr : DTP) (g : DTG) (tt : DTT) (vs : List Nat) (te : DTE) : DTE := fun τ M Q E => tr τ M (fun q M1 => ∀ p, M1 p = none → wTsP q.1 g tt vs τ (dEm p te) (fun M2 => Q (.ref p) M2) q.2 (put M1 p (.lst []))) E
theorem turnsP_ok {K : PySem.W.Frag} {inn : DSt → Mu → (Mu → Prop) → Prop} {innL : L2.St → Hp → (Hp → Prop) → Prop} (hin : Inn K inn innL) {τ : DSt} {σ : L2.St} {M M1 : Mu} {H H1 : Hp} {P : Mu → Prop} {ds : List D} {J : It} {Nx0 : Mu → Prop} {Nx : Hp → Prop}
    (hJ : ItP K M H (P, ds) J) (rs : RepS K M H τ σ) (hN : ∀ M' H', Nx0 M' → Cor K M' H' → Stp M H M' H' → Nx H') (s1 : Stp M H M1 H1) (c1 : Cor K M1 H1) (h : wTsP P g tt vs τ inn Nx0 ds M1) :
    wTurns (lifGw K W0 g vs) (lif K W0 RB tt) vs σ innL Nx J H1 := by
  refine ⟨fun i m H2 => m = ds.length - i ∧ i ≤ ds.length ∧ ∃ M2, Stp M H M2 H2 ∧ Cor K M2 H2 ∧ wTsP P g tt vs τ inn Nx0 (ds.drop i) M2, ⟨ds.length, rfl, Nat.zero_le _, M1, s1, c1, h⟩, ?_⟩
  rintro i m H2 ⟨rfl, hi, M2, s2, c2, h2⟩
  by_cases hlt : i < ds.length
  · have e : ds.drop i = ds[i] :: ds.drop (i + 1) := List.drop_eq_getElem_cons hlt
    rw [e] at h2
    obtain ⟨k1, k2, k3⟩ := hJ M2 H2 c2 s2 h2.1
    refine .inr ⟨k2 i hlt, fun H3 => ∃ M3, Stp M H M3 H3 ∧ Cor K M3 H3 ∧ wTsP P g tt vs τ inn Nx0 (ds.drop (i + 1)) M3, fun H3 q => ⟨ds.length - (i + 1), by omega, rfl, hlt, q⟩, fun x H3 y => ?_⟩
    obtain ⟨y1, y2, y3⟩ := k3 i ds[i] x H3 (List.getElem?_eq_getElem hlt) y
    have s3 := s2.trans y3
    refine ⟨ds[i], wipeD τ vs, M2, _, noX, y1, ⟨(rs.stp s3).wipe vs, y2, fun τ4 M4 σ4 H4 h4 r4 c4 s4 hw => ⟨hw.trans (wipe_wipe σ vs), ?_⟩, fun _ _ _ _ _ z => z.elim⟩, h2.2⟩
    refine ⟨τ4, M4, _, noX, ⟨r4, c4, fun b M5 b' H5 h5 r5 c5 s5 => ?_, fun _ _ _ _ _ z => z.elim⟩, h4⟩
    cases r5
    cases b with
    | false => exact ⟨M5, s3.trans (s4.trans s5), c5, h5⟩
    | true =>
      simp only [if_true] at h5 ⊢
      exact hin τ4 σ4 M5 H5 _ _ (r4.stp s5) c5 (fun M' H' n c' s' => ⟨M', s3.trans (s4.trans (s5.trans s')), c', n⟩) h5
  · have e : i = ds.length := by omega
    rw [e, List.drop_length] at h2
    obtain ⟨k1, k2, k3⟩ := hJ M2 H2 c2 s2 h2.1
    exact .inl ⟨k1 i (show ds.length ≤ i by omega), hN M2 H2 h2.2 c2 s2⟩
def fClP (X : Cx) (W : WX) (tg iter : Expr) (ifs : List Expr) (tr : DTP) (g : DTG) (tt : DTT) (vs : List Nat) : Cl := ⟨tg, iter, ifs, lif X.K W (ItP X.K) tr, lifGw X.K W0 g vs, lif X.K W0 RB tt, vs⟩
theorem lif_lcP {σ : L2.St} {H : Hp} {Q : VK} (h : lif X.K W (RD X.K) (dLcP tr g tt vs te) σ H Q) : tLcN (fClP X W tg iter ifs tr g tt vs) [] (lif X.K W0 (RD X.K) te) σ H Q := by
  obtain ⟨τ, M, Q0, E0, S, h⟩ := h
  refine S.sub h fun q M1 J H1 h1 r1 S1 s1 => ?_
  obtain ⟨P, ds⟩ := q
  intro D hD
  exact turnsP_ok (em_ok D) r1 S1.rs (fun M' H' n c' s' => S1.q (.ref D) M' (.ref D) H' n rfl c' s') (Stp.newM hD) (S1.co.newM hD (mo := .lst []) ⟨[], rfl, .nil⟩) (h1 D (S1.co.free hD))
theorem blkP_ok {B : Cx} (hK : B.K = X.K) (h : BlkR B tg g ifs tt vs elt te) : ClOk B (fClP X W tg iter ifs tr g tt vs) ∧ (∀ x ∈ ([] : List Cl), ClIn B x) ∧ PE B elt (lif X.K W0 (RD X.K) te) := by
  rw [← hK]
  refine ⟨⟨by rw [fClP, ← hK]; exact h.g, by rw [fClP, ← hK]; exact h.t⟩, fun x hx => ?_, h.e⟩
  cases hx
theorem de_lcP (own : List (Str × Nat)) (G : Gd X W) (hi : DIP X W tg iter tr) (hb : ∀ (s : Shared) (H : Hp) (C : Addr) (cl : List (Str × Addr)) (fp : List Addr), Gd (X.blk s H scope (compEnvC scope cl C X.env) fp) W0 → BlkR (X.blk s H scope (compEnvC scope cl C X.env) fp) tg g ifs tt (own.map (·.2)) elt te)
    (ok : blkC X.N X.env.scope scope own = true := by first | kernel_rfl | decide +kernel) (hs : ∀ x, foldedSetIterable iter X.env x = pure x := by intro _; rfl) : DE X W (.ListComp elt [⟨tg, iter, ifs, 0⟩] scope pos) (dLcP tr g tt (own.map (·.2)) te) :=
  PE.of (pe_lcN (c := fClP X W tg iter ifs tr g tt (@List.map (Str × Nat) Nat (fun p => p.2) own)) (cs := []) G.calm G.nd hi (blkOk_by ok) rfl (show Dec (own.map (·.2)) [] from trivial) (fun B ⟨s, H, C, cl, fp, e⟩ => by subst e; exact blkP_ok rfl (hb s H C cl fp (G.blk ..))) hs) fun σ H Q h => lif_lcP h
theorem u_keys {te : DTE} {τ : DSt} {M : Mu} {Qr : (Mu → Prop) × List D → Mu → Prop} {E : DX} : diKeys te τ M Qr E = te τ M (fun d M1 => onRef (K := fun a => onFK (K := fun kvs u => Qr ((fun M => M a = some (.fK kvs u)), keysOf kvs) M1) ⟨⟩ (M1 a)) ⟨⟩ d) E := by
  unfold diKeys
  congr 1
end
def gAddM : DOp := fun x y M Q => match x, y with
  | .lst a, .lst b => a.length + b.length ≤ 16777216 ∧ ∀ p, M p = none → Q (.ref p) (put M p (.lst (a ++ b)))
  | .ref p, .lst b => (match M p with
    | some (.lst a) => a.length + b.length ≤ 16777216 ∧ ∀ p, M p = none → Q (.ref p) (put M p (.lst (a ++ b)))
    | _ => False)
  | _, _ => False
theorem od_addM {K : PySem.W.Frag} : OpD K gAddM (rAddA K) := fun M H x y v u Q0 Q c rx ry h q => by
  cases x with
  | lst xs =>
    obtain ⟨a, vs, rfl, ha, ma, ra⟩ := rep_of_lst rx
    cases y with
    | lst ys =>
      obtain ⟨b, us, rfl, hb, mb, rb⟩ := rep_of_lst ry
      exact .inr (.inl ⟨a, b, vs, us, rfl, rfl, ha, hb, by rw [ra.length, rb.length, line24]; exact h.1, new_lstM c (ra.append rb) h.2 q⟩)
    | _ => exact h.elim
  | ref a =>
    cases rx
    cases y with
    | lst ys =>
      obtain ⟨b, us, rfl, hb, mb, rb⟩ := rep_of_lst ry
      have h2 : (match M a with
        | some (.lst xs) => xs.length + ys.length ≤ 16777216 ∧ ∀ p, M p = none → Q0 (.ref p) (put M p (.lst (xs ++ ys)))
        | _ => False) := h
      cases e : M a with
      | none => rw [e] at h2; exact h2.elim
      | some mo =>
        rw [e] at h2
        cases mo with
        | lst xs =>
          obtain ⟨vs, ha, ra⟩ := mu_lst c e
          exact .inr (.inl ⟨a, b, vs, us, rfl, rfl, ha, hb, by rw [ra.length, rb.length, line24]; exact h2.1, new_lstM c (ra.append rb) h2.2 q⟩)
        | _ => exact h2.elim
    | _ => exact h.elim
  | _ => exact h.elim
theorem addM_l {M : Mu} {Q : DK} {a b : List D} : opK (K := Q) ⟨⟩ gAddM (.lst a) (.lst b) M = (a.length + b.length ≤ 16777216 ∧ ∀ p, M p = none → Q (.ref p) (put M p (.lst (a ++ b)))) := pq Iff.rfl
theorem addM_rl {M : Mu} {Q : DK} {p : Addr} {b : List D} : opK (K := Q) ⟨⟩ gAddM (.ref p) (.lst b) M = onML (K := fun a => a.length + b.length ≤ 16777216 ∧ ∀ p, M p = none → Q (.ref p) (put M p (.lst (a ++ b)))) ⟨⟩ (M p) := pq Iff.rfl
end DL
namespace DL
open PySem L2 He
def dTry (t : DTS) : DTS := fun D τ M => t { D with xc := fun _ _ _ => False } τ M
section
variable {X : Cx} {W : WX} {a b e o i : Expr} {es : List Expr} {ta tb te to tv ti : DTE} {tl : DTA} {C f m x : Str} {sp : DSp} {k : Nat} {pos pos' apos p p2 tpos : Pos} {t : DTS}
def dCM (C : Str) (sp : DSp) (ta : DTA) : DTE := fun τ M Q E => ta τ M (fun ds M1 => sp (.cl C :: ds) M1 Q E) E
def dMakeV (i : Nat) (C : Str) (sp : DSp) (ta : DTA) : DTE := fun τ M Q E => dVar i τ M (fun d M1 => match d with
  | .cl x => x = C ∧ dMake C sp ta τ M1 Q E
  | _ => False) E
theorem de_makeV0 (j : Nat) (F : FC X k C "__init__" sp) (M : Mk X.K (ga X.K C) (ma X.K (ga X.K C) "__init__")) (G : Gd X W) (hr : Room (k + 1) X.A) (hN : X.N[j]? = some x := by rfl)
    (hv : Vis X.env.scope x := by first | exact Or.inl rfl | exact Or.inr (Or.inl rfl) | exact Or.inr (Or.inr rfl)) (hd : (x == ("__debug__" : Str)) = false := by decide)
    (hcd : (x == ("__classdict__" : Str)) = false := by decide) : DE X W (.Call (.Name x p) [] [] pos) (dMakeV j C sp daNil) := by
  refine ⟨fun pins s σ H Q I h => ?_⟩
  obtain ⟨τ, M0, Q0, E0, S, h⟩ := h
  refine wpAny_Call_Name_kw (thn ((de_var (X := X) (W := W) (pos := p) j hN hv hd hcd).run pins s σ H (fun v H1 => v = .ref (ga X.K C) ∧ ∃ M1, Sit X.K W (RD X.K) τ M1 σ H1 Q0 E0 Q ∧ dMake C sp daNil τ M1 Q0 E0) I (S.sub h fun d M1 v H1 h1 r1 S1 s1 => ?_)) fun u s1 ⟨v, H1, I1, rv, ev, M1, S1, h1⟩ => ?_)
  · cases d with
    | cl y =>
      obtain ⟨rfl, h2⟩ := h1
      exact ⟨r1, M1, S1, h2⟩
    | _ => exact h1.elim
  · subst ev
    obtain rfl : u = Value.ref (ga X.K C) := rv
    exact PySem.W.callWith_K0 I1.kIn M.kp (run_makeS (us := []) M F.run G.tk hr I1 .nil (make_of S1 .nil h1))
def enumF : Nat → List D → List D
  | _, [] => []
  | i, d :: r => .tup [.int (i : Nat), d] :: enumF (i + 1) r
theorem enumF_len : ∀ {j : Nat} {ds : List D}, (enumF j ds).length = ds.length
  | _, [] => rfl
  | j, d :: r => by unfold enumF; rw [List.length_cons, List.length_cons, enumF_len]
theorem enumF_get : ∀ {ds : List D} {j i : Nat} {d : D}, (enumF j ds)[i]? = some d → ∃ y, ds[i]? = some y ∧ d = .tup [.int ((j + i : Nat) : Int), y]
  | [], _, _, _, e => by simp [enumF] at e
  | y :: r, j, 0, d, e => by
    unfold enumF at e
    rw [List.getElem?_cons_zero] at e
    cases e
    exact ⟨y, rfl, rfl⟩
  | y :: r, j, i + 1, d, e => by
    unfold enumF at e
    rw [List.getElem?_cons_succ] at e
    obtain ⟨z, h1, h2⟩ := enumF_get e
    exact ⟨z, by rw [List.getElem?_cons_succ]; exact h1, by rw [h2, show j + 1 + i = j + (i + 1) by omega]⟩
def diEnum (ta : DTA) : DTI := fun τ M Q E => ta τ M (fun ds M1 => match ds with
  | [.lst xs] => Q (enumF 0 xs) M1
  | _ => False) E
theorem it_enum {K : PySem.W.Frag} {M : Mu} {H : Hp} {a : Addr} {ds : List D} {vs : List V} (ha : H a = some (.lst vs)) (ma : M a = none) (ra : Reps K M H ds vs) : ItOk K M H (enumF 0 ds) (Ite K a) := fun M' H' s c => by
  have q : SqL K H' a vs := .inl (.inl (s a _ ha ma).1)
  have r := ra.stp s
  refine ⟨fun i h => ⟨vs, q, by rw [ra.length]; rw [enumF_len] at h; exact h⟩, fun i h => ?_, fun i d v H2 h y => ?_⟩
  · rw [enumF_len] at h
    obtain ⟨v, h1, _⟩ := r.get (List.getElem?_eq_getElem h)
    exact ⟨vs, v, q, h1⟩
  · obtain ⟨T, x, rfl, hT, rfl, y⟩ := y
    obtain ⟨z, h1, rfl⟩ := enumF_get h
    obtain ⟨u, h2, h3⟩ := r.get h1
    have ee := y vs q
    rw [h2] at ee
    obtain rfl : u = x := by simpa using ee
    have st : Stp M' H' M' (upd H' T (.tup [.int (i : Nat), u])) := Stp.new hT
    refine ⟨rep_tup upd_same (c.free hT) (.cons ?_ (.cons (h3.stp st) .nil)), c.new hT, st⟩
    show V.int _ = V.int _
    rw [Nat.zero_add]
theorem di_enum {elts : List Expr} {kk : Nat} (hm : X.mg "enumerate" = none) (ha : DA X W [a] tl) (hg : Gl X "enumerate" := by rfl) (hs : starEach [a] X.env = [(false, eval a X.env)] := by rfl) : DI X W (.Tuple elts kk tpos) (.Call (.Name "enumerate" p) [a] [] pos) (diEnum tl) :=
  PI.of (pi_enum hg hm ha hs) fun σ H R ⟨τ, M, Q0, E0, S, h⟩ => S.sub h fun ds M1 vs H1 h1 r1 S1 s1 => by
    match ds, h1 with
    | [.lst xs], h1 =>
      obtain ⟨v, u, rfl, r2, r3⟩ := r1.uncons
      cases r3.unnil
      obtain ⟨a, vs, rfl, ha, ma, ra⟩ := rep_of_lst r2
      exact ⟨a, vs, rfl, .inl (.inl ha), S1.end_ h1 (it_enum ha ma ra)⟩
end
def idxD (y : D) : List D → Option Nat
  | [] => none
  | z :: r => if eqF z y = true then some 0 else (idxD y r).map (· + 1)
def gIndex : DMt := fun x xs M Q => match x, xs with
  | .lst ds, [y] => flatD y = true ∧ ds.all flatD = true ∧ ∃ j, idxD y ds = some j ∧ Q (.int (j : Nat)) M
  | _, _ => False
def onCl {K : Prop} (C : Str) (_ : Lk K) (d : D) : Prop := match d with
  | .cl x => x = C ∧ K
  | _ => False
theorem onCl_c {K : Prop} {C : Str} : onCl (K := K) C ⟨⟩ (.cl C) = K := by show (C = C ∧ K) = K; simp
def onEnum {K : List D → Prop} (_ : Lk K) (ds : List D) : Prop := match ds with
  | [.lst xs] => K (enumF 0 xs)
  | _ => False
theorem onEnum_l {K : List D → Prop} {xs : List D} : onEnum (K := K) ⟨⟩ [.lst xs] = K (enumF 0 xs) := pq Iff.rfl
section
variable {C : Str} {sp : DSp} {tl : DTA} {τ : DSt} {M : Mu} {Q : DK} {E : DX} {D0 : DEnds} {i : Nat} {t : DTS} {Ql : List D → Mu → Prop}
theorem u_try : dTry t D0 τ M = t { D0 with xc := fun _ _ _ => False } τ M := pq Iff.rfl
theorem u_cm : dCM C sp tl τ M Q E = tl τ M (fun ds M1 => callK (K := Q) (L := E) ⟨⟩ ⟨⟩ sp (.cl C :: ds) M1) E := pq Iff.rfl
theorem u_makeV : dMakeV i C sp tl τ M Q E = dVar i τ M (fun d M1 => onCl (K := dMake C sp tl τ M1 Q E) C ⟨⟩ d) E := pq Iff.rfl
theorem index_l {ds : List D} {y : D} : mtK (K := Q) ⟨⟩ gIndex (.lst ds) [y] M = (flatD y = true ∧ ds.all flatD = true ∧ ∃ j, idxD y ds = some j ∧ Q (.int (j : Nat)) M) := pq Iff.rfl
theorem r_enum : diEnum tl τ M Ql E = tl τ M (fun ds M1 => onEnum (K := fun xs => Ql xs M1) ⟨⟩ ds) E := pq Iff.rfl
end
end DL
namespace DL
open PySem L2 He
def gStrO (C : Str) (sp : DSp) : DCb := fun xs M Q => match xs with
  | [d] => isIns C M d ∧ sp [d] M (fun x M2 => (∃ t, x = .str t) ∧ Q x M2) noX
  | _ => False
theorem strO_r {C : Str} {sp : DSp} {M : Mu} {Q : DK} {d : D} : cbK (K := Q) ⟨⟩ (gStrO C sp) [d] M = (isIns C M d ∧ sp [d] M (fun x M2 => (∃ t, x = .str t) ∧ Q x M2) noX) := pq Iff.rfl
end DL
namespace DL
open PySem L2 He
def gCmpO (C : Str) (sp : DSp) : DOp := fun x y M Q => isIns C M x ∧ (isIns C M y ∨ ∃ n, tyD M y = some n) ∧ sp [x, y] M Q noX
theorem cmpO_r {C : Str} {sp : DSp} {M : Mu} {Q : DK} {x y : D} : opK (K := Q) ⟨⟩ (gCmpO C sp) x y M = (isIns C M x ∧ (isIns C M y ∨ ∃ n, tyD M y = some n) ∧ sp [x, y] M Q noX) := pq Iff.rfl
def gPop1 : DMt := fun x xs M Q => match x, xs with
  | .ref a, [.int i] => (match M a with
    | some (.lst ds) => 0 ≤ i ∧ i < 1073741824 ∧ (match ds[i.toNat]? with
      | some d => Q d (put M a (.lst (ds.eraseIdx i.toNat)))
      | none => False)
    | _ => False)
  | _, _ => False
theorem pop1_r {a : Addr} {i : Int} {M : Mu} {Q : DK} : mtK (K := Q) ⟨⟩ gPop1 (.ref a) [.int i] M = onML (K := fun ds => 0 ≤ i ∧ i < 1073741824 ∧ onSome (K := fun d => Q d (put M a (.lst (ds.eraseIdx i.toNat)))) ⟨⟩ ds[i.toNat]?) ⟨⟩ (M a) := by
  show (match M a with
    | some (.lst ds) => 0 ≤ i ∧ i < 1073741824 ∧ (match ds[i.toNat]? with
      | some d => Q d (put M a (.lst (ds.eraseIdx i.toNat)))
      | none => False)
    | _ => False) = _
  cases M a with
  | none => rfl
  | some mo =>
    cases mo with
    | lst ds =>
      show (0 ≤ i ∧ i < 1073741824 ∧ (match ds[i.toNat]? with
        | some d => Q d (put M a (.lst (ds.eraseIdx i.toNat)))
        | none => False)) = (0 ≤ i ∧ i < 1073741824 ∧ onSome (K := fun d => Q d (put M a (.lst (ds.eraseIdx i.toNat)))) ⟨⟩ ds[i.toNat]?)
      cases ds[i.toNat]? <;> rfl
    | _ => rfl
end DL
namespace DL
open PySem L2 He NdefX
structure ErrD (K : PySem.W.Frag) (x qual : Str) (params : Arguments) (body : List Stmt) (scope : Scope) (C f cc cda : Addr) (file : Str) (fd : FuncData) : Prop where
  ex : ∃ (oc : Value) (od : Option Addr) (kV doc pm : Value) (an : Option Addr) (ct : Value) (osl : Array (Option Value)),
    fd = PySem.W.fnX x qual params body scope [("__class__", cc)] .none kV doc pm an (.ref cda) ct ∧ K.lookup f = some ⟨oc, od, .func fd, osl⟩
  crec : PySem.W.codeIn K (.ref cda) qual = true
  cell : ∃ (cl : Value) (cld : Option Addr) (csl : Array (Option Value)), K.lookup cc = some ⟨cl, cld, .cell (some (.ref C)), csl⟩
  code : ∃ (ccl : Value) (cdd : Option Addr) (vs : Array Value) (ccs : Array (Option Value)) (tf : Tok), K.lookup cda = some ⟨ccl, cdd, .fields vs, ccs⟩ ∧ vs[2]? = some (.str file tf)
structure ErrC (K : PySem.W.Frag) (C : Addr) : Prop where
  T : OexC K C
  sup : PySem.W.ks_superIn K C C "__init__" = some (some (.builtin "ValueError.__init__"))
  sub : PySem.W.subIn K (.ref C) (.type "ValueError") = some true
  self : PySem.W.mroIn K C (.ref C) = some true
  any : PySem.W.nsIn K cStatics "thirdparty.any" = some none
section
open PySem.W PySem.Calls PyProof.Rows
variable {prog : Program} {w : World} {M : Model} {A : Around} {E : Value → Shared → Prop} {h : Heap} {g : Array GenState} {d : Drawn} {t : Nat} {os : OsState}
variable {nm q : Str} {C N : Addr} {bs bm : List Value} {hdct : Bool} {sn : List Str} {sub : List Value} {ab : Bool} {col : Option Bool} {dd : Option Addr} {k0 k1 k2 k3 k5 : Option Value}
theorem err_bound {B newId initId : String} {bmB : List Value} (F : ExcBaseFacts B newId initId bmB) {e : Addr} {oe : Obj} {rest : List Value} {Q : Unit → Shared → Prop}
    (hC : h.get? C = some (excClassObj nm q C N bs bm hdct sn sub ab col dd k0 k1 k2 k3 k5 newId)) (he : h.get? e = some oe) (hcls : oe.cls = .ref C) (hq : Q () ⟨h, g, d, t, os⟩) :
    wpAny M A (checkBoundCall initId ⟨.ref e :: rest, []⟩) Q E ⟨h, g, d, t, os⟩ := by
  have hshort := F.noStar
  simp only [checkBoundCall, F.initKind, F.initRow]
  repeat (first | (with_reducible refine wpAny_loadPart_at he ?_; rw [hcls]) | with_reducible refine wpAny_loadPart_at hC ?_ | wp_step)
  refine wpAny_onRaise ?_
  rw [show ∀ (a b : String) (n : Nat), Bind.check ⟨.positional, "*", B, .self, [⟨"args", .varPos, false⟩]⟩ a b n (List.map (fun x => x.fst) ({ pos := Value.ref e :: rest } : Args).kw) = pure () from
    fun a b n => check_star_args _ _ _ _ _ _]
  exact wpAny_pure hq
theorem err_call {u e t0 : Addr} {rest : List Value} {Q : Value → Shared → Prop}
    (hC : h.get? C = some (excClassObj nm q C N bs bm hdct sn sub ab col dd k0 k1 k2 k3 k5 "ValueError.__new__")) (he : h.get? e = some (HandSPX.excO C t0)) (hu : h.get? u = some (kxs_mw "ValueError.__init__" e)) (hrest : rest.length ≤ sizeLine)
    (hq : ∀ h' t1, (∀ b o, b ≠ e → h.get? b = some o → h'.get? b = some o) → h'.get? e = some (HandSPX.excO C t1) → Q .none ⟨h', g, d, t, os⟩) :
    wpAny (model prog w) A (call (.ref u) rest) Q E ⟨h, g, d, t, os⟩ := by
  refine wpAny_call (codeAny_of_tree ?_)
  show wpAny _ A.in1 (callAny (.ref u) ⟨rest, []⟩) _ _ _
  simp only [callAny]
  refine wpAny_bind (wpAny_load hu ?_)
  simp only [kxs_mw, show (Value.type "method-wrapper" == Value.type "method" || Value.type "method-wrapper" == Value.type "builtin_function_or_method" || Value.type "method-wrapper" == Value.type "method-wrapper") = true by decide, if_true]
  refine W.KFB.if_so (by decide) ?_
  refine wpAny_bind (err_bound F.excBase_ValueError hC he rfl ?_)
  refine wpAny_bind (wpAny_pure (wpAny_pure ?_))
  refine ⟨Code.quiet_builtin _ (by decide +kernel), codeAny_builtin F.excBase_ValueError.initEntry ?_⟩
  rw [Around.under_plainId F.excBase_ValueError.init.plain _]
  wp_walk
  refine hq _ h.objs.size (fun b o hb ho => ?_) ?_
  · rw [Heap.get?_update_other _ _ (Ne.symm hb)]
    exact Heap.get?_push_of_some _ ho
  · rw [Heap.get?_update_self _ (Heap.get?_push_of_some _ he) rfl]
    rfl
end
theorem err_super {X : Cx} {F : NF} {f L a C cc cda : Addr} {file x qual m : Str} {params : Arguments} {body : List Stmt} {scope : Scope} {fd : FuncData} {pins : List (Addr × Obj)} {σ : L2.St} {H : Hp} {s : Shared} {ar : Arg} {p0 p1 p2 p3 p4 p5 : Pos} {j : Nat} {cbody : List Stmt}
    (D : ErrD X.K x qual params body scope C f cc cda file fd) (T : ErrC X.K C) (henv : X.env = PySem.W.envX qual scope L f (.ref cda) [("__class__", cc)]) (I : Inv X pins σ H s) (ea : H a = some (exo a C none))
    (hp : (params.posonlyargs ++ params.args).head? = some ar) (h0 : X.N[0]? = some ar.arg) (hs0 : σ[0]? = some (some (.ref a)))
    (hfile : ((X.prog.main.file : Str) == file) = true) (hm : X.mg "super" = none) (htop : (X.prog.main.scope.names.lookup ("super" : Str)).isSome = false)
    (hks : scope.names.lookup ("super" : Str) = some .globalImplicit) (hkc : scope.names.lookup ("__class__" : Str) = some .free) (hka : scope.names.lookup ar.arg = some .local)
    {Q : Flow → Shared → Prop} {E : Value → Shared → Prop} {pl : Sem Bool} (hq : ∀ s', Inv X pins σ H s' → Q .next s')
    (hi : interactive X.env = false := by rfl) (hsw : swapsWith (.Call (.Attribute (.Call (.Name "super" p0) [] [] p1) "__init__" p2) [.Constant (.str m) j p3] [] p4) none p5.line X.env = pure false := by rfl)
    (he : eval (.Call (.Attribute (.Call (.Name "super" p0) [] [] p1) "__init__" p2) [.Constant (.str m) j p3] [] p4) X.env = (do
      let ov ← attributeBase (.Call (.Name "super" p0) [] [] p1) "__init__" X.env (eval (.Call (.Name "super" p0) [] [] p1) X.env)
      standAt p2.atName
      let (f, first) ← holding [ov] (getMethod ov "__init__" pl)
      callWith p4 f first (backTo p4 (starEach [.Constant (.str m) j p3] X.env)) []) := by rfl) :
    _root_.PySem.wpAt (model X.prog X.w) X.A (.func cbody X.env) (exec (.Expr (.Call (.Attribute (.Call (.Name "super" p0) [] [] p1) "__init__" p2) [.Constant (.str m) j p3] [] p4) p5) X.env) Q E s := by
  obtain ⟨oc, od, kV, doc, pm, an, ct, osl, rfl, hf⟩ := D.ex
  obtain ⟨cl, cld, csl, hcell⟩ := D.cell
  obtain ⟨ccl, cdd, vs, ccs, tf, hcode, hvs⟩ := D.code
  have KX := I.kIn
  refine ks_wpAt_Expr_any (ks_wpAt_MethodCall (pl := pl) ?_ he) hi hsw
  obtain ⟨nm, q, N, bs, bm, sn, sub, ab, col, dd, k0, k1, k2, k3, k5, hC, hbm⟩ := T.T.cls
  obtain ⟨mb, hb1, hb2⟩ := I.mod.blt
  obtain ⟨mL, hns, hloc⟩ := I.loc
  obtain ⟨u0, hu0, hl0⟩ := hloc 0 ar.arg (.ref a) h0 hs0 (.inl (by rw [henv]; exact hka))
  obtain rfl : u0 = Value.ref a := hu0
  have hself : mL ar.arg = some (.ref a) := by
    rcases hl0 with ⟨_, e⟩ | ⟨e, _⟩
    · exact e
    · have e1 : scope.names.lookup ar.arg = some .cell ∨ scope.names.lookup ar.arg = some .free := by rw [henv] at e; exact e
      rw [hka] at e1
      rcases e1 with e1 | e1 <;> cases e1
  obtain ⟨t1, ho⟩ := exo_at I.hok ea
  have hkS : X.env.kindOf "super" = some .globalImplicit := by rw [henv]; exact hks
  have hkC : X.env.kindOf "__class__" = some .free := by rw [henv]; exact hkc
  refine PySem.ks_wpAt_super_base (f := f) (cc := cda) hkS hkC (by decide) (by rw [henv]) (KX _ _ hf) rfl hp (by rw [henv]) (KX _ _ hcode) rfl hvs hfile htop ?_
  refine PySem.W.ks_loadName_global I.ok.kind hkS (Calls.loadGlobal_builtin (by rw [I.ok.glob]; exact I.mod.glob.keeps I.bk) hm (by rw [I.ok.blt]; exact hb1.keeps I.bk) ((hb2 "super" (by decide)).trans (by decide +kernel)) ⟨rfl, ?_⟩)
  refine wpAny_loadName_free I.ok.kind hkC (c := cc) (by rw [henv]; rfl) ⟨_, KX _ _ hcell, rfl⟩ ?_
  refine wpAny_loadName_local I.ok.kind (by rw [henv]; exact hka) hns hself ?_
  refine PySem.ks_wpAny_isType_cls (KX _ _ hC) rfl ⟨rfl, ?_⟩
  obtain ⟨hh, g, d, t, os⟩ := s
  have hno : ∀ c, ({ cls := .ref C, dict := none, data := .fields #[.ref t1, .none, .none, .none, .bool false, .none] } : Obj).data ≠ .cls c := fun c e => by cases e
  refine PySem.ks_wpAny_call_super (KX _ _ hC) rfl ho rfl hno (PySem.W.looks_mroIn KX T.self) fun h' e k => ?_
  have I1 : Inv X pins σ H ⟨h', g, d, t, os⟩ := I.kept (t' := t) k
  have K1 := I1.kIn
  obtain ⟨t2, ho1⟩ := exo_at I1.hok ea
  have hcl : PySem.W.clsIn X.K C = some { name := nm, bases := bs, mro := .ref C :: bm, ns := N, qualname := q, hasDict := true, slotNames := sn, subclasses := sub, abstract := ab, collection := col, hasDel := false } := by unfold PySem.W.clsIn; rw [hC] <;> rfl
  have hsup := T.sup
  unfold PySem.W.ks_superIn at hsup
  rw [hcl] at hsup
  have J : PySem.W.InstAt h' a { cls := .ref C, dict := none, data := .fields #[.ref t2, .none, .none, .none, .bool false, .none] } C none := ⟨ho1, rfl, rfl, trivial⟩
  refine PySem.W.kxs_getMethod PySem.W.kxs_ValueError (D := C) (x := a) (C := C) e (PySem.W.looks_opaque K1 T.any) (l₀ := .ref C :: bm) ?_ rfl K1 hsup (J.type.andThen (PySem.W.looks_subIn K1 T.sub)) (PySem.W.ks_ne K1 J hcl) (by decide) ?_
  · exact fun A Q E s k q => wpAny_bind ((PySem.W.looks_clsIn K1 hcl) A _ E s k (wpAny_pure q))
  have I2 := ClX.pin_new (t' := t + 1) (a := h'.objs.size) (o := PySem.W.kxs_mw "ValueError.__init__" a) (h' := h'.push (PySem.W.kxs_mw "ValueError.__init__" a)) I1 (fun b o e => Heap.get?_push_of_some _ e) (Nat.le_refl _) (Heap.get?_push_at rfl rfl) (fun v e => by cases e)
  refine PySem.W.kxs_callWith (i := "ValueError.__init__") (x := a) rfl ?_
  refine Calls.evalArgs_plain (thn ((pa_cons (pe_str (x := m) (j := j) (pos := p3)) pa_nil).run p4 _ _ σ H (fun ws H2 => ws = [.str m] ∧ H2 = H) I2 ⟨rfl, rfl⟩) fun us s3 ⟨ws, H3, I3, r3, e1, e2⟩ => ?_)
  subst e1 e2
  refine ⟨ClX.pin_at I3, ?_⟩
  obtain ⟨t3, ho3⟩ := exo_at I3.hok ea
  have l3 : us.length ≤ sizeLine := by rw [← Paired.length r3, sizeLine_eq]; show (1 : Nat) ≤ 16777216; decide
  obtain ⟨hp3, g3, d3, tk3, os3⟩ := s3
  refine err_call (I3.kIn _ _ hC) ho3 (ClX.pin_at I3) l3 fun h4 t4 k4 e4 => ?_
  have I4 := ClX.unpin I3
  have J4 := I4.write (t' := tk3) (x := a) (e := a) (o := exo a C none) (by rw [ea]; exact True.intro) (.inl rfl) k4 ⟨_, e4⟩ (exo_ok e4)
  have eu : upd H3 a (exo a C none) = H3 := by
    funext b
    by_cases hb : b = a
    · rw [hb, upd_same, ea]
    · rw [upd_ne hb]
  rw [eu] at J4
  exact hq _ J4
def spErr (C : Addr) (fld : Str) : Sp := fun vs H Q _ => ∃ (a : Addr) (u : V), vs = [.ref a, u] ∧ H a = some (exo a C none) ∧ ∀ dx, H dx = none → dx ≠ a → Q .non (upd (upd H dx (exd dx [(fld, u)])) a (exo a C (some dx)))
theorem err_ok {P : Program} {w : World} {K : PySem.W.Frag} {mg : Str → Option Value} {base : Heap} {CX : CXT} {N : List Str} {x qual self par fld m : Str} {params : Arguments} {body : List Stmt} {scope : Scope} {C f cc cda : Addr} {file : Str} {fd : FuncData} {ar : Arg} {j k : Nat} {p0 p1 p2 p3 p4 p5 p6 p7 p8 p9 : Pos}
    (D : ErrD K x qual params body scope C f cc cda file fd) (T : ErrC K C) (hfld : PySem.W.findIn K (.ref C) fld = some none) (S : NScope N [self, par] ["__class__"] scope)
    (hbody : body = [.Expr (.Call (.Attribute (.Call (.Name "super" p0) [] [] p1) "__init__" p2) [.Constant (.str m) j p3] [] p4) p5, .Assign [.Attribute (.Name self p6) fld p7] (.Name par p8) p9])
    (hp : (params.posonlyargs ++ params.args).head? = some ar) (har : ar.arg = self) (hN0 : N[0]? = some self) (hN1 : N[1]? = some par)
    (hfile : ((P.main.file : Str) == file) = true) (hm : mg "super" = none) (htop : (P.main.scope.names.lookup ("super" : Str)).isSome = false) (hks : scope.names.lookup ("super" : Str) = some .globalImplicit)
    (hi : ∀ L, interactive (PySem.W.envX qual scope L f (.ref cda) [(("__class__" : Str), cc)]) = false)
    (hsw : ∀ L, swapsWith (.Call (.Attribute (.Call (.Name "super" p0) [] [] p1) "__init__" p2) [.Constant (.str m) j p3] [] p4) none p5.line (PySem.W.envX qual scope L f (.ref cda) [(("__class__" : Str), cc)]) = pure false)
    (hsw2 : ∀ L, swapsWith (.Name par p8) (some (.Attribute (.Name self p6) fld p7)) p9.line (PySem.W.envX qual scope L f (.ref cda) [(("__class__" : Str), cc)]) = pure false)
    (he : ∀ L, ∃ pl, eval (.Call (.Attribute (.Call (.Name "super" p0) [] [] p1) "__init__" p2) [.Constant (.str m) j p3] [] p4) (PySem.W.envX qual scope L f (.ref cda) [(("__class__" : Str), cc)]) = (do
      let ov ← attributeBase (.Call (.Name "super" p0) [] [] p1) "__init__" (PySem.W.envX qual scope L f (.ref cda) [(("__class__" : Str), cc)]) (eval (.Call (.Name "super" p0) [] [] p1) (PySem.W.envX qual scope L f (.ref cda) [(("__class__" : Str), cc)]))
      standAt p2.atName
      let (f2, first) ← holding [ov] (getMethod ov "__init__" pl)
      callWith p4 f2 first (backTo p4 (starEach [.Constant (.str m) j p3] (PySem.W.envX qual scope L f (.ref cda) [(("__class__" : Str), cc)]))) []))
    (d1 : (self == ("__debug__" : Str)) = false) (d2 : (self == ("__classdict__" : Str)) = false) (d3 : (par == ("__debug__" : Str)) = false) (d4 : (par == ("__classdict__" : Str)) = false) :
    FnOk P w K mg base CX (k + 1) f fd [self, par] (spErr C fld) := by
  have hself : scope.names.lookup self = some .local := S.par self (by simp)
  have hpar : scope.names.lookup par = some .local := S.par par (by simp)
  have hfr : scope.names.lookup ("__class__" : Str) = some .free := S.frk _ (by simp)
  refine ⟨fun vs H Q E ⟨a, u, e, _⟩ => by rw [e]; rfl, fun A outer s H args us vs Q E hr e0 hb r hsp => ?_⟩
  obtain ⟨a, u, rfl, ea, hq⟩ := hsp
  obtain ⟨oc, od, kV, doc, pm, an, ct, osl, rfl, lk⟩ := D.ex
  obtain ⟨cl, cld, csl, hcell⟩ := D.cell
  have KX : K.In s.heap := e0.mod.kin.keeps fun b o e => (e0.bs b o e).1
  have lim : s.heap.NoLimit := e0.mod.nolimit.keeps fun b o e => (e0.bs b o e).1
  refine codeAny_call_function hr.depth (KX _ _ lk) rfl S.co S.gen rfl (PySem.W.codeRec_of KX D.crec) (hb _ _ _ _ ?_)
  refine wpAny_newFunctionEnv S.nocell (fun ⟨n, _⟩ hy => S.par n (List.of_mem_zip hy).1) (fun h₁ hns hsb => ⟨lim.fresh _ hsb, ?_⟩) S.kind
  have kp : ∀ b o, s.heap.get? b = some o → h₁.get? b = some o := fun b o e => hsb.extBut b o (Nat.ne_of_lt (Heap.lt_size e)) (Heap.get?_push_of_some _ e)
  have CA : CellsAt [(("__class__" : Str), cc)] ["__class__"] [none] s.heap H := by
    have key : ∀ {y : Str} {c : Addr}, List.lookup y [(("__class__" : Str), cc)] = some c → y = "__class__" ∧ c = cc := fun {y c} e => by
      rw [List.lookup_cons] at e
      cases q : (y == ("__class__" : Str)) with
      | true => rw [q] at e; cases e; exact ⟨beq_iff_eq.mp q, rfl⟩
      | false => rw [q] at e; cases e
    refine ⟨rfl, fun y c e => ?_, fun y z c e1 e2 => by rw [(key e1).1, (key e2).1], fun i y e => ?_⟩
    · obtain ⟨rfl, rfl⟩ := key e
      exact ⟨(e0.bs _ _ (e0.mod.kin _ _ hcell)).2, _, _, KX _ _ hcell, rfl⟩
    · cases i with
      | zero =>
        cases e
        exact ⟨cc, rfl, fun v e => by cases e⟩
      | succ i => cases e
  let F : NF := ⟨x, qual, params, body, scope, [("__class__", cc)], cda⟩
  have I : Inv (ncx CX P w K mg base N F f A outer s H E) [] (startF N [.ref a, u] [none]) H { s with heap := h₁, toks := s.toks + ([self, par].zip us).length } := inv_startN (F := F) S hr.hd e0 rfl r CA hns kp
  show codeAny _ _ (.func body (envF F f s.heap.objs.size)) _ _
  refine PySem.ks_codeAny_funcAt ?_
  subst hbody
  obtain ⟨pl, he⟩ := he s.heap.objs.size
  refine PySem.ks_wpAt_execs_cons (err_super (X := ncx CX P w K mg base N F f A outer s H E) (F := F) D T rfl I ea hp (by rw [har]; exact hN0) rfl hfile hm htop hks hfr (by rw [har]; exact hself) (pl := pl) (fun s1 I1 => ?_) (hi _) (hsw _) he)
  refine wpAt_of_wpAny ?_
  have P1 : PSs (ncx CX P w K mg base N F f A outer s H E) [.Assign [.Attribute (.Name self p6) fld p7] (.Name par p8) p9] (tOst K fld (tVar 0) (tVar 1)) :=
    pss_one (ps_ost (pe_var hN0 (.inl hself) d1 d2) (pe_var hN1 (.inl hpar) d3 d4) (hsw2 _))
  have fin : ∀ {σ' : L2.St} {H' : Hp} {v : V} {u : Value} {s' : Shared}, Inv (ncx CX P w K mg base N F f A outer s H E) [] σ' H' s' → L2.RelV v u → Q v H' → CE outer P w H s Q u s' :=
    fun {σ' H' v u s'} J rv q => ⟨v, H', J.os, J.bare, J.base, J.hok, rv, q⟩
  refine wpAny_mono (P1.run [] s1 _ H { nx := fun _ H' => Q .non H', rt := Q } I1 ?_) (fun fl s' hs => ?_) fun e s' hs => hs
  · refine ⟨u, rfl, .ref a, rfl, a, C, rfl, T.T, hfld, .inl ⟨ea, fun dx h1 h2 => hq dx h1 h2⟩⟩
  · cases fl with
    | ret u =>
      obtain ⟨v, σ', H', J, rv, q⟩ := hs
      exact fin J rv q
    | next =>
      obtain ⟨σ', H', J, q⟩ := hs
      exact fin (v := V.non) (u := Value.none) J rfl q
    | brk =>
      obtain ⟨_, _, _, q⟩ := hs
      exact False.elim q
    | cont =>
      obtain ⟨_, _, _, q⟩ := hs
      exact False.elim q
end DL
namespace DL
open PySem L2 He
structure FnE (P : Program) (w : World) (K : PySem.W.Frag) (mg : Str → Option Value) (base : Heap) (k : Nat) (C fld : Str) : Prop where
  ex : ∃ f fd ps, FnOk P w K mg base (L2N.CX P w) k f fd ps (spErr (ga K C) fld) ∧ PySem.W.findIn K (.ref (ga K C)) "__init__" = some (some (.ref f)) ∧ PySem.W.typeIn K (.ref f) = some (.type "function") ∧ Binds K fd ps []
  T : OexC K (ga K C)
  g : mg C = some (.ref (ga K C))
def dRaise (C fld : Str) (te : DTE) : DTS := fun D0 τ M => te τ M (fun d M1 => D0.xc ⟨C, [(fld, d)]⟩ τ M1) (D0.ex τ)
section
variable {X : Cx} {W : WX} {e : Expr} {te : DTE} {pos pos' p : Pos} {C fld : Str} {k : Nat}
theorem ds_raise (F : FnE X.prog X.w X.K X.mg X.base k C fld) (G : Gd X W) (hr : Room (k + 1) X.A) (he : DE X W e te) (hg : Gl X C := by rfl) (hdb : (C == ("__debug__" : Str)) = false := by decide)
    (hst : starEach [e] X.env = (false, eval e X.env) :: starEach [] X.env := by rfl) (hpl : (backTo pos (starEach [] X.env)).any (·.1) = false := by rfl) : DS X W (.Raise (some (.Call (.Name C p) [e] [] pos)) none pos') (dRaise C fld te) := by
  obtain ⟨f, fd, ps, Fk, hi, ht, hb⟩ := F.ex
  refine PS.of (L2N.ps_raise G.calm G.tk (pmk_oexN (dvs := []) (ds := []) F.T hi ht Fk hr hb .nil (fun pins σ H s e s' I h => L2N.passAt takes_none5N σ pins H s e s' I h) hg F.g (da_cons he da_nil (hs := hst)) hdb hst hpl)) fun D1 σ H ⟨τ, M, D0, S, h⟩ => ?_
  refine S.sub (R1 := RA X.K) (t := daCons te daNil) (G := fun ds M1 => match ds with
    | [d] => D0.xc ⟨C, [(fld, d)]⟩ τ M1
    | _ => False) h fun ds M1 vs H1 h1 r1 S1 s1 => ?_
  match ds, h1 with
  | [d], h1 =>
    obtain ⟨v, us, rfl, rv, rn⟩ := r1.uncons
    cases rn.unnil
    refine ⟨(by show (1 : Nat) ≤ 1000; decide), fun a ha => ⟨a, v, rfl, upd_same, fun dx hdx hne => ⟨rfl, dx, [(fld, v)], upd_same, by rw [upd_ne hne, upd_same], by rw [upd_ne hne] at hdx; exact hdx, ?_⟩⟩⟩
    have hdx1 : H1 dx = none := by rw [upd_ne hne] at hdx; exact hdx
    have e1 : upd (L2.del (upd (upd (upd H1 a (exo a (ga X.K C) none)) dx (exd dx [(fld, v)])) a (exo a (ga X.K C) (some dx))) a) dx (.xd [(fld, v)]) = upd H1 dx (.xd [(fld, v)]) := by
      funext b
      by_cases hb : b = dx
      · rw [hb, upd_same, upd_same]
      · rw [upd_ne hb, upd_ne hb]
        by_cases hba : b = a
        · rw [hba, L2.del_same, ha]
        · rw [L2.del_ne hba, upd_ne hba, upd_ne hb, upd_ne hba]
    rw [e1]
    have st : Stp M1 H1 M1 (upd H1 dx (.xd [(fld, v)])) := Stp.new hdx1
    exact S1.xc ⟨C, [(fld, d)]⟩ τ M1 _ _ σ _ h1 ⟨rfl, _, upd_same, S1.co.free hdx1, rfl, .cons (rv.stp st) .nil⟩ (S1.rs.stp st) (S1.co.new hdx1) st
def isE (C T : Str) : Bool := decide (T = C) || decide (T = "LentError")
structure ErrT (K : PySem.W.Frag) (Es Ts : List Str) : Prop where
  exm : ∀ C ∈ Es, PySem.W.exmOne K (.ref (ga K C)) (.ref (ga K "LentError")) = some true
  kit : ∀ C ∈ Es, ∀ T ∈ Ts, PySem.W.kitOne K (.ref (ga K C)) (.ref (ga K T)) = some (isE C T)
  kitV : ∀ C ∈ Es, PySem.W.kitOne K (.ref (ga K C)) (.type "ValueError") = some true
  cls : ∀ C ∈ Es, (PySem.W.clsIn K (ga K C)).isSome = true
  xf : ∀ C ∈ Es, XfC K (ga K C)
  cl : ∀ C ∈ Es, PySem.W.findIn K (.ref (ga K C)) "__class__" = some (some (.builtin "object.__class__"))
  top : ∀ C ∈ Es, PySem.W.mroIn K (ga K C) (.type "object") = some true
  sp : PySem.W.specialIn K (.builtin "object.__class__") "__get__" = some (some (.builtin "getset_descriptor.__get__"))
  tk : PySem.W.takesIn K (.builtin "object.__class__") = some true
def errTB (Es Ts : List Str) (K : PySem.W.Frag) : Bool :=
  Es.all (fun C => decide (PySem.W.exmOne K (.ref (ga K C)) (.ref (ga K "LentError")) = some true) && (Ts.all (fun T => decide (PySem.W.kitOne K (.ref (ga K C)) (.ref (ga K T)) = some (isE C T))) &&
    (decide (PySem.W.kitOne K (.ref (ga K C)) (.type "ValueError") = some true) && ((PySem.W.clsIn K (ga K C)).isSome && (xfB K (ga K C) && (He.eqO (PySem.W.findIn K (.ref (ga K C)) "__class__") (some (some (.builtin "object.__class__"))) &&
    decide (PySem.W.mroIn K (ga K C) (.type "object") = some true))))))) &&
  (decide (PySem.W.specialIn K (.builtin "object.__class__") "__get__" = some (some (.builtin "getset_descriptor.__get__"))) && decide (PySem.W.takesIn K (.builtin "object.__class__") = some true))
theorem errTB_ok {Es Ts : List Str} {K : PySem.W.Frag} (h : errTB Es Ts K = true) : ErrT K Es Ts := by
  obtain ⟨h1, h2⟩ := ba h
  obtain ⟨h3, h4⟩ := ba h2
  have hC := List.all_eq_true.mp h1
  refine ⟨fun C m => ?_, fun C m => ?_, fun C m => ?_, fun C m => ?_, fun C m => ?_, fun C m => ?_, fun C m => ?_, of_decide_eq_true h3, of_decide_eq_true h4⟩
  all_goals
    obtain ⟨a1, b1⟩ := ba (hC C m)
    obtain ⟨a2, b2⟩ := ba b1
    obtain ⟨a3, b3⟩ := ba b2
    obtain ⟨a4, b4⟩ := ba b3
    obtain ⟨a5, b5⟩ := ba b4
    obtain ⟨a6, a7⟩ := ba b5
  · exact of_decide_eq_true a1
  · exact fun T mT => of_decide_eq_true (List.all_eq_true.mp a2 T mT)
  · exact of_decide_eq_true a3
  · exact a4
  · exact xfB_ok a5
  · exact He.eqO_ok a6
  · exact of_decide_eq_true a7
def isED (C : Str) : D → Bool
  | .cl T => isE C T
  | .ty _ => true
  | _ => false
def okED (Ts : List Str) : D → Bool
  | .cl T => decide (T ∈ Ts)
  | .ty n => decide (n = "ValueError")
  | _ => false
def gIsE (a dd : Addr) (C : Str) (Ts : List Str) : DCb := fun xs M Q => match xs with
  | [.exc a' dd' C' _ _, z] => a' = a ∧ dd' = dd ∧ C' = C ∧ (match z with
    | .tup cs => cs.all (okED Ts) = true ∧ Q (.bl (cs.any (isED C))) M
    | z => okED Ts z = true ∧ Q (.bl (isED C z)) M)
  | _ => False
def rIsEx (K : PySem.W.Frag) (a dd D : Addr) : List V → Hp → VK → Prop := fun xs H Q => ∃ gs, H dd = some (.xd gs) ∧
  ((∃ (tp : Addr) (cs : List V) (us : List Value) (b : Bool), xs = [.ref a, .ref tp] ∧ (H tp = some (.tup cs) ∨ WrT K tp cs) ∧ Paired ClsV cs us ∧ PySem.W.kitAny K (.ref D) us = some b ∧ Q (.bl b) H) ∨
   ∃ (c : V) (u : Value) (b : Bool), xs = [.ref a, c] ∧ ClsV c u ∧ PySem.W.kitOne K (.ref D) u = some b ∧ Q (.bl b) H)
theorem call_isEx {X : Cx} {a dd : Addr} {C : Str} {oe : Obj} {pn : List (Addr × Obj)} {Es Ts : List Str} (T : ErrT X.K Es Ts) (hC : C ∈ Es) (hz : L2.Zc (.ref (ga X.K C)) (some dd) oe) (hf : ∃ vs, oe.data = .fields vs) :
    CallR (X.suite a ((a, oe) :: pn)) (.builtin "isinstance") (rIsEx X.K a dd (ga X.K C)) := by
  intro pins s σ H xs us Q I r h
  obtain ⟨gs, hdd, h⟩ := h
  obtain ⟨hget, _⟩ := I.pin (a, oe) (List.mem_append.mpr (.inl List.mem_cons_self))
  obtain ⟨vs, hv⟩ := hf
  have hx : ObjOk X.prog X.w H s.heap dd (.xd gs) := I.hok dd _ hdd
  obtain ⟨mA, hns, _⟩ := hx
  obtain ⟨od, ho, _⟩ := lookIn_ns hns
  have J : PySem.W.InstAt s.heap a oe (ga X.K C) (some od) := ⟨hget, hz.1, by unfold PySem.W.notCls; rw [hv] <;> rfl, by rw [hz.2]; exact ho⟩
  have Z := PySem.W.kitx_exc (K := X.K) (x := a) (C := ga X.K C) (ox := oe) (od := some od) (T.cls C hC) (T.xf C hC).ga (T.xf C hC).gg (T.xf C hC).exC (T.cl C hC) T.sp T.tk (T.top C hC)
  rcases h with ⟨tp, cs, ws, b, rfl, ht, hp, hk, q⟩ | ⟨c, u, b, rfl, hp, hk, q⟩
  · obtain ⟨u1, u2, rfl, r1, r2⟩ := vals2 r
    cases (show u1 = Value.ref a from r1)
    cases (show u2 = Value.ref tp from r2)
    rcases ht with ht | ⟨o, its, n, lk, h2, h3, _, rv⟩
    rotate_left
    · have e3 := ClsV.all hp rv
      subst e3
      obtain ⟨oc, odd, dt, sl⟩ := o
      simp only at h2 h3
      subst h2 h3
      exact PySem.W.kia_tup Z I.kIn J (by simpa using I.kIn _ _ lk) hk (fun z => nomatch z) fun tk => ⟨.bl b, H, I.kept (t' := tk) fun _ _ z => z, rfl, q⟩
    obtain ⟨_, its, rv, o, h1, h2, n, h3⟩ := (show ObjOk X.prog X.w H s.heap tp (.tup cs) from I.hok tp _ ht)
    have e3 := ClsV.all hp rv
    subst e3
    obtain ⟨oc, odd, dt, sl⟩ := o
    simp only at h2 h3
    subst h2 h3
    exact PySem.W.kia_tup Z I.kIn J h1 hk (fun z => nomatch z) fun tk => ⟨.bl b, H, I.kept (t' := tk) fun _ _ z => z, rfl, q⟩
  · obtain ⟨u1, u2, rfl, r1, r2⟩ := vals2 r
    cases (show u1 = Value.ref a from r1)
    have e2 := hp.eq r2
    subst e2
    exact PySem.W.kia_one Z I.kIn J hk (fun z => nomatch z) fun tk => ⟨.bl b, H, I.kept (t' := tk) fun _ _ z => z, rfl, q⟩
theorem rep_tupW {K : PySem.W.Frag} {M : Mu} {H : Hp} {ds : List D} {v : V} (r : Rep K M H (.tup ds) v) : ∃ a vs, v = .ref a ∧ ((H a = some (.tup vs) ∧ M a = none) ∨ WrN K a vs) ∧ Reps K M H ds vs := r
theorem cls_reps {K : PySem.W.Frag} {M : Mu} {H : Hp} {Ts : List Str} {C : Str} {Es : List Str} (T : ErrT K Es Ts) (hC : C ∈ Es) : ∀ {cs : List D} {vs : List V}, cs.all (okED Ts) = true → Reps K M H cs vs →
    ∃ us, Paired ClsV vs us ∧ PySem.W.kitAny K (.ref (ga K C)) us = some (cs.any (isED C))
  | [], _, _, r => by cases r.unnil; exact ⟨[], .nil, rfl⟩
  | c :: cs, _, h, r => by
    obtain ⟨v, vs, rfl, r1, r2⟩ := r.uncons
    obtain ⟨h1, h2⟩ := ba (show (okED Ts c && cs.all (okED Ts)) = true from h)
    obtain ⟨us, p, k⟩ := cls_reps T hC h2 r2
    cases c with
    | cl T' =>
      cases r1
      refine ⟨.ref (ga K T') :: us, .cons (.own _) p, ?_⟩
      unfold PySem.W.kitAny
      rw [T.kit C hC T' (of_decide_eq_true h1)]
      show _ = some (isE C T' || cs.any (isED C))
      cases isE C T' with
      | true => rfl
      | false => exact k
    | ty n =>
      cases r1
      have e : n = "ValueError" := of_decide_eq_true h1
      subst e
      refine ⟨.type "ValueError" :: us, .cons (.ty _) p, ?_⟩
      unfold PySem.W.kitAny
      rw [T.kitV C hC]
      rfl
    | _ => cases h1
theorem cb_isE {K : PySem.W.Frag} {a dd : Addr} {C : Str} {Es Ts : List Str} (T : ErrT K Es Ts) (hC : C ∈ Es) : CbD K (gIsE a dd C Ts) (rIsEx K a dd (ga K C)) := fun M H xs vs Q0 Q c r h q => by
  match xs, h with
  | [.exc a' dd' C' ns es, z], h =>
    obtain ⟨e1, e2, e3, h⟩ := h
    subst e1 e2 e3
    obtain ⟨v, us, rfl, r1, r2⟩ := r.uncons
    obtain ⟨u, us, rfl, r3, r4⟩ := r2.uncons
    cases r4.unnil
    obtain ⟨rfl, gs, g1, g2, g3, g4⟩ := (show v = .ref a' ∧ _ from r1)
    refine ⟨gs, g1, ?_⟩
    cases z with
    | tup cs =>
      obtain ⟨tp, ws, rfl, ht, rw⟩ := rep_tupW r3
      obtain ⟨us, p, k⟩ := cls_reps T hC h.1 rw
      exact .inl ⟨tp, ws, us, _, rfl, ht.elim (fun z => .inl z.1) (fun z => .inr z.1), p, k, q _ M _ H h.2 rfl c (Stp.refl M H)⟩
    | cl T' =>
      cases r3
      exact .inr ⟨_, _, _, rfl, .own _, T.kit C' hC T' (of_decide_eq_true h.1), q _ M _ H h.2 rfl c (Stp.refl M H)⟩
    | ty n =>
      cases r3
      have e : n = "ValueError" := of_decide_eq_true h.1
      subst e
      exact .inr ⟨_, _, _, rfl, .ty _, T.kitV C' hC, q _ M _ H h.2 rfl c (Stp.refl M H)⟩
    | _ => exact absurd h.1 Bool.false_ne_true
def dXF (a dd : Addr) (C f : Str) (te : DTE) : DTE := fun τ M Q E => te τ M (fun z M1 => match z with
  | .exc a' dd' C' ns ds => a' = a ∧ dd' = dd ∧ C' = C ∧ (match (ns.zip ds).lookup f with
    | some y => Q y M1
    | none => False)
  | _ => False) E
theorem zip_fld {K : PySem.W.Frag} {M : Mu} {H : Hp} {f : Str} {y : D} : ∀ {ns : List Str} {ds : List D} {gs : List (Str × V)}, gs.map (·.1) = ns → Reps K M H ds (gs.map (·.2)) → (ns.zip ds).lookup f = some y → ∃ v, gs.lookup f = some v ∧ Rep K M H y v
  | [], ds, gs, _, _, e => by cases e
  | n :: ns, [], gs, _, _, e => by cases e
  | n :: ns, d :: ds, [], h, _, _ => by cases h
  | n :: ns, d :: ds, (g, v) :: gs, h, r, e => by
    obtain ⟨h1, h2⟩ := List.cons.inj h
    have h1 : g = n := h1
    subst h1
    obtain ⟨v', us, e1, r1, r2⟩ := r.uncons
    obtain ⟨e2, e3⟩ := List.cons.inj e1
    subst e2 e3
    rw [List.zip_cons_cons, List.lookup_cons] at e
    rw [List.lookup_cons]
    cases q : (f == g) with
    | true =>
      rw [q] at e
      cases e
      exact ⟨_, rfl, r1⟩
    | false =>
      rw [q] at e
      exact zip_fld h2 r2 e
theorem de_xf {X : Cx} {W : WX} {a dd : Addr} {C f : Str} {oe : Obj} {pn : List (Addr × Obj)} {Es Ts : List Str} {e : Expr} {te : DTE} {pos : Pos} (T : ErrT X.K Es Ts) (hC : C ∈ Es) (hno : PySem.W.findIn X.K (.ref (ga X.K C)) f = some none)
    (hz : L2.Zc (.ref (ga X.K C)) (some dd) oe) (hf : ∃ vs, oe.data = .fields vs) (he : DE (X.suite a ((a, oe) :: pn)) W e te) (hb : attributeBase e f X.env (eval e X.env) = eval e X.env := by rfl) :
    DE (X.suite a ((a, oe) :: pn)) W (.Attribute e f pos) (dXF a dd C f te) :=
  PE.of (pe_xf (T.xf C hC) hno hz hf he hb) fun σ H Q ⟨τ, M, Q0, E0, S, h⟩ => S.sub h fun z M1 v H1 h1 r1 S1 s1 => by
    cases z with
    | exc a' dd' C' ns ds =>
      obtain ⟨e1, e2, e3, hh⟩ := h1
      subst e1 e2 e3
      obtain ⟨rfl, gs, g1, g2, g3, g4⟩ := (show v = .ref a' ∧ _ from r1)
      cases q : (ns.zip ds).lookup f with
      | none => rw [q] at hh; exact hh.elim
      | some y =>
        rw [q] at hh
        obtain ⟨u, h1, h2⟩ := zip_fld g3 g4 q
        exact ⟨rfl, rfl, dd', gs, u, rfl, g1, h1, S1.end_ hh h2⟩
    | _ => exact h1.elim
def suE (D0 : DEnds) (i : Nat) : DEnds := ⟨fun τ2 M2 => D0.nx (τ2.set i none) M2, D0.rt, fun τ2 M2 => D0.bk (τ2.set i none) M2, fun τ2 M2 => D0.ct (τ2.set i none) M2, fun _ _ _ => False⟩
def caE (Es : List Str) (i : Nat) (ts : Addr → Addr → Str → DTS) (D0 : DEnds) (x : XD) (τ : DSt) (M : Mu) : Prop :=
  x.cls ∈ Es ∧ x.fs ≠ [] ∧ ∀ a dd, M a = none → ts a dd x.cls (suE D0 i) (τ.set i (some (.exc a dd x.cls (x.fs.map (·.1)) (x.fs.map (·.2))))) M
def dTryAs (Es : List Str) (i : Nat) (tb : DTS) (ts : Addr → Addr → Str → DTS) : DTS := fun D0 τ M => tb ⟨D0.nx, D0.rt, D0.bk, D0.ct, caE Es i ts D0⟩ τ M
end
end DL
namespace DL
open PySem L2 He
def onExc {K : List Str → List D → Prop} (a dd : Addr) (C : Str) (_ : Lk K) (z : D) : Prop := match z with
  | .exc a' dd' C' ns ds => a' = a ∧ dd' = dd ∧ C' = C ∧ K ns ds
  | _ => False
theorem onExc_e {K : List Str → List D → Prop} {a dd : Addr} {C : Str} {ns : List Str} {ds : List D} : onExc (K := K) a dd C ⟨⟩ (.exc a dd C ns ds) = K ns ds := by show (a = a ∧ dd = dd ∧ C = C ∧ K ns ds) = K ns ds; simp
section
variable {C f fld : Str} {te : DTE} {tb : DTS} {ts : Addr → Addr → Str → DTS} {τ : DSt} {M : Mu} {Q : DK} {E : DX} {D0 : DEnds} {i : Nat} {a dd : Addr} {Es Ts : List Str} {ns : List Str} {ds cs : List D} {d y : D}
theorem u_raise : dRaise C fld te D0 τ M = te τ M (fun d M1 => D0.xc ⟨C, [(fld, d)]⟩ τ M1) (D0.ex τ) := pq Iff.rfl
theorem u_tryas : dTryAs Es i tb ts D0 τ M = tb ⟨D0.nx, D0.rt, D0.bk, D0.ct, caE Es i ts D0⟩ τ M := pq Iff.rfl
theorem u_ca : caE Es i ts D0 ⟨C, [(fld, d)]⟩ τ M = (C ∈ Es ∧ ∀ a dd, M a = none → ts a dd C (suE D0 i) (τ.set i (some (.exc a dd C [fld] [d]))) M) := by
  show (C ∈ Es ∧ [(fld, d)] ≠ [] ∧ _) = _
  simp only [ne_eq, reduceCtorEq, not_false_eq_true, true_and]
  rfl
theorem su_mk {nx : DSt → Mu → Prop} {rt : DK} {bk ct : DSt → Mu → Prop} {xc : XD → DSt → Mu → Prop} : suE ⟨nx, rt, bk, ct, xc⟩ i = ⟨fun τ2 M2 => nx (τ2.set i none) M2, rt, fun τ2 M2 => bk (τ2.set i none) M2, fun τ2 M2 => ct (τ2.set i none) M2, fun _ _ _ => False⟩ := rfl
theorem isE_t : cbK (K := Q) ⟨⟩ (gIsE a dd C Ts) [.exc a dd C ns ds, .tup cs] M = (cs.all (okED Ts) = true ∧ Q (.bl (cs.any (isED C))) M) := by
  show (a = a ∧ dd = dd ∧ C = C ∧ _) = _
  simp
theorem isE_c {T' : Str} : cbK (K := Q) ⟨⟩ (gIsE a dd C Ts) [.exc a dd C ns ds, .cl T'] M = (T' ∈ Ts ∧ Q (.bl (isE C T')) M) := by
  show (a = a ∧ dd = dd ∧ C = C ∧ okED Ts (.cl T') = true ∧ Q (.bl (isED C (.cl T'))) M) = _
  show (a = a ∧ dd = dd ∧ C = C ∧ decide (T' ∈ Ts) = true ∧ Q (.bl (isE C T')) M) = _
  simp
theorem isE_v : cbK (K := Q) ⟨⟩ (gIsE a dd C Ts) [.exc a dd C ns ds, .ty "ValueError"] M = Q (.bl true) M := by
  show (a = a ∧ dd = dd ∧ C = C ∧ okED Ts (.ty "ValueError") = true ∧ Q (.bl true) M) = _
  have e : okED Ts (.ty "ValueError") = true := rfl
  simp [e]
theorem u_xf : dXF a dd C f te τ M Q E = te τ M (fun z M1 => onExc (K := fun ns ds => onSome (K := fun y => Q y M1) ⟨⟩ ((ns.zip ds).lookup f)) a dd C ⟨⟩ z) E := by
  unfold dXF
  congr 1
  funext z M1
  cases z with
  | exc a' dd' C' ns ds =>
    show (a' = a ∧ dd' = dd ∧ C' = C ∧ (match (ns.zip ds).lookup f with
      | some y => Q y M1
      | none => False)) = (a' = a ∧ dd' = dd ∧ C' = C ∧ onSome (K := fun y => Q y M1) ⟨⟩ ((ns.zip ds).lookup f))
    cases (ns.zip ds).lookup f <;> rfl
  | _ => rfl
theorem zip_1 : (([f] : List Str).zip [y]).lookup f = some y := by rw [List.zip_cons_cons, List.lookup_cons, beq_self_eq_true]
end
def exCB (C : Str) (K : PySem.W.Frag) : Bool := match K.lookup (ga K C) with
  | some ⟨.type "type", _, .cls cd, sl⟩ => (match cd.mro, sl.toList with
    | .ref C' :: bm, [_, _, _, _, some (.builtin n), _] => decide (C' = ga K C) && (decide (n = "ValueError.__new__") && (!cd.hasDel && (cd.hasDict && PySem.HandSPX.refsVE bm)))
    | _, _ => false)
  | _ => false
theorem exCB_ok {C : Str} {K : PySem.W.Frag} (h : exCB C K = true) : ∃ nm q N bs bm sn sub ab col dd k0 k1 k2 k3 k5, K.lookup (ga K C) = some (excClassObj nm q (ga K C) N bs bm true sn sub ab col dd k0 k1 k2 k3 k5 "ValueError.__new__") ∧ PySem.HandSPX.refsVE bm = true := by
  unfold exCB at h
  split at h
  · rename_i dd cd sl ho
    split at h
    · rename_i C' bm k0 k1 k2 k3 n k5 hm hs
      obtain ⟨e1, h⟩ := ba h
      obtain ⟨e2, h⟩ := ba h
      obtain ⟨e3, h⟩ := ba h
      obtain ⟨e4, e5⟩ := ba h
      have e1 := of_decide_eq_true e1
      have e2 := of_decide_eq_true e2
      obtain ⟨nm, bs, mro, ns, qn, hd, sn, sub, ab, col, del⟩ := cd
      dsimp only at hm e3 e4
      have e3 : del = false := by simpa using e3
      subst hm e1 e2 e3 e4
      have hsl : sl = #[k0, k1, k2, k3, some (.builtin "ValueError.__new__"), k5] := by
        obtain ⟨l⟩ := sl
        simp only at hs
        rw [hs]
      subst hsl
      exact ⟨nm, qn, ns, bs, bm, sn, sub, ab, col, dd, k0, k1, k2, k3, k5, ho, e5⟩
    · cases h
  · cases h
def errCB (C fld : Str) (K : PySem.W.Frag) : Bool :=
  exCB C K && (eqO (PySem.W.findIn K (.ref (ga K C)) "__setattr__") (some (some (.builtin "object.__setattr__"))) && (decide (PySem.W.subIn K (.ref (ga K C)) (.type "BaseException") = some true) && (decide (PySem.W.typeIn K (.ref (ga K C)) = some (.type "type")) &&
  (PySem.W.keepIn K (.ref (ga K C)) && (eqO (PySem.W.ks_superIn K (ga K C) (ga K C) "__init__") (some (some (.builtin "ValueError.__init__"))) && (decide (PySem.W.subIn K (.ref (ga K C)) (.type "ValueError") = some true) &&
  (decide (PySem.W.mroIn K (ga K C) (.ref (ga K C)) = some true) && (eqO (PySem.W.nsIn K cStatics "thirdparty.any") (some none) && (eqO (PySem.W.findIn K (.ref (ga K C)) fld) (some none) &&
  (eqO (PySem.W.findIn K (.ref (ga K C)) "__init__") (some (some (.ref (ma K (ga K C) "__init__")))) && decide (PySem.W.typeIn K (.ref (ma K (ga K C) "__init__")) = some (.type "function"))))))))))))
theorem errCB_ok {C fld : Str} {K : PySem.W.Frag} (h : errCB C fld K = true) : ErrC K (ga K C) ∧ PySem.W.findIn K (.ref (ga K C)) fld = some none ∧ PySem.W.findIn K (.ref (ga K C)) "__init__" = some (some (.ref (ma K (ga K C) "__init__"))) ∧ PySem.W.typeIn K (.ref (ma K (ga K C) "__init__")) = some (.type "function") := by
  obtain ⟨h1, h⟩ := ba h
  obtain ⟨h2, h⟩ := ba h
  obtain ⟨h3, h⟩ := ba h
  obtain ⟨h4, h⟩ := ba h
  obtain ⟨h5, h⟩ := ba h
  obtain ⟨h6, h⟩ := ba h
  obtain ⟨h7, h⟩ := ba h
  obtain ⟨h8, h⟩ := ba h
  obtain ⟨h9, h⟩ := ba h
  obtain ⟨h10, h⟩ := ba h
  obtain ⟨h11, h12⟩ := ba h
  exact ⟨⟨⟨exCB_ok h1, eqO_ok h2, of_decide_eq_true h3, of_decide_eq_true h4, h5⟩, eqO_ok h6, of_decide_eq_true h7, of_decide_eq_true h8, eqO_ok h9⟩, eqO_ok h10, eqO_ok h11, of_decide_eq_true h12⟩
structure DefE where
  C : Str
  qual : Str
  params : Arguments
  body : List Stmt
  scope : Scope
  file : Str
def fnE (K : PySem.W.Frag) (a : Addr) : He5.FnW := match K.lookup a with
  | some ⟨_, _, .func fd, _⟩ => some (fd.name, fd.qualname, fd.params, fd.body, fd.scope, fd.globals, fd.closure.map fun q => (q.1, 0), fd.builtins)
  | _ => none
def DefE.val (d : DefE) : He5.FnW := some ("__init__", d.qual, d.params, .stmts d.body, d.scope, mainGlobals, [("__class__", 0)], builtinsNs)
def DefE.ok (K : PySem.W.Frag) (d : DefE) : Bool := match K.lookup (ma K (ga K d.C) "__init__") with
  | some ⟨_, _, .func fd, _⟩ => (match fd.closure, fd.code, fd.defaults with
    | [(_, cc)], .ref cda, .none => PySem.W.codeIn K (.ref cda) d.qual && ((match K.lookup cc with
      | some ⟨_, _, .cell (some (.ref D)), _⟩ => decide (D = ga K d.C)
      | _ => false) && (match K.lookup cda with
      | some ⟨_, _, .fields vs, _⟩ => (match (vs[2]? : Option Value) with
        | some (.str f _) => decide (f = d.file)
        | _ => false)
      | _ => false))
    | _, _, _ => false)
  | _ => false
theorem DefE.errD {K : PySem.W.Frag} {d : DefE} (e : fnE K (ma K (ga K d.C) "__init__") = d.val) (c : d.ok K = true) : ∃ cc cda fd, ErrD K "__init__" d.qual d.params d.body d.scope (ga K d.C) (ma K (ga K d.C) "__init__") cc cda d.file fd := by
  unfold fnE at e
  unfold DefE.ok at c
  cases q : K.lookup (ma K (ga K d.C) "__init__") with
  | none =>
    rw [q] at c
    cases c
  | some o =>
    obtain ⟨oc, od, dt, osl⟩ := o
    rw [q] at c e
    cases dt with
    | func fd =>
      obtain ⟨n1, n2, n3, n4, n5, n6, n7, n8, n9, n10, n11, n12, n13, n14, n15⟩ := fd
      have e2 : (some (n1, n2, n3, n4, n5, n6, n7.map fun q => (q.1, 0), n15) : He5.FnW) = some (("__init__" : Str), d.qual, d.params, FuncBody.stmts d.body, d.scope, mainGlobals, [(("__class__" : Str), 0)], builtinsNs) := e
      simp only [Option.some.injEq, Prod.mk.injEq] at e2
      obtain ⟨h1, h2, h3, h4, h5, h6, h7, h8⟩ := e2
      dsimp only at c
      split at c
      · rename_i nm cc cda
        obtain ⟨c1, c⟩ := ba c
        obtain ⟨c2, c3⟩ := ba c
        subst h1 h2 h3 h4 h5 h6 h8
        have h9 : nm = "__class__" := by
          have := List.cons.inj h7
          exact congrArg Prod.fst this.1
        subst h9
        refine ⟨cc, cda, _, ⟨oc, od, n9, n10, n11, n12, n14, osl, rfl, q⟩, c1, ?_, ?_⟩
        · split at c2
          · rename_i cl cld D csl ho
            have e := of_decide_eq_true c2
            subst e
            exact ⟨cl, cld, csl, ho⟩
          · cases c2
        · split at c3
          · rename_i ccl cdd vs ccs ho
            split at c3
            · rename_i f tf hv
              have e := of_decide_eq_true c3
              subst e
              exact ⟨ccl, cdd, vs, ccs, tf, ho, hv⟩
            · cases c3
          · cases c3
      · cases c
    | _ => cases c
abbrev AlE : Type := AlZ × (Bool × List He5.FnW)
def obsE (fa : List Fa) (fn : List DefD) (gb : List (PySem.W.Frag → Bool)) (ts : List Tab) (fx : List He5.DefA) (fe : List DefE) (K : PySem.W.Frag) : AlE := (obsZ fa fn gb ts fx K, fe.all fun d => d.ok K, fe.map fun d => fnE K (ma K (ga K d.C) "__init__"))
def valE (fn : List DefD) (ts : List Tab) (fx : List He5.DefA) (fe : List DefE) (w : World) : AlE := (valZ fn ts fx w, true, fe.map DefE.val)
def SaysE (fa : List Fa) (fn : List DefD) (gb : List (PySem.W.Frag → Bool)) (ts : List Tab) (fx : List He5.DefA) (fe : List DefE) (w : World) (K : PySem.W.Frag) : Prop := obsE fa fn gb ts fx fe K = valE fn ts fx fe w
section
variable {fa : List Fa} {fn : List DefD} {gb : List (PySem.W.Frag → Bool)} {ts : List Tab} {fx : List He5.DefA} {fe : List DefE} {w : World} {K : PySem.W.Frag}
theorem SaysE.z (c : SaysE fa fn gb ts fx fe w K) : SaysZ fa fn gb ts fx w K := congrArg (fun z : AlE => z.1) c
theorem SaysE.err_ (c : SaysE fa fn gb ts fx fe w K) (i : Nat) {d : DefE} (h : fe[i]? = some d := by rfl) : ∃ cc cda fd, ErrD K "__init__" d.qual d.params d.body d.scope (ga K d.C) (ma K (ga K d.C) "__init__") cc cda d.file fd := by
  have c2 : (fe.all fun d => d.ok K) = true := congrArg (fun z : AlE => z.2.1) c
  have e : fe.map (fun d => fnE K (ma K (ga K d.C) "__init__")) = fe.map DefE.val := congrArg (fun z : AlE => z.2.2) c
  have e2 : (fe.map fun d => fnE K (ma K (ga K d.C) "__init__"))[i]? = (fe.map DefE.val)[i]? := by rw [e]
  rw [List.getElem?_map, List.getElem?_map, h] at e2
  exact DefE.errD (Option.some.inj e2) (List.all_eq_true.mp c2 d (List.mem_of_getElem? h))
end
theorem fnE_of {P : Program} {w : World} {K : PySem.W.Frag} {mg : Str → Option Value} {base : Heap} {k : Nat} {x qual : Str} {params : Arguments} {body : List Stmt} {scope : Scope} {C fld : Str} {cc cda : Addr} {file : Str} {fd : FuncData} {ps : List Str}
    (D : ErrD K x qual params body scope (ga K C) (ma K (ga K C) "__init__") cc cda file fd) (F : FnOk P w K mg base (L2N.CX P w) k (ma K (ga K C) "__init__") fd ps (spErr (ga K C) fld)) (c : errCB C fld K = true) (g : mg C = some (.ref (ga K C)))
    (hb : ∀ (kV doc pm : Value) (an : Option Addr) (ct : Value) (us : List Value), us.length = ps.length → bindArgs (PySem.W.fnX x qual params body scope [("__class__", cc)] .none kV doc pm an (.ref cda) ct) ⟨us, []⟩ = pure (ps.zip us)) : FnE P w K mg base k C fld := by
  obtain ⟨c1, c2, c3, c4⟩ := errCB_ok c
  obtain ⟨oc, od, kV, doc, pm, an, ct, osl, rfl, lk⟩ := D.ex
  exact ⟨⟨_, _, ps, F, c3, c4, Binds.all (hb kV doc pm an ct)⟩, c1.T, g⟩
end DL
namespace DL
open PySem L2 He
def gTuple : DCb := fun xs M Q => match xs with
  | [.lst ds] => Q (.tup ds) M
  | [.tup ds] => Q (.tup ds) M
  | [.ref a] => (match M a with
    | some (.lst ds) => Q (.tup ds) M
    | _ => False)
  | _ => False
def gDivmod : DCb := fun xs M Q => match xs with
  | [.int i, .int j] => CDiv i j ∧ Q (.tup [.int (i / j), .int (i % j)]) M
  | _ => False
def gUpper : DMt := fun x xs M Q => match x, xs with
  | .str t, [] => t.length ≤ 5592405 ∧ Q (.str (T (PySem.Txt.upper (sx t)))) M
  | _, _ => False
def gIndexT : DMt := fun x xs M Q => match x, xs with
  | .tup ds, [.str y] => ∃ (ts : List Tx) (j : Nat), ds = ts.map D.str ∧ ts[j]? = some y ∧ (∀ m, m < j → ts[m]? ≠ some y) ∧ Q (.int (j : Nat)) M
  | _, _ => False
section
variable {K : PySem.W.Frag}
theorem md_upper : MtD K gUpper (fun x xs H Q => ∃ a, x = .str a ∧ xs = [] ∧ a.length ≤ 5592405 ∧ Q (.str (PySem.Txt.upper a)) H) := fun M H x v xs vs Q0 Q c rx r h q => by
  match x, xs, h with
  | .str t, [], h =>
    cases rx
    cases r.unnil
    refine ⟨sx t, rfl, rfl, by rw [sx_len]; exact h.1, ?_⟩
    exact q _ M _ H h.2 (show V.str _ = V.str (sx (T _)) by rw [sx_T]) c (Stp.refl M H)
end
theorem upper_len (t : Tx) : (T (PySem.Txt.upper (sx t))).length ≤ 3 * t.length := by
  have := PyProof.Rows.len_upper (sx t)
  rw [sx_len] at this
  have e : (T (PySem.Txt.upper (sx t))).length = (PySem.Txt.upper (sx t)).length := by rw [← sx_len, sx_T]
  rw [e]
  exact this
def dIdxC (ts : List Tx) (te : DTE) : DTE := fun τ M Q E => te τ M (fun y M1 => match y with
  | .str x => ∃ j : Nat, ts[j]? = some x ∧ (∀ m, m < j → ts[m]? ≠ some x) ∧ Q (.int (j : Nat)) M1
  | _ => False) E
section
variable {M : Mu} {Q : DK} {ds : List D}
theorem u_idxC {ts : List Tx} {te : DTE} {τ : DSt} {E : DX} : dIdxC ts te τ M Q E = te τ M (fun y M1 => onStr (K := fun x => ∃ j : Nat, ts[j]? = some x ∧ (∀ m, m < j → ts[m]? ≠ some x) ∧ Q (.int (j : Nat)) M1) ⟨⟩ y) E := by
  unfold dIdxC
  congr 1
theorem tuple_l : cbK (K := Q) ⟨⟩ gTuple [.lst ds] M = Q (.tup ds) M := pq Iff.rfl
theorem tuple_t : cbK (K := Q) ⟨⟩ gTuple [.tup ds] M = Q (.tup ds) M := pq Iff.rfl
theorem divmod_i {i j : Int} : cbK (K := Q) ⟨⟩ gDivmod [.int i, .int j] M = (CDiv i j ∧ Q (.tup [.int (i / j), .int (i % j)]) M) := pq Iff.rfl
theorem indexT_t {y : Tx} : mtK (K := Q) ⟨⟩ gIndexT (.tup ds) [.str y] M = (∃ (ts : List Tx) (j : Nat), ds = ts.map D.str ∧ ts[j]? = some y ∧ (∀ m, m < j → ts[m]? ≠ some y) ∧ Q (.int (j : Nat)) M) := pq Iff.rfl
theorem upper_s {t : Tx} : mtK (K := Q) ⟨⟩ gUpper (.str t) [] M = (t.length ≤ 5592405 ∧ Q (.str (T (PySem.Txt.upper (sx t)))) M) := pq Iff.rfl
end
end DL
namespace DL
open PySem L2
def gIsB (nb : Bool → Bool) : DOp := fun x y M Q => match x, y with
  | .bl a, .bl b => Q (.bl (nb (a == b))) M
  | _, _ => False
theorem isB_t {nb : Bool → Bool} {a : Bool} {M : Mu} {Q : DK} : opK (K := Q) ⟨⟩ (gIsB nb) (.bl a) (.bl true) M = Q (.bl (nb a)) M := pq (by show Q (.bl (nb (a == true))) M ↔ _; rw [show (a == true) = a by cases a <;> rfl])
theorem isB_f {nb : Bool → Bool} {a : Bool} {M : Mu} {Q : DK} : opK (K := Q) ⟨⟩ (gIsB nb) (.bl a) (.bl false) M = Q (.bl (nb !a)) M := pq (by show Q (.bl (nb (a == false))) M ↔ _; rw [show (a == false) = !a by cases a <;> rfl])
end DL
namespace DL
open PySem PySem.W L2 He
theorem run_of {r : PySem.W.OpenRow} {q : Program} {H : PySem.W.Hook} {ob : PySem.W.SharedT → H.α} {M : Nat} {loose : List PySem.Str} {w : World}
    (h1 : ∀ os : OsState, (HandSHeadRun.endF (HandSHeadRun.stepQ (HandSHeadRun.denQ HandSHeadRun.tabQ) r.prog w) M r.prog w os).map (fun s => HandSHeadRun.looksF r.prog (PySem.W.boot_heap w.params) s.abs) = some true)
    (h2 : ∀ os : OsState, (HandSHeadRun.endF (HandSHeadRun.stepQ (HandSHeadRun.denQ HandSHeadRun.tabQ) r.prog w) M r.prog w os).map (fun s => HandSHeadRun.seenQ q loose (importedModules r.prog.main.body) (fun s => PySem.W.xlAt q [] s && PySem.W.recOk r.records s) s.abs) = some (PySem.W.openGood q loose))
    (h3 : ∀ os : OsState, (HandSHeadRun.endF (HandSHeadRun.stepQ (HandSHeadRun.denQ HandSHeadRun.tabQ) r.prog w) M r.prog w os).map ob = some (H.val w)) : HandSHeadRun.RunEq r q H ob M loose w := by
  intro os
  have h1 := h1 os
  have h2 := h2 os
  have h3 := h3 os
  generalize HandSHeadRun.endF (HandSHeadRun.stepQ (HandSHeadRun.denQ HandSHeadRun.tabQ) r.prog w) M r.prog w os = e at h1 h2 h3 ⊢
  cases e with
  | none => cases h1
  | some s =>
    simp only [Option.map_some, Option.some.injEq] at h1 h2 h3 ⊢
    rw [h1, h2, h3]
def addNew : List Addr → Nat → List Addr → Nat × List Addr
  | [], m, nw => (m, nw)
  | a :: r, m, nw => match Nat.beq (Nat.land (Nat.shiftRight m a) 1) 1 with
    | true => addNew r m nw
    | false => addNew r (Nat.lor m (Nat.shiftLeft 1 a)) (a :: nw)
def refsG (g : Addr → Option Obj) : List Addr → List Addr
  | [] => []
  | a :: r => match g a with
    | some o => He.refsD o ++ refsG g r
    | none => refsG g r
def asF (g : Addr → Option Obj) : Nat → Nat → List Addr → List Addr
  | 0, _, fr => fr
  | n + 1, m, fr => fr ++ (match addNew (refsG g fr) m [] with
    | (m, nw) => asF g n m nw)
def asQ (g : Addr → Option Obj) (n : Nat) : List Addr := cStatics :: asF g n (Nat.shiftLeft 1 mainGlobals) [mainGlobals]
def obsEQ (n : Nat) (fa : List He.Fa) (fn : List He.DefD) (gb : List (PySem.W.Frag → Bool)) (ts : List He.Tab) (fx : List He5.DefA) (fe : List DefE) (g : Addr → Option Obj) : AlE := obsE fa fn gb ts fx fe (He.frG g (asQ g n))
def hookQ (n : Nat) (fa : List He.Fa) (fn : List He.DefD) (gb : List (PySem.W.Frag → Bool)) (ts : List He.Tab) (fx : List He5.DefA) (fe : List DefE) : PySem.W.Hook where
  α := AlE
  obs := fun s => obsEQ n fa fn gb ts fx fe s.heap.get?
  val := fun w => valE fn ts fx fe w
  says := fun w h => ∃ K : PySem.W.Frag, K.In h ∧ SaysE fa fn gb ts fx fe w K
  of := fun _ _ e => ⟨_, He.frG_in, e⟩
  keeps := fun _ _ _ ⟨K, hK, c⟩ k => ⟨K, hK.keeps k, c⟩
theorem obsEQ_eq {n : Nat} {fa : List He.Fa} {fn : List He.DefD} {gb : List (PySem.W.Frag → Bool)} {ts : List He.Tab} {fx : List He5.DefA} {fe : List DefE} {g : Addr → Option Obj} {s : Shared} (h : ∀ a, g a = s.heap.get? a) : obsEQ n fa fn gb ts fx fe g = (hookQ n fa fn gb ts fx fe).obs s := by
  rw [funext h] <;> rfl
end DL
namespace DL
open PySem L2
def ltT (a b : Tx) : Bool := decide (a < b)
def gLtS : DOp := fun x y M Q => match x, y with
  | .str a, .str b => Q (.bl (ltT a b)) M
  | _, _ => False
def gGtS : DOp := fun x y M Q => match x, y with
  | .str a, .str b => Q (.bl (ltT b a)) M
  | _, _ => False
theorem ltS_s {a b : Tx} {M : Mu} {Q : DK} : opK (K := Q) ⟨⟩ gLtS (.str a) (.str b) M = Q (.bl (ltT a b)) M := pq Iff.rfl
theorem gtS_s {a b : Tx} {M : Mu} {Q : DK} : opK (K := Q) ⟨⟩ gGtS (.str a) (.str b) M = Q (.bl (ltT b a)) M := pq Iff.rfl
def gSorted : DCb := fun xs M Q => match xs with
  | [.lst ds] => ∃ ts : List Tx, ds = ts.map D.str ∧ ∀ us : List Tx, us.Perm ts → PyProof.Rows.sortedS (us.map sx) = true → Q (.lst (us.map D.str)) M
  | _ => False
theorem sorted_l {ds : List D} {M : Mu} {Q : DK} : cbK (K := Q) ⟨⟩ gSorted [.lst ds] M = (∃ ts : List Tx, ds = ts.map D.str ∧ ∀ us : List Tx, us.Perm ts → PyProof.Rows.sortedS (us.map sx) = true → Q (.lst (us.map D.str)) M) := pq Iff.rfl
def keyK {K : DKey → Prop} (_ : Lk K) (d : D) : Prop := match d with
  | .str x => K (.inr x)
  | .int i => K (.inl i)
  | _ => False
theorem keyK_s {K : DKey → Prop} {x : Tx} : keyK (K := K) ⟨⟩ (.str x) = K (.inr x) := pq Iff.rfl
theorem keyK_i {K : DKey → Prop} {x : Int} : keyK (K := K) ⟨⟩ (.int x) = K (.inl x) := pq Iff.rfl
def dDGet (td ty tx : DTE) : DTE := fun τ M Q E => td τ M (fun d M1 => onRef (K := fun a => onDR (K := fun _ => ty τ M1 (fun y M2 => tx τ M2 (fun z M3 => keyK (K := fun k => onDR (K := fun kvs => Q ((lookK kvs k).getD z) M3) ⟨⟩ (M3 a)) ⟨⟩ y) E) E) ⟨⟩ (M1 a)) ⟨⟩ d) E
theorem u_dget {td ty tx : DTE} {τ : DSt} {M : Mu} {Q : DK} {E : DX} : dDGet td ty tx τ M Q E = td τ M (fun d M1 => onRef (K := fun a => onDR (K := fun _ => ty τ M1 (fun y M2 => tx τ M2 (fun z M3 => keyK (K := fun k => onDR (K := fun kvs => Q ((lookK kvs k).getD z) M3) ⟨⟩ (M3 a)) ⟨⟩ y) E) E) ⟨⟩ (M1 a)) ⟨⟩ d) E := pq Iff.rfl
section
variable {X : Cx} {W : WX} {o e f : Expr} {td ty tx : DTE} {apos cpos : Pos}
end
def onRowsR (C f : Str) (M : Mu) (d : D) (K : List D → Prop) : Prop := ∃ a fs p ds, d = .ref a ∧ M a = some (.ins C fs) ∧ fs.lookup f = some (.ref p) ∧ M p = some (.lst ds) ∧ K ds
def gLenOR (C f : Str) : DCb := fun xs M Q => match xs with
  | [d] => onRowsR C f M d fun ds => Q (.int ds.length) M
  | _ => False
def gListOR (C f : Str) : DCb := fun xs M Q => match xs with
  | [d] => onRowsR C f M d fun ds => Q (.lst ds) M
  | _ => False
section
variable {K : PySem.W.Frag} {C f : Str}
end
theorem lenOR_r {C f : Str} {M : Mu} {Q : DK} {d : D} : cbK (K := Q) ⟨⟩ (gLenOR C f) [d] M = onRowsR C f M d (fun ds => Q (.int ds.length) M) := pq Iff.rfl
theorem listOR_r {C f : Str} {M : Mu} {Q : DK} {d : D} : cbK (K := Q) ⟨⟩ (gListOR C f) [d] M = onRowsR C f M d (fun ds => Q (.lst ds) M) := pq Iff.rfl
end DL
namespace DL
open PySem L2 He
section
variable {X : Cx} {W : WX} {C f : Str} {e tg : Expr}
def diOwn (C f : Str) (te : DTE) : DTI := fun τ M Q E => te τ M (fun d M1 => onRows C f M1 d fun ds => Q ds M1) E
theorem r_own {te : DTE} {τ : DSt} {M : Mu} {Ql : List D → Mu → Prop} {E : DX} : diOwn C f te τ M Ql E = te τ M (fun d M1 => onRows C f M1 d fun ds => Ql ds M1) E := pq Iff.rfl
end
end DL
namespace DL
open PySem L2
theorem atI_nat {α : Type} {xs : List α} {i : Nat} (h : i < xs.length) : atI xs (i : Int) = some xs[i] := by
  unfold atI ixN
  rw [if_pos (by omega), if_pos (by omega)]
  show xs[(i : Int).toNat]? = _
  rw [Int.toNat_natCast, List.getElem?_eq_getElem h]
theorem atI_of {α : Type} {xs : List α} {i : Int} {x : α} (h0 : 0 ≤ i) (h : xs[i.toNat]? = some x) : atI xs i = some x := by
  have hl := (List.getElem?_eq_some_iff.mp h).1
  unfold atI ixN
  rw [if_pos h0, if_pos (by omega)]
  exact h
theorem atI_0 {α : Type} {a : α} {l : List α} : atI (a :: l) 0 = some a := atI_of (by decide) rfl
theorem atI_1 {α : Type} {a b : α} {l : List α} : atI (a :: b :: l) 1 = some b := atI_of (by decide) rfl
theorem atI_2 {α : Type} {a b c : α} {l : List α} : atI (a :: b :: c :: l) 2 = some c := atI_of (by decide) rfl
theorem atI_3 {α : Type} {a b c d : α} {l : List α} : atI (a :: b :: c :: d :: l) 3 = some d := atI_of (by decide) rfl
theorem atI_4 {α : Type} {a b c d e : α} {l : List α} : atI (a :: b :: c :: d :: e :: l) 4 = some e := atI_of (by decide) rfl
theorem ixN_of {n : Nat} {i : Int} (h0 : 0 ≤ i) (h : i < n) : ixN n i = some i.toNat := by
  unfold ixN
  rw [if_pos h0, if_pos h]
theorem atI_is {α : Type} {xs : List α} {i : Int} (h0 : 0 ≤ i) (h : i < xs.length) : ∃ x, x ∈ xs ∧ atI xs i = some x ∧ xs[i.toNat]? = some x := by
  have hl : i.toNat < xs.length := by omega
  exact ⟨xs[i.toNat], List.getElem_mem hl, atI_of h0 (List.getElem?_eq_getElem hl), List.getElem?_eq_getElem hl⟩
theorem atI_map {α β : Type} {f : α → β} {xs : List α} {i : Int} : atI (xs.map f) i = (atI xs i).map f := by
  unfold atI
  rw [List.length_map]
  cases ixN xs.length i with
  | none => rfl
  | some j => show (xs.map f)[j]? = (xs[j]?).map f; rw [List.getElem?_map]
theorem ixN_40 : ixN 4 0 = some 0 := rfl
theorem ixN_41 : ixN 4 1 = some 1 := rfl
theorem ixN_42 : ixN 4 2 = some 2 := rfl
theorem ixN_43 : ixN 4 3 = some 3 := rfl
theorem wFor_by {g : DTG} {tb : DTS} {D0 : DEnds} {ds : List D} {τ : DSt} {M : Mu} (I : Nat → DSt → Mu → Prop) (h0 : I 0 τ M)
    (step : ∀ i d τ M, ds[i]? = some d → I i τ M → ∀ nxt : DSt → Mu → Prop, (∀ τ2 M2, I (i + 1) τ2 M2 → nxt τ2 M2) → g d τ M (fun τ1 M1 => tb { D0 with nx := nxt, ct := nxt, bk := D0.nx } τ1 M1) (D0.ex τ))
    (done : ∀ τ M, I ds.length τ M → D0.nx τ M) : wFor g tb D0 ds τ M := by
  have all : ∀ (rest pre : List D) (τ : DSt) (M : Mu), ds = pre ++ rest → I pre.length τ M → wFor g tb D0 rest τ M := by
    intro rest
    induction rest with
    | nil =>
      intro pre τ M e h
      rw [List.append_nil] at e
      rw [← e] at h
      exact done τ M h
    | cons d rest ih =>
      intro pre τ M e h
      refine step pre.length d τ M (by rw [e]; simp) h _ fun τ2 M2 h2 => ?_
      refine ih (pre ++ [d]) τ2 M2 (by rw [e]; simp) ?_
      rw [List.length_append]
      exact h2
  exact all ds [] τ M rfl h0
theorem wFor_nil {g : DTG} {tb : DTS} {D0 : DEnds} {τ : DSt} {M : Mu} (h : D0.nx τ M) : wFor g tb D0 [] τ M := h
theorem wFor_cons {g : DTG} {tb : DTS} {D0 : DEnds} {τ : DSt} {M : Mu} {d : D} {ds : List D} (h : g d τ M (fun τ1 M1 => tb { D0 with nx := wFor g tb D0 ds, ct := wFor g tb D0 ds, bk := D0.nx } τ1 M1) (D0.ex τ)) : wFor g tb D0 (d :: ds) τ M := h
theorem upTo_at {lo : Int} {n i : Nat} {d : D} (h : (upTo lo n)[i]? = some d) : d = .int (lo + i) ∧ i < n := ⟨upTo_get h, by have := (List.getElem?_eq_some_iff.mp h).1; rwa [upTo_len] at this⟩
theorem map_at {α : Type} {f : α → D} {l : List α} {i : Nat} {d : D} (h : (l.map f)[i]? = some d) : ∃ a, l[i]? = some a ∧ f a = d := by
  rw [List.getElem?_map] at h
  exact Option.map_eq_some_iff.mp h
end DL
namespace DL
open PySem L2
theorem lc_txs {i : Nat} {tt : DTT} {vs : List Nat} {τ : DSt} {p : Addr} {te : DTE} {Nx : Mu → Prop} {ts : List Tx} {M : Mu} (g : Tx → Bool) (hl : ts.length ≤ 1000000)
    (ht : ∀ t ∈ ts, ∀ acc (N : Bool → Mu → Prop), N (g t) (put M p (.lst acc)) → tt ((wipeD τ vs).set i (some (.str t))) (put M p (.lst acc)) N noX)
    (he : ∀ t ∈ ts, g t = true → ∀ acc (N : D → Mu → Prop), N (.str t) (put M p (.lst acc)) → te ((wipeD τ vs).set i (some (.str t))) (put M p (.lst acc)) N noX)
    (h : Nx (put M p (.lst (txs (ts.filter g))))) : wTs (dgName i) tt vs τ (wNst (dEm p te) []) Nx (txs ts) (put M p (.lst [])) := by
  refine lc_pure (f := id) (g := fun d => match d with
    | .str t => g t
    | _ => false) (by rw [txs, List.length_map]; omega) ?_ ?_ ?_
  · intro d hd acc N h
    obtain ⟨t, ht2, rfl⟩ := List.mem_map.mp hd
    exact ht t ht2 acc N h
  · intro d hd hg acc N h
    obtain ⟨t, ht2, rfl⟩ := List.mem_map.mp hd
    exact he t ht2 hg acc N h
  · have e : ((txs ts).filter fun d => match d with
        | .str t => g t
        | _ => false).map id = txs (ts.filter g) := by
      rw [List.map_id, txs, List.filter_map]
      rfl
    rw [e]
    exact h
theorem lcP_txs {i : Nat} {tt : DTT} {vs : List Nat} {τ : DSt} {p : Addr} {te : DTE} {Nx : Mu → Prop} {M : Mu} {P : Mu → Prop} (g : Tx → Bool) (hP : ∀ acc, P (put M p (.lst acc))) : ∀ {ts : List Tx} (acc : List Tx), acc.length + ts.length ≤ 1000000 →
    (∀ t ∈ ts, ∀ acc (N : Bool → Mu → Prop), N (g t) (put M p (.lst acc)) → tt ((wipeD τ vs).set i (some (.str t))) (put M p (.lst acc)) N noX) →
    (∀ t ∈ ts, g t = true → ∀ acc (N : D → Mu → Prop), N (.str t) (put M p (.lst acc)) → te ((wipeD τ vs).set i (some (.str t))) (put M p (.lst acc)) N noX) →
    Nx (put M p (.lst (txs (acc ++ ts.filter g)))) → wTsP P (dgName i) tt vs τ (dEm p te) Nx (txs ts) (put M p (.lst (txs acc)))
  | [], acc, _, _, _, h => ⟨hP _, by rw [List.filter_nil, List.append_nil] at h; exact h⟩
  | t :: ts, acc, hl, ht, he, h => by
    have hl2 : acc.length + ts.length + 1 ≤ 1000000 := by simpa [Nat.add_assoc] using hl
    refine ⟨hP _, ht t List.mem_cons_self _ _ ?_⟩
    cases q : g t with
    | false =>
      simp only [Bool.false_eq_true, if_false]
      refine lcP_txs g hP acc (by omega) (fun u hu => ht u (List.mem_cons_of_mem _ hu)) (fun u hu => he u (List.mem_cons_of_mem _ hu)) ?_
      rw [List.filter_cons, q] at h
      exact h
    | true =>
      simp only [if_true]
      refine he t List.mem_cons_self q _ _ ⟨_, put_same, by rw [line24, txs, List.length_map]; omega, ?_⟩
      rw [put_put, show txs acc ++ [D.str t] = txs (acc ++ [t]) from (txs_app acc [t]).symm]
      refine lcP_txs g hP (acc ++ [t]) (by rw [List.length_append, List.length_singleton]; omega) (fun u hu => ht u (List.mem_cons_of_mem _ hu)) (fun u hu => he u (List.mem_cons_of_mem _ hu)) ?_
      rw [List.filter_cons, q] at h
      rw [List.append_assoc]
      exact h
def addK (kvs : List (DKey × D)) (t : Tx) : List (DKey × D) := putD kvs (.inr t) (.bl true)
def keysT (ts : List Tx) : List (DKey × D) := ts.foldl addK []
def hasK (kvs : List (DKey × D)) (t : Tx) : Bool := (lookK kvs (.inr t)).isSome
theorem hasK_any (kvs : List (DKey × D)) (t : Tx) : hasK kvs t = kvs.any fun q => decide (q.1 = .inr t) := by
  unfold hasK lookK
  induction kvs with
  | nil => rfl
  | cons a r ih =>
    rw [List.find?_cons, List.any_cons]
    cases decide (a.1 = Sum.inr t) with
    | true => rfl
    | false => rw [Bool.false_or, ← ih]
theorem hasK_add (kvs : List (DKey × D)) (t u : Tx) : hasK (addK kvs t) u = (decide (u = t) || hasK kvs u) := by
  rw [hasK_any, hasK_any]
  unfold addK putD
  split
  · rename_i h
    rw [List.any_map]
    have e : ((fun q : DKey × D => decide (q.1 = Sum.inr u)) ∘ fun q => if q.1 = Sum.inr t then (q.1, D.bl true) else q) = fun q => decide (q.1 = Sum.inr u) := by
      funext q
      simp only [Function.comp]
      split <;> rfl
    rw [e]
    by_cases z : u = t
    · subst z
      rw [h]
      simp
    · rw [decide_eq_false z, Bool.false_or]
  · rw [List.any_append, List.any_cons, List.any_nil, Bool.or_false, Bool.or_comm]
    congr 1
    exact decide_eq_decide.mpr ⟨fun z => by injection z with z; exact z.symm, fun z => by rw [z]⟩
theorem hasK_fold : ∀ (ts : List Tx) (kvs : List (DKey × D)) (u : Tx), hasK (ts.foldl addK kvs) u = (decide (u ∈ ts) || hasK kvs u)
  | [], kvs, u => by simp
  | t :: ts, kvs, u => by
    rw [List.foldl_cons, hasK_fold ts, hasK_add, ← Bool.or_assoc]
    congr 1
    rw [← Bool.decide_or]
    exact decide_eq_decide.mpr (by simp [List.mem_cons, or_comm])
theorem hasK_keys (ts : List Tx) (u : Tx) : hasK (keysT ts) u = decide (u ∈ ts) := by
  unfold keysT
  rw [hasK_fold]
  simp [hasK, lookK]
theorem addK_len (kvs : List (DKey × D)) (t : Tx) : (addK kvs t).length ≤ kvs.length + 1 := by
  unfold addK putD
  split
  · rw [List.length_map]; omega
  · rw [List.length_append]; exact Nat.le_refl _
theorem keysT_snoc (ts : List Tx) (t : Tx) : keysT (ts ++ [t]) = addK (keysT ts) t := by unfold keysT; rw [List.foldl_append]; rfl
theorem keysT_len : ∀ (ts : List Tx) (kvs : List (DKey × D)), (ts.foldl addK kvs).length ≤ kvs.length + ts.length
  | [], _ => Nat.le_refl _
  | t :: ts, kvs => by
    rw [List.foldl_cons, List.length_cons]
    have := keysT_len ts (addK kvs t)
    have := addK_len kvs t
    omega
theorem keysT_of : ∀ {ts : List Tx} {acc : List Tx}, (acc ++ ts).Nodup → keysOf (ts.foldl addK (acc.map fun t => (Sum.inr t, D.bl true))) = txs (acc ++ ts)
  | [], acc, _ => by
    rw [List.append_nil, keysOf, List.foldl_nil, List.map_map]
    rfl
  | t :: ts, acc, h => by
    have n : ¬ t ∈ acc := fun z => by
      have := List.nodup_append.mp h
      exact this.2.2 t z t List.mem_cons_self rfl
    have e : addK (acc.map fun t => (Sum.inr t, D.bl true)) t = (acc ++ [t]).map fun t => (Sum.inr t, D.bl true) := by
      unfold addK putD
      rw [if_neg, List.map_append]
      · rfl
      · intro z
        rw [List.any_map, List.any_eq_true] at z
        obtain ⟨u, hu, e⟩ := z
        have e2 : (Sum.inr u : DKey) = .inr t := of_decide_eq_true e
        injection e2 with e2
        exact n (by rw [← e2]; exact hu)
    rw [List.foldl_cons, e, keysT_of (acc := acc ++ [t]) (by rw [List.append_assoc]; exact h), List.append_assoc]
    rfl
theorem keysT_keys {ts : List Tx} (h : ts.Nodup) : keysOf (keysT ts) = txs ts := keysT_of (acc := []) h
theorem dc_txs {i : Nat} {vs : List Nat} {τ : DSt} {p : Addr} {tk tv : DTE} {Nx : Mu → Prop} {M : Mu} : ∀ {ts : List Tx} (acc : List Tx), acc.length + ts.length ≤ 1000000 →
    (∀ t ∈ ts, ∀ kvs (N : D → Mu → Prop), N (.str t) (put M p (.dK kvs)) → tk ((wipeD τ vs).set i (some (.str t))) (put M p (.dK kvs)) N noX) →
    (∀ t ∈ ts, ∀ kvs (N : D → Mu → Prop), N (.bl true) (put M p (.dK kvs)) → tv ((wipeD τ vs).set i (some (.str t))) (put M p (.dK kvs)) N noX) →
    Nx (put M p (.dK (keysT (acc ++ ts)))) → wTs (dgName i) dYes vs τ (dEmD p tk tv) Nx (txs ts) (put M p (.dK (keysT acc)))
  | [], acc, _, _, _, h => by rw [List.append_nil] at h; exact h
  | t :: ts, acc, hl, hk, hv, h => by
    have hl2 : acc.length + ts.length + 1 ≤ 1000000 := by simpa [Nat.add_assoc] using hl
    refine hk t List.mem_cons_self _ _ (hv t List.mem_cons_self _ _ ⟨keysT acc, .inr t, rfl, put_same, ?_, ?_⟩)
    · have := keysT_len acc []
      simp only [List.length_nil] at this
      have e : (keysT acc).length ≤ acc.length := by unfold keysT; omega
      rw [line24]; omega
    · rw [put_put, show putD (keysT acc) (.inr t) (.bl true) = keysT (acc ++ [t]) from (keysT_snoc acc t).symm]
      refine dc_txs (acc ++ [t]) (by rw [List.length_append, List.length_singleton]; omega) (fun u hu => hk u (List.mem_cons_of_mem _ hu)) (fun u hu => hv u (List.mem_cons_of_mem _ hu)) ?_
      rw [List.append_assoc]
      exact h
def Xt (M M' : Mu) : Prop := ∀ b o, M b = some o → M' b = some o
theorem Xt.refl (M : Mu) : Xt M M := fun _ _ h => h
theorem Xt.trans {M M1 M2 : Mu} (a : Xt M M1) (b : Xt M1 M2) : Xt M M2 := fun c o h => b c o (a c o h)
theorem Xt.new {M : Mu} {p : Addr} {o : MO} (h : M p = none) : Xt M (put M p o) := fun b u e => by
  have n : b ≠ p := fun z => by rw [z, h] at e; cases e
  rw [put_ne n]; exact e
theorem Xt.none {M M' : Mu} (x : Xt M M') {p : Addr} (h : M' p = Option.none) : M p = Option.none := by
  cases e : M p with
  | none => rfl
  | some o => rw [x p o e] at h; cases h
theorem Xt.set {M M' : Mu} {p : Addr} {o u : MO} (x : Xt (put M p o) M') (h : M p = Option.none) : Xt M (put M' p u) := fun b v e => by
  have n : b ≠ p := fun z => by rw [z, h] at e; cases e
  rw [put_ne n]
  exact x b v (by rw [put_ne n]; exact e)
end DL
namespace DL
open PySem L2
theorem no_err {P : Program} {w : World} {H : Hp} {s s' : Shared} {e : Value} (h : L2N.CX P w [] H s (fun _ _ _ => False) e s') : False := by
  obtain ⟨_, _, _, _, _, _, _, _, _, _, _, _, z⟩ := h
  exact z
theorem law_start {K : PySem.W.Frag} {H : Hp} {a : Addr} {ns : List Int} {sp : DSp} (hO : Only H) (hS : SqL K H a (ns.map V.int)) (h : sp [.scr ns] (fun _ => none) (fun d _ => d = .bl true) (fun _ _ => False)) : lsp K sp [.ref a] H (fun v _ => v = .bl true) (fun _ _ _ => False) := by
  refine ⟨[.scr ns], fun _ => none, fun d _ => d = .bl true, fun _ _ => False, ?_, fun _ _ e => (nomatch e), h, fun d M' v H' q r _ _ => ?_, fun _ _ _ _ _ q => q.elim⟩
  · refine Reps.cons ?_ Reps.nil
    refine ⟨a, rfl, ?_⟩
    rcases hS with (hS | hS) | hS
    · rcases hO a with z | ⟨o, xs, z⟩
      · rw [hS] at z; cases z
      · rw [hS] at z; cases z
    · exact .inl ⟨hS, rfl⟩
    · exact .inr hS
  · subst q
    exact r
theorem law_walk {l : PySem.W.OpenLaw} {sp : DSp} {k : Nat} {q : Program} {loose : List Str} {XP : (Str → Option Value) → Heap → Prop} {YP : World → Heap → Prop} {d : DefRec} {x : Str} (h63 : l.most = some 63) (hdf : d.params.defaults = []) (hr : Room k callerA)
    (hsp : ∀ ns : List Int, ns.length ≤ 63 → sp [.scr ns] (fun _ => none) (fun d _ => d = .bl true) (fun _ _ => False))
    (F : ∀ (w : World) (mg : Str → Option Value) (fa : Addr) (h : Heap), YP w h → h.Ns mainGlobals mg → mg d.name = some (.ref fa) → ∃ (K : PySem.W.Frag) (fd : FuncData), K.In h ∧ (∀ (s : Shared) (u : Value), BindsTo s fd ⟨[u], []⟩ [(x, u)]) ∧
      ∀ base : Heap, K.In base → base.Ns mainGlobals mg → FnOk l.prog w K mg base (L2N.CX l.prog w) k fa fd [x] (lsp K sp)) : PySem.W.WalkO q loose XP YP l.row.toRowW d [] (fun f vs => PySem.call f vs) :=
  Att.attach_call h63 hdf fun w s0 s1 mg mb fa o pm cd doc a vs ns G Y ho hd hcd hmg hobj his hlen hgen => by
    obtain ⟨K, fd, hK, hb, hF⟩ := F w mg fa _ Y G.T.g hmg
    exact law_call hK G.T.g G.T.b G.T.builtins G.T.nolimit hgen hobj his (Nat.le_trans hlen (by decide)) hr hF hb (fun H hO hS => law_start hO hS (hsp ns hlen)) fun H e s' z => no_err z
theorem FnM.never {P : Program} {w : World} {K : PySem.W.Frag} {mg : Str → Option Value} {base : Heap} {k : Nat} {x : Str} {f : Addr} {fd : FuncData} {ps : List Str} {sp : DSp} (hno : ∀ ds M Q E, ¬ sp ds M Q E) (hm : mg x = some (.ref f)) (hk : PySem.W.keepIn K (.ref f) = true) (hb : Binds K fd ps []) : FnM P w K mg base k x sp :=
  ⟨f, fd, ps, ⟨fun vs H Q E ⟨ds, M, Q0, E0, _, _, h, _⟩ => (hno _ _ _ _ h).elim, fun A outer s H args us vs Q E _ _ _ _ ⟨ds, M, Q0, E0, _, _, h, _⟩ => (hno _ _ _ _ h).elim⟩, hm, hk, hb⟩
end DL
namespace DL
open PySem L2
section
variable {X : Cx} {W : WX} {a b c e o i elt tg iter : Expr} {rest es : List Expr} {ta tb te to : DTE} {tt : DTT} {tl : DTA} {pos p tpos : Pos} {x : Str} {g : DTG} {tr : DTR}
end
section
variable {τ : DSt} {M : Mu} {E : DX} {tl : DTA} {g : DTG} {tb : DTS} {D0 : DEnds}
end
end DL
namespace DL
open PySem L2 He
end DL
namespace DL
open PySem PySem.Spec PyProof.Rows L2 L2H HotX He
end DL
namespace DL
open PySem PySem.Spec PyProof.Rows L2 L2H HotX He
structure FnMH (P : Program) (w : World) (K : PySem.W.Frag) (mg : Str → Option Value) (base : Heap) (k : Nat) (x : Str) (sp : DSp) : Prop where
  ex : ∃ f fd ps, FnH P w K mg base (L2N.CX P w) k f fd ps (lsp K sp) ∧ mg x = some (.ref f) ∧ PySem.W.keepIn K (.ref f) = true ∧ Binds K fd ps []
theorem FnMH.of {P : Program} {w : World} {K : PySem.W.Frag} {mg : Str → Option Value} {base : Heap} {k : Nat} {x : Str} {f : Addr} {fd : FuncData} {ps : List Str} {sp : DSp} (F : FnH P w K mg base (L2N.CX P w) k f fd ps (lsp K sp)) (hm : mg x = some (.ref f))
    (hk : PySem.W.keepIn K (.ref f) = true) (hb : Binds K fd ps []) : FnMH P w K mg base k x sp := ⟨f, fd, ps, F, hm, hk, hb⟩
theorem FnMH.never {P : Program} {w : World} {K : PySem.W.Frag} {mg : Str → Option Value} {base : Heap} {k : Nat} {x : Str} {f : Addr} {fd : FuncData} {ps : List Str} {sp : DSp} (hno : ∀ ds M Q E, ¬ sp ds M Q E) (hm : mg x = some (.ref f)) (hk : PySem.W.keepIn K (.ref f) = true) (hb : Binds K fd ps []) : FnMH P w K mg base k x sp :=
  ⟨f, fd, ps, ⟨fun vs H Q E ⟨ds, M, Q0, E0, _, _, h, _⟩ => (hno _ _ _ _ h).elim, fun A outer s H args us vs Q E p _ _ _ _ _ _ ⟨ds, M, Q0, E0, _, _, h, _⟩ => (hno _ _ _ _ h).elim⟩, hm, hk, hb⟩
section
variable {X : Cx} {W : WX}
theorem PIH.of {tg e : Expr} {t t0 : TI} (h : PIH X tg e t0) (k : ∀ σ H R, t σ H R → t0 σ H R) : PIH X tg e t := ⟨fun pins s σ H R I q => h.run pins s σ H R I (k σ H R q)⟩
end
end DL
namespace DL
open PySem PySem.Spec PyProof.Rows L2 L2H HotX He
theorem funFrames_imp {h h' B : Heap} (k : ∀ b o, h.get? b = some o → (∀ vs, o.data ≠ .fields vs) → ∃ o', h'.get? b = some o' ∧ ∀ vs, o'.data ≠ .fields vs) : ∀ {l : List Env}, h.FunFrames B l → h'.FunFrames B l
  | [], _ => trivial
  | env :: rest, ⟨hk, ⟨L, o, hf, hn, ho, hd⟩, hr⟩ => by
    obtain ⟨o', e', d'⟩ := k _ _ ho hd
    exact ⟨hk, ⟨L, o', hf, hn, e', d'⟩, funFrames_imp k hr⟩
theorem held_but {B h h' : Heap} {env : Env} {outer : List Env} {a L : Addr} {Z : Obj → Prop} {o' : Obj} (hf : env.frame = some L) (x : HandSPX.HeldZ B (env :: outer) a Z L h) (s : Heap.SameBut L h h') (e' : h'.get? L = some o') (d' : ∀ vs, o'.data ≠ .fields vs) :
    HandSPX.HeldZ B (env :: outer) a Z L h' := by
  obtain ⟨x1, x2, x3, oe, vs, T, oT, ts, he, hz, hd, h1, hnT, hTe, hT, hdT, h3⟩ := x
  obtain ⟨L0, o0, hf0, hn0, ho0, hd0⟩ := x3.2.1
  rw [hf] at hf0
  cases hf0
  have ne : ∀ b u vs, h.get? b = some u → u.data = .fields vs → b ≠ L := fun b u vs e d z => by
    rw [z, ho0] at e
    cases e
    exact hd0 vs d
  refine ⟨fun b o e => ?_, x2, funFrames_imp (fun b o e d => ?_) x3, oe, vs, T, oT, ts, (s.2 a (ne a oe vs he hd)).trans he, hz, hd, h1, hnT, hTe, (s.2 T (ne T oT ts hT hdT)).trans hT, hdT, h3⟩
  · have nb : b ≠ L := fun z => by rw [z, hn0] at e; cases e
    exact (s.2 b nb).trans (x1 b o e)
  · by_cases hb : b = L
    · rw [hb]
      exact ⟨o', e', d'⟩
    · exact ⟨o, (s.2 b hb).trans e, d⟩
section
variable {X : Cx} {pins : List (Addr × Obj)} {σ : L2.St} {H : Hp} {s : Shared}
theorem inv_gone {h' : Heap} {i t' : Nat} {n : Str} {m : Str → Option Value} {v : Option Value} (I : Inv X pins σ H s) (hN : X.N.Nodup) (hi : X.N[i]? = some n) (hm : s.heap.Ns X.env.locals m)
    (hn' : h'.Ns X.env.locals (fun x => if x = n then v else m x)) (hs : Heap.SameBut X.env.locals s.heap h') : Inv X pins (σ.set i none) H { s with heap := h', toks := t' } := by
  obtain ⟨m0, hn, hlk⟩ := id I.loc
  obtain rfl : m0 = m := by
    obtain ⟨o1, es1, ep1, a1, b1, _, c1⟩ := hn
    obtain ⟨o2, es2, ep2, a2, b2, _, c2⟩ := hm
    rw [a1] at a2
    cases a2
    rw [b1] at b2
    cases b2
    funext x
    rw [← c1, ← c2]
  have neL : ∀ b o, X.s_0.heap.get? b = some o → b ≠ X.env.locals := fun b o e => Nat.ne_of_lt (Nat.lt_of_lt_of_le (Heap.lt_size e) I.ok.above)
  refine ⟨I.ok, I.os, I.bare, ⟨fun b o e n hb hx => ?_, fun b o e n hb hx => ?_, I.base.free, fun b o e hx => ?_, I.base.tups, I.base.frzs, I.base.tbls⟩, ⟨_, hn', fun j y v' e1 e2 e3 => ?_⟩, fun y c e => ?_, I.free, I.freeC, fun p hp => ?_, fun b ob e => ?_, by simpa using I.len⟩
  · exact (hs.2 b (neL b o e)).trans (I.base.keep b o e n hb hx)
  · obtain ⟨sl, e1⟩ := I.base.slot b o e n hb hx
    exact ⟨sl, (hs.2 b (neL b o e)).trans e1⟩
  · obtain ⟨o', e1⟩ := I.base.there b o e hx
    exact ⟨o', (hs.2 b (neL b o e)).trans e1⟩
  · by_cases hj : j = i
    · subst hj
      by_cases hlt : j < σ.length
      · rw [List.getElem?_set_self hlt] at e2; cases e2
      · rw [List.getElem?_eq_none (by simpa using hlt)] at e2; cases e2
    · rw [List.getElem?_set_ne (Ne.symm hj)] at e2
      obtain ⟨u', r', q⟩ := hlk j y v' e1 e2 e3
      refine ⟨u', r', ?_⟩
      rcases q with ⟨k, e⟩ | ⟨k, c, e, z⟩
      · have ny : y ≠ n := fun e => hj (nodup_ix hN e1 (e ▸ hi))
        exact .inl ⟨k, (if_neg ny).trans e⟩
      · exact .inr ⟨k, c, e, z.sameBut hs (I.cne y c e)⟩
  · obtain ⟨w', z⟩ := I.cell y c e
    exact ⟨w', z.sameBut hs (I.cne y c e)⟩
  · obtain ⟨e, n, ne, nf, d⟩ := I.pin p hp
    exact ⟨(hs.2 p.1 ne).trans e, n, ne, nf, d⟩
  · refine (I.hok b ob e).stay (fun c w' hc q => (hs.2 c ?_).trans q) (fun _ q => q) fun _ _ q => q
    intro z
    subst z
    rcases hc with hc | hc
    · rw [← hc, I.free] at e; cases e
    · rw [I.free] at hc; cases hc
theorem as_raised {Wout : WX} {a : Addr} {oe : Obj} {i : Nat} {n : Str} {pos' : Pos} {x : Value} {s3 : Shared} (hs : X.stack = X.env :: X.outer) (hf : X.env.frame = some X.env.locals) (hN : X.N.Nodup) (hi : X.N[i]? = some n) (hln : X.env.kindOf n = some .local) (ok : X.Ok) (tk : L2.Takes X Wout)
    (z : L2.XE (suiteX X a ((a, oe) :: (X.pn ++ pins))) (fun cls d σ H => Wout cls d (σ.set i none) H) x s3) :
    AsSuiteRaised (model X.prog X.w) (X.A.mark (some (.ref a))) X.env n pos' (notedBy (model X.prog X.w) (X.A.mark (some (.ref a))) X.env (cameBackBy (model X.prog X.w) X.A X.env X.xe)) x s3 := by
  obtain ⟨a2, B, sI, pins2, σ2, H2, cls, d, rfl, J2, nb, up, sky, na, os, ag, w⟩ := z
  have J : Inv X pins σ2 H2 sI := unsuiteX J2 ok
  have hfr : (X.A.mark (some (.ref a))).frames = some (X.env :: X.outer) := by
    show X.A.frames = _
    rw [ok.frames, hs]
  have sky : Sky B (X.env :: X.outer) a2 (Zc cls d) X.env.locals s3.heap := by rw [← hs]; exact sky
  have nb : ∀ b o, sI.heap.get? b = some o → b ∉ frs X.stack → B.get? b = some o := nb
  obtain ⟨m, hm, hlk⟩ := id J.loc
  obtain ⟨oI, es, ep, hoI, hdI, hkI, hmI⟩ := id hm
  have hcls : (X.env.scope.kind == .class || (X.env.scope.kind == .module && X.env.locals != X.env.globals)) = false := by rw [ok.kind]; rfl
  have nfI : ∀ vs, oI.data ≠ .fields vs := fun vs e => by rw [hdI] at e; cases e
  have held : ∀ h1, HandSPX.HeldZ B (X.env :: X.outer) a2 (Zc cls d) X.env.locals h1 → s3.heap.UpToSlots h1 →
      wpAny (model X.prog X.w) (X.A.mark (some (.ref a))) (do bindName X.env n .none; unbindBehindTheSuite X.env n pos')
      (fun _ s₂ => wpAny (model X.prog X.w) (X.A.mark (some (.ref a))) (passOn "try.except-as" (.ref a2) X.env : Sem Flow) (fun _ _ => False) (notedBy (model X.prog X.w) (X.A.mark (some (.ref a))) X.env (cameBackBy (model X.prog X.w) X.A X.env X.xe)) s₂)
      (fun y s₂ => wpAny (model X.prog X.w) (X.A.mark (some (.ref a))) (setFlight (.ref a2) none) (fun _ s₃ => notedBy (model X.prog X.w) (X.A.mark (some (.ref a))) X.env (cameBackBy (model X.prog X.w) X.A X.env X.xe) y s₃) (notedBy (model X.prog X.w) (X.A.mark (some (.ref a))) X.env (cameBackBy (model X.prog X.w) X.A X.env X.xe)) s₂) { s3 with heap := h1 } := fun h1 hh up1 => by
    have up01 := up.trans up1
    obtain ⟨sl1, ho1⟩ := up01 _ _ hoI nfI
    have hn1 : h1.Ns X.env.locals m := ⟨_, es, ep, ho1, hdI, hkI, hmI⟩
    refine wpAny_nameGoes_keeps hln hn1 hcls fun h2 v hn2 hs2 => ?_
    obtain ⟨o2, es2, ep2, ho2, hd2, _⟩ := id hn2
    have nf2 : ∀ vs, o2.data ≠ .fields vs := fun vs e => by rw [hd2] at e; cases e
    have hh2 := held_but hf hh hs2 ho2 nf2
    -- the state without the exception, the name gone
    have g0 : (sI.heap.update X.env.locals (fun _ => o2)).get? X.env.locals = some o2 := Heap.get?_update_self _ hoI (Obj.isFreed_of_dict hd2)
    have gn : ∀ b, b ≠ X.env.locals → (sI.heap.update X.env.locals (fun _ => o2)).get? b = sI.heap.get? b := fun b hb => Heap.get?_update_other _ _ (Ne.symm hb)
    have hsI : Heap.SameBut X.env.locals sI.heap (sI.heap.update X.env.locals (fun _ => o2)) := Heap.SameBut.update ..
    have hnI : (sI.heap.update X.env.locals (fun _ => o2)).Ns X.env.locals (fun x => if x = n then v else m x) := by
      obtain ⟨o, es3, ep3, e1, e2, e3, e4⟩ := hn2
      rw [ho2] at e1
      cases e1
      exact ⟨o2, es3, ep3, g0, e2, e3, e4⟩
    have JI : Inv X pins (σ2.set i none) H2 { sI with heap := sI.heap.update X.env.locals (fun _ => o2), toks := sI.toks } := inv_gone J hN hi hm hnI hsI
    have upI : (sI.heap.update X.env.locals (fun _ => o2)).UpToSlots h2 := fun b o e hb => by
      by_cases hbL : b = X.env.locals
      · subst hbL
        rw [g0] at e
        cases e
        exact ⟨o2.slots, ho2⟩
      · rw [gn b hbL] at e
        obtain ⟨sl, e1⟩ := up01 b o e hb
        exact ⟨sl, (hs2.2 b hbL).trans e1⟩
    have Lin : X.env.locals ∈ frs X.stack := by
      rw [hs]
      exact List.mem_filterMap.mpr ⟨X.env, List.mem_cons_self, by rw [hf]⟩
    have nbI : ∀ b o, (sI.heap.update X.env.locals (fun _ => o2)).get? b = some o → b ∉ frs X.stack → B.get? b = some o := fun b o e hb => by
      have hbL : b ≠ X.env.locals := fun z => hb (by rw [z]; exact Lin)
      rw [gn b hbL] at e
      exact nb b o e hb
    obtain ⟨k1, k2, k3, oe2, vs, T, oT, ts', he, hz, hd, h1', hr⟩ := id hh2
    unfold PySem.passOn
    refine wpAny_bind (wpAny_field he hd h1' ?_)
    rw [if_neg (show ¬ ((Value.ref T == Value.none) = true) from by simp)]
    have fin : wpAny (model X.prog X.w) (X.A.mark (some (.ref a))) (setFlight (.ref a2) X.env.frame) (fun _ s4 => wpAny (model X.prog X.w) (X.A.mark (some (.ref a))) (throw (.ref a2) : Sem Flow) (fun _ _ => False) (notedBy (model X.prog X.w) (X.A.mark (some (.ref a))) X.env (cameBackBy (model X.prog X.w) X.A X.env X.xe)) s4)
        (notedBy (model X.prog X.w) (X.A.mark (some (.ref a))) X.env (cameBackBy (model X.prog X.w) X.A X.env X.xe)) { s3 with heap := h2, toks := s3.toks + 1 } := by
      rw [hf]
      refine HandSPX.setFlight_onZ hh2 fun h3 hh3 up3 => wpAny_throw ?_
      refine HandSPX.againZ hf hh3.2.2.2 ?_
      obtain ⟨_, _, _, oe3, vs3, T3, _, _, he3, _, hd3, h13, _⟩ := id hh3
      show wpAny (model X.prog X.w) X.A _ _ _ _
      refine wpAny_bind (wpAny_field he3 hd3 h13 ?_)
      rw [if_neg (show ¬ ((Value.ref T3 == Value.none) = true) from by simp)]
      have last : wpAny (model X.prog X.w) X.A (setFlight (.ref a2) X.env.frame) (fun _ s'' => X.xe (.ref a2) s'') X.xe { s3 with heap := h3, toks := s3.toks + 1 } := by
        rw [hf]
        refine HandSPX.setFlight_onZ hh3 fun h4 hh4 up4 => ?_
        exact tk _ _ ⟨a2, B, _, pins, σ2.set i none, H2, cls, d, rfl, JI, nbI, (upI.trans up3).trans up4, .inr (.inr (by rw [hs]; exact hh4)), na, os, ag, w⟩
      first
        | exact wpAny_bind (wpAny_pure last)
        | exact last
    first
      | exact wpAny_bind (wpAny_pure (wpAny_bind fin))
      | exact wpAny_bind fin
  rcases sky with ⟨hB, hn, hl, oe, vs, he, hz, hd, h1⟩ | fl | hh
  · exact HandSPX.look_newZ Zc.steady hfr hl hf he hB hn hd h1 hz held
  · exact HandSPX.looks_onZ Zc.steady hfr hf fl held
  · exact HandSPX.againZ hf hh.2.2.2 (held s3.heap hh (Heap.UpToSlots.refl _))
end
section
variable {X : Cx} {x n : Str} {c : Value} {i : Nat} {body suite : List Stmt} {b₀ : Stmt} {np pos pos' : Pos} {tb : WX → TS} {ts : Addr → Value → Option Addr → TS} {Wout : WX}
theorem ps_try_asX (hs : X.stack = X.env :: X.outer) (hf : X.env.frame = some X.env.locals) (hN : X.N.Nodup) (hi : X.N[i]? = some n) (hln : X.env.kindOf n = some .local) (hc : Names X x c) (tk : L2.Takes X Wout)
    (hb : ∀ (W : WX) (pn : List (Addr × Obj)) (xe : Value → Shared → Prop), L2N.Takes (X.tr pn xe) W → L2.Takes (X.tr pn xe) (wPass X.K c Wout) → PassesOwn (model X.prog X.w) X.A X.env xe → PSs (X.tr pn xe) body (tb W))
    (hsu : ∀ (a : Addr) (oe : Obj) (cls : Value) (d : Option Addr) (pn : List (Addr × Obj)) (xe : Value → Shared → Prop), L2N.Zn cls d oe → (∃ vs, oe.data = .fields vs) → L2.Takes ((suiteX X a ((a, oe) :: pn)).wish xe) (fun cls d σ H => Wout cls d (σ.set i none) H) →
      HotC ((suiteX X a ((a, oe) :: pn)).wish xe) → PSs ((suiteX X a ((a, oe) :: pn)).wish xe) (b₀ :: suite) (ts a cls d)) :
    PS X (.Try body [.ExceptHandler (some (.Name x np)) (some n) (b₀ :: suite) pos'] [] [] pos) (fun D σ H => tb (wAs X.K c i ts Wout D) D σ H) := by
  refine ⟨fun pins s σ H D I h => ?_⟩
  have ok := I.ok
  have hfr : X.A.frames = some (X.env :: X.outer) := by rw [ok.frames, hs]
  have hloc : Loc X.env.scope n := .inl hln
  have notFr : ∀ {B h : Heap} {a : Addr} {o : Obj} {vs : Array Value}, h.FunFrames B (X.env :: X.outer) → h.get? a = some o → o.data = .fields vs → a ∉ frs (X.env :: X.outer) := fun {B h a o vs} ff e dd hm => by
    obtain ⟨_, o', e', hnf⟩ := ff.mem hm
    rw [e] at e'; cases e'
    exact hnf _ dd
  have flyOn : ∀ {a : Addr} {B : Heap} {sI s' : Shared} {σ' : L2.St} {H' : Hp} {cls : Value} {d : Option Addr} {h3 : Heap}, Inv X pins σ' H' sI → (∀ b o, sI.heap.get? b = some o → b ∉ frs X.stack → B.get? b = some o) → sI.heap.UpToSlots h3 →
      HandSPX.FlyingZ B (X.env :: X.outer) a (Zc cls d) h3 → H' a = none → s'.os = sI.os → AllBare s'.gens → Wout cls d σ' H' → wpAny (model X.prog X.w) X.A (handleBy (.ref a) X.env []) (SP X pins D) X.xe { s' with heap := h3 } := by
    intro a B sI s' σ' H' cls d h3 J nb up fl3 na os ag w
    refine wpAny_handleBy_nil ?_
    obtain ⟨k1, k2, k3, oe, vs, T, oT, ts', he, hz, hd, h1, hr⟩ := id fl3
    unfold PySem.passOn
    refine wpAny_bind (wpAny_field he hd h1 ?_)
    rw [if_neg (show ¬ ((Value.ref T == Value.none) = true) from by simp)]
    have fin : wpAny (model X.prog X.w) X.A (setFlight (.ref a) X.env.frame) (fun _ s4 => wpAny (model X.prog X.w) X.A (throw (.ref a) : Sem Flow) (SP X pins D) X.xe s4) X.xe { s' with heap := h3 } := by
      rw [hf]
      refine HandSPX.setFlight_upZ fl3 fun h4 hh4 up4 => wpAny_throw (tk _ _ ?_)
      exact ⟨a, B, sI, pins, σ', H', cls, d, rfl, J, nb, up.trans up4, .inr (.inr (by rw [hs]; exact hh4)), na, os, ag, w⟩
    first
      | exact wpAny_bind (wpAny_pure (wpAny_bind fin))
      | exact wpAny_bind fin
  refine wpAny_Try_except ?_
  refine wpAny_mono ((hb (wAs X.K c i ts Wout D) (X.pn ++ pins) (fun e s₁ => wpAny (model X.prog X.w) X.A (noteFrame e X.env) (fun _ s₂ => wpAny (model X.prog X.w) X.A (setFlight e none) (fun _ s₃ =>
    wpAny (model X.prog X.w) X.A (handleBy e X.env [.ExceptHandler (some (.Name x np)) (some n) (b₀ :: suite) pos']) (SP X pins D) X.xe s₃) X.xe s₂) X.xe s₁) (fun u s' xx => ?_) (fun u s' xx => ?_) PassesOwn.looking).run [] s σ H D (I.toTry _) h) (fun f s1 hsp => ?_) (fun e s1 he => he)
  · -- an exception whose context is None
    obtain ⟨a, B, sI, pins', σ', H', cls, d, rfl, J', nb, up, sky, na, os, ag, b, hb1, hyes, hno⟩ := xx
    have J : Inv X pins σ' H' sI := J'.ofTry ok
    have sky' : Sky B (X.env :: X.outer) a (L2N.Zn cls d) X.env.locals s'.heap := by rw [← hs]; exact sky
    show wpAny (model X.prog X.w) X.A (noteFrame (.ref a) X.env) _ _ _
    refine L2N.Sky.land L2N.Zn.steady hfr hf sky' fun h3 fl3 up3 => ?_
    have J3 : Inv X pins σ' H' { s' with heap := h3 } := J.landed nb fl3.1 (up.trans up3) os ag
    obtain ⟨oe3, vs3, he3, hz3, hd3⟩ := fl3.there
    have nfr : a ∉ frs (X.env :: X.outer) := notFr fl3.2.2.1 he3 hd3
    have nL : a ≠ X.env.locals := fun z => nfr (List.mem_filterMap.mpr ⟨X.env, List.mem_cons_self, by rw [hf, z]⟩)
    have nF : a ∉ X.fs := fun hm => by
      obtain ⟨e, he, q⟩ := List.mem_filterMap.mp hm
      exact nfr (List.mem_filterMap.mpr ⟨e, List.mem_cons_of_mem _ he, q⟩)
    have S3 := J3.suite he3 hd3 na nL nF
    refine wpAny_handleBy_cons (codeAny_handlers_test ?_) (by intro q; cases q)
    have LT : PySem.W.Looks (model X.prog X.w) h3 (typeOf (.ref a)) cls := fun A Q E s k q => wpAny_typeOf_ref (k _ _ he3) (by rw [hz3.1]; exact q)
    have LM := PySem.W.exm_one (M := model X.prog X.w) (J3.kIn) LT hb1
    have test : ∀ {Q : Value → Shared → Prop} {E : Value → Shared → Prop}, Q c { s' with heap := h3 } → wpAny (model X.prog X.w) (X.A.mark (some (.ref a))) (eval (.Name x np) X.env) Q E { s' with heap := h3 } := fun {Q E} q => by
      obtain ⟨hg, hdbg, hm | ⟨hm, hv, hnn⟩⟩ := hc
      · exact ld_glob (X := X.suite a ((a, oe3) :: (X.pn ++ pins))) S3 hg hm q hdbg
      · exact ld_blt (X := X.suite a ((a, oe3) :: (X.pn ++ pins))) S3 hg hm hv q hnn hdbg
    refine test (LM.here ?_)
    cases b with
    | true =>
      refine codeAny_handlers_suite_as ?_
      refine HandSPX.lands_againZ fl3 fun h4 fl4 up4 => ?_
      have J4 : Inv X pins σ' H' { s' with heap := h4 } := J.landed nb fl4.1 ((up.trans up3).trans up4) os ag
      obtain ⟨oe4, vs4, he4, hz4, hd4⟩ := fl4.there
      have S4 := suiteX_of (J4.suite he4 hd4 na nL nF)
      refine store_ok (X := suiteX X a ((a, oe4) :: (X.pn ++ pins))) (v := .ref a) S4 hN hi hloc rfl (fun s5 S5 => ?_) (.inr hln)
      have tkS : L2.Takes ((suiteX X a ((a, oe4) :: (X.pn ++ pins))).wish (L2.XE (suiteX X a ((a, oe4) :: (X.pn ++ pins))) (fun cls d σ H => Wout cls d (σ.set i none) H))) (fun cls d σ H => Wout cls d (σ.set i none) H) := fun u2 s2 x2 => by
        obtain ⟨a2, B2, sI2, pn2, σ2, H2, cls2, d2, e2, I2, r2⟩ := x2
        exact ⟨a2, B2, sI2, pn2, σ2, H2, cls2, d2, e2, I2.unwish, r2⟩
      have hot : HotC ((suiteX X a ((a, oe4) :: (X.pn ++ pins))).wish (L2.XE (suiteX X a ((a, oe4) :: (X.pn ++ pins))) (fun cls d σ H => Wout cls d (σ.set i none) H))) := ⟨(a, oe4), ⟨rfl, vs4, hd4, hz4.2.2 vs4 hd4⟩, List.mem_cons_self⟩
      refine wpAny_mono ((hsu a oe4 cls d (X.pn ++ pins) _ hz4 ⟨_, hd4⟩ tkS hot).run [] s5 _ H' _ (S5.wish _) (hyes rfl a na)) (fun f s6 hsp => ?_) (fun x6 s6 z => as_raised hs hf hN hi hln ok tk z)
      have end_ : ∀ {σ6 : L2.St} {H6 : Hp} {Q : Shared → Prop}, Inv (suiteX X a ((a, oe4) :: (X.pn ++ pins))) [] σ6 H6 s6 → (∀ s7, Inv X pins (σ6.set i none) H6 s7 → Q s7) →
          wpAny (model X.prog X.w) X.A (do bindName X.env n .none; unbindBehindTheSuite X.env n pos') (fun _ s7 => Q s7) X.xe s6 := fun {σ6 H6 Q} S6 hq => gone_ok (unsuiteX S6 ok) hN hi hln hq
      cases f with
      | next =>
        obtain ⟨σ6, H6, S6, q6⟩ := hsp
        exact end_ S6.unwish fun s7 J7 => ⟨_, _, J7, q6⟩
      | brk =>
        obtain ⟨σ6, H6, S6, q6⟩ := hsp
        exact end_ S6.unwish fun s7 J7 => ⟨_, _, J7, q6⟩
      | cont =>
        obtain ⟨σ6, H6, S6, q6⟩ := hsp
        exact end_ S6.unwish fun s7 J7 => ⟨_, _, J7, q6⟩
      | ret u =>
        obtain ⟨v6, σ6, H6, S6, r6, q6⟩ := hsp
        exact end_ S6.unwish fun s7 J7 => ⟨_, _, _, J7, r6, q6⟩
    | false =>
      show wpAny _ X.A (handleBy (.ref a) X.env []) _ _ _
      exact flyOn J nb (up.trans up3) (flyingZ_imp (fun o z => z.zc) fl3) na os ag (hno rfl)
  · -- any other: the clause doesn't name it
    obtain ⟨a, B, sI, pins', σ', H', cls, d, rfl, J', nb, up, sky, na, os, ag, hb1, hno⟩ := xx
    have J : Inv X pins σ' H' sI := J'.ofTry ok
    have sky' : Sky B (X.env :: X.outer) a (Zc cls d) X.env.locals s'.heap := by rw [← hs]; exact sky
    show wpAny (model X.prog X.w) X.A (noteFrame (.ref a) X.env) _ _ _
    refine L2.Sky.land Zc.steady hfr hf sky' fun h3 fl3 up3 => ?_
    have J3 : Inv X pins σ' H' { s' with heap := h3 } := J.landed nb fl3.1 (up.trans up3) os ag
    obtain ⟨oe3, vs3, he3, hz3, hd3⟩ := fl3.there
    have nfr : a ∉ frs (X.env :: X.outer) := notFr fl3.2.2.1 he3 hd3
    have nL : a ≠ X.env.locals := fun z => nfr (List.mem_filterMap.mpr ⟨X.env, List.mem_cons_self, by rw [hf, z]⟩)
    have nF : a ∉ X.fs := fun hm => by
      obtain ⟨e, he, q⟩ := List.mem_filterMap.mp hm
      exact nfr (List.mem_filterMap.mpr ⟨e, List.mem_cons_of_mem _ he, q⟩)
    have S3 := J3.suite he3 hd3 na nL nF
    refine wpAny_handleBy_cons (codeAny_handlers_test ?_) (by intro q; cases q)
    have LT : PySem.W.Looks (model X.prog X.w) h3 (typeOf (.ref a)) cls := fun A Q E s k q => wpAny_typeOf_ref (k _ _ he3) (by rw [hz3.1]; exact q)
    have LM := PySem.W.exm_one (M := model X.prog X.w) (J3.kIn) LT hb1
    have test : ∀ {Q : Value → Shared → Prop} {E : Value → Shared → Prop}, Q c { s' with heap := h3 } → wpAny (model X.prog X.w) (X.A.mark (some (.ref a))) (eval (.Name x np) X.env) Q E { s' with heap := h3 } := fun {Q E} q => by
      obtain ⟨hg, hdbg, hm | ⟨hm, hv, hnn⟩⟩ := hc
      · exact ld_glob (X := X.suite a ((a, oe3) :: (X.pn ++ pins))) S3 hg hm q hdbg
      · exact ld_blt (X := X.suite a ((a, oe3) :: (X.pn ++ pins))) S3 hg hm hv q hnn hdbg
    refine test (LM.here ?_)
    show wpAny _ X.A (handleBy (.ref a) X.env []) _ _ _
    exact flyOn J nb (up.trans up3) fl3 na os ag hno
  · cases f with
    | next =>
      obtain ⟨σ', H', J', q⟩ := hsp
      exact wpAny_execs_nil ⟨σ', H', J'.ofTry ok, q⟩
    | brk =>
      obtain ⟨σ', H', J', q⟩ := hsp
      exact ⟨σ', H', J'.ofTry ok, q⟩
    | cont =>
      obtain ⟨σ', H', J', q⟩ := hsp
      exact ⟨σ', H', J'.ofTry ok, q⟩
    | ret u =>
      obtain ⟨v, σ', H', J', r, q⟩ := hsp
      exact ⟨v, σ', H', J'.ofTry ok, r, q⟩
end
def causeFrom (h : Heap) (a : Addr) (c : Value) : Heap := (h.update a (Obj.mapFields (·.setIfInBounds 3 c))).update a (Obj.mapFields (·.setIfInBounds 4 (.bool true)))
theorem causeFrom_at {h : Heap} {a : Addr} {c : Value} {oe : Obj} {vs : Array Value} (ha : h.get? a = some oe) (hd : oe.data = .fields vs) :
    (causeFrom h a c).get? a = some ((oe.mapFields (·.setIfInBounds 3 c)).mapFields (·.setIfInBounds 4 (.bool true))) ∧ ((oe.mapFields (·.setIfInBounds 3 c)).mapFields (·.setIfInBounds 4 (.bool true))).data = .fields ((vs.setIfInBounds 3 c).setIfInBounds 4 (.bool true)) := by
  have hd3 := Obj.data_mapFields hd (·.setIfInBounds 3 c)
  have ha3 := Heap.get?_update_self (Obj.mapFields (·.setIfInBounds 3 c)) ha (Obj.isFreed_of_fields hd3)
  have hd4 := Obj.data_mapFields hd3 (·.setIfInBounds 4 (.bool true))
  exact ⟨Heap.get?_update_self (Obj.mapFields (·.setIfInBounds 4 (.bool true))) ha3 (Obj.isFreed_of_fields hd4), hd4⟩
theorem causeFrom_other {h : Heap} {a b : Addr} {c : Value} (hne : a ≠ b) : (causeFrom h a c).get? b = h.get? b := by
  unfold causeFrom
  rw [Heap.get?_update_other _ _ hne, Heap.get?_update_other _ _ hne]
theorem raise_made_hotF {prog : Program} {w : World} {A : Around} {E : Value → Shared → Prop} {env : Env} {s : Shared} {x c : Sem Value} {Q : Flow → Shared → Prop} {x1 : Addr}
    (h : wpAny (model prog w) A x (fun v s₁ => (∀ Q' : Value → Shared → Prop, Q' (.ref x1) s₁ → wpAny (model prog w) A c Q' E s₁) ∧ ∃ a oe vs cls o1 vs1 cls1, v = .ref a ∧ s₁.heap.get? a = some oe ∧ oe.cls = cls ∧ oe.data = .fields vs ∧ vs[1]? = some .none ∧ 4 < vs.size ∧ x1 ≠ a ∧ HotAt A x1 s₁.heap ∧
      s₁.heap.get? x1 = some o1 ∧ o1.cls = cls1 ∧ o1.data = .fields vs1 ∧ PySem.W.Looks (model prog w) s₁.heap (isSubtype cls1 (.type "BaseException")) true ∧
      PySem.W.Looks (model prog w) s₁.heap (isSubtype cls (.type "BaseException")) true ∧ PySem.W.Looks (model prog w) (causeFrom s₁.heap a (.ref x1)) (typeOf cls) (.type "type") ∧
      E (.ref a) { s₁ with heap := (causeFrom s₁.heap a (.ref x1)).update a (Obj.mapFields (·.setIfInBounds 2 (.ref x1))) }) E s) :
    wpAny (model prog w) A (raiseStmt env (some x) (some c)) Q E s := by
  unfold raiseStmt
  dsimp only
  refine wpAny_bind (wpAny_mono h (fun v s₁ h₁ => ?_) fun _ _ x => x)
  obtain ⟨hcs, a, oe, vs, cls, o1, vs1, cls1, rfl, ha, hcls, hd, h1, hi, hne, hot, ho1, hc1, hd1, L11, L1, L3, hE⟩ := h₁
  have LT : PySem.W.Looks (model prog w) s₁.heap (typeOf (.ref a)) cls := fun A Q E s k q => wpAny_typeOf_ref (k _ _ ha) (by rw [hcls]; exact q)
  have LI : PySem.W.Looks (model prog w) s₁.heap (isInstance (.ref a) (.type "BaseException")) true := LT.andThen L1
  have LT1 : PySem.W.Looks (model prog w) s₁.heap (typeOf (.ref x1)) cls1 := fun A Q E s k q => wpAny_typeOf_ref (k _ _ ho1) (by rw [hc1]; exact q)
  have LI1 : PySem.W.Looks (model prog w) s₁.heap (isInstance (.ref x1) (.type "BaseException")) true := LT1.andThen L11
  have hnt : ∀ {Q' : Bool → Shared → Prop}, Q' false s₁ → wpAny (model prog w) A (isType (.ref a)) Q' E s₁ := by
    intro Q' hq
    simp only [isType, loadHead]
    refine wpAny_bind (wpAny_loadPart ha ?_)
    rw [hd]; exact wpAny_pure hq
  have hnt1 : ∀ {Q' : Bool → Shared → Prop}, Q' false s₁ → wpAny (model prog w) A (isType (.ref x1)) Q' E s₁ := by
    intro Q' hq
    simp only [isType, loadHead]
    refine wpAny_bind (wpAny_loadPart ho1 ?_)
    rw [hd1]; exact wpAny_pure hq
  have hd3 := Obj.data_mapFields hd (·.setIfInBounds 3 (.ref x1))
  have ha3 := Heap.get?_update_self (Obj.mapFields (·.setIfInBounds 3 (.ref x1))) ha (Obj.isFreed_of_fields hd3)
  obtain ⟨ha4, hd4⟩ := causeFrom_at (c := .ref x1) ha hd
  have s3 : 3 < vs.size := by omega
  have s4 : 4 < (vs.setIfInBounds 3 (Value.ref x1)).size := by rw [set_size]; exact hi
  have s2 : 2 < ((vs.setIfInBounds 3 (Value.ref x1)).setIfInBounds 4 (Value.bool true)).size := by rw [set_size, set_size]; omega
  have h14 : ((vs.setIfInBounds 3 (Value.ref x1)).setIfInBounds 4 (Value.bool true))[1]? = some Value.none := set_other (by decide) (set_other (by decide) h1)
  have hcls4 : ((oe.mapFields (·.setIfInBounds 3 (.ref x1))).mapFields (·.setIfInBounds 4 (.bool true))).cls = cls := by rw [Obj.cls_mapFields, Obj.cls_mapFields]; exact hcls
  have LT4 : PySem.W.Looks (model prog w) (causeFrom s₁.heap a (.ref x1)) (typeOf (.ref a)) cls := fun A Q E s k q => wpAny_typeOf_ref (k _ _ ha4) (by rw [hcls4]; exact q)
  have hnt4 : ∀ {Q' : Bool → Shared → Prop}, Q' false { s₁ with heap := causeFrom s₁.heap a (.ref x1) } → wpAny (model prog w) A (isType (.ref a)) Q' E { s₁ with heap := causeFrom s₁.heap a (.ref x1) } := by
    intro Q' hq
    simp only [isType, loadHead]
    refine wpAny_bind (wpAny_loadPart ha4 ?_)
    rw [hd4]; exact wpAny_pure hq
  have hot4 : HotAt A x1 (causeFrom s₁.heap a (.ref x1)) := by
    obtain ⟨q1, o, vs', q2, q3, q4⟩ := hot
    exact ⟨q1, o, vs', by rw [causeFrom_other (Ne.symm hne)]; exact q2, q3, q4⟩
  have rest : wpAny (model prog w) A (do
      let b ← isType (.ref a)
      if b = true then do
        let e ← holding [.ref a] (raisedFor (.ref a) (.ref a))
        setFlight e none
        raiseNew e
      else do
        let e ← raisedInstance (.ref a)
        setFlight e none
        raiseNew e : Sem Flow) Q E { s₁ with heap := causeFrom s₁.heap a (.ref x1) } := by
    refine wpAny_bind (hnt4 ?_)
    simp only [Bool.false_eq_true, if_false]
    unfold raisedInstance
    refine wpAny_bind (wpAny_bind (LT4.here (wpAny_bind (L3.here ?_))))
    rw [if_pos (beq_self_eq_true _)]
    refine wpAny_pure ?_
    unfold setFlight
    refine wpAny_bind (wpAny_bind (wpAny_field ha4 hd4 h14 ?_))
    rw [if_neg (by decide)]
    refine wpAny_pure ?_
    exact raiseNew_hot hot4 hne ha4 hd4 s2 hE
  refine wpAny_bind (wpAny_holding (hcs _ (wpAny_bind (wpAny_pure ?_))))
  dsimp only
  refine wpAny_bind (wpAny_holding ?_)
  unfold excFromValue isExcClass
  refine wpAny_bind (wpAny_bind (hnt ?_))
  simp only [Bool.false_eq_true, if_false]
  refine wpAny_pure ?_
  simp only [Bool.false_eq_true, if_false]
  refine wpAny_bind (LI.here ?_)
  simp only [if_true]
  refine wpAny_pure ?_
  rw [if_neg (show ¬ ((Value.ref x1 == Value.none) = true) from by simp)]
  refine wpAny_bind (wpAny_holding ?_)
  refine wpAny_bind (wpAny_bind (hnt1 ?_))
  simp only [Bool.false_eq_true, if_false]
  refine wpAny_pure ?_
  simp only [Bool.false_eq_true, if_false]
  refine wpAny_bind (LI1.here ?_)
  simp only [if_true]
  refine wpAny_pure ?_
  refine wpAny_bind (wpAny_setField ha hd s3 (wpAny_bind (wpAny_setField ha3 hd3 s4 ?_)))
  exact rest
theorem ps_raiseHF {X : Cx} {W : WX} {e : Expr} {t : L2.St → Hp → XK → Prop} {i : Nat} {n : Str} {cpos pos : Pos} {x1 : Addr} {o1 : Obj} {vs1 : Array Value} {cls1 : Value} {d1 : Option Addr} (hpn : (x1, o1) ∈ X.pn) (hh : X.A.handled = some (.ref x1)) (hz1 : L2N.Zn cls1 d1 o1) (hf1 : o1.data = .fields vs1) (R1 : Raises X cls1)
    (hN : X.N[i]? = some n) (hln : X.env.kindOf n = some .local) (tk : L2.Takes X W) (he : PMk5 X e t) (hdb : (n == ("__debug__" : Str)) = false := by decide) :
    PS X (.Raise (some e) (some (.Name n cpos)) pos) (fun _ σ H => σ[i]? = some (some (.ref x1)) ∧ t σ H fun cls d H' => W cls d σ H') := by
  refine ⟨fun pins s σ H D I ⟨hσ, h⟩ => ?_⟩
  show wpAny _ _ (do standAt pos; raiseStmt X.env (some (do let v ← eval e X.env; standAt pos; pure v)) (some (do let v ← eval (.Name n cpos) X.env; standAt pos; pure v))) _ _ _
  refine wpAny_bind (wpAny_standAt (raise_made_hotF (x1 := x1) (wpAny_bind (wpAny_mono (he pins s σ H _ I h) (fun u s1 hu => wpAny_bind (wpAny_standAt (wpAny_pure ?_))) fun _ _ x => x))))
  obtain ⟨⟨a, oe, vs, sI, H', cls, d, rfl, J, k, hne, ha, hz, hd, h1, na, os, ag, r, q⟩, h5⟩ := hu
  have hi : 4 < vs.size := h5 a oe vs rfl ha hd
  have k4 : ∀ b u, sI.heap.get? b = some u → (causeFrom s1.heap a (.ref x1)).get? b = some u := fun b u z => by
    have nab : a ≠ b := fun y => by
      rw [← y, hne] at z
      cases z
    rw [causeFrom_other nab]
    exact k b u z
  obtain ⟨r1, _⟩ := r (model X.prog X.w) s1.heap (J.kIn.keeps k)
  obtain ⟨_, r2⟩ := r (model X.prog X.w) (causeFrom s1.heap a (.ref x1)) (J.kIn.keeps k4)
  obtain ⟨r11, _⟩ := R1 (model X.prog X.w) s1.heap (J.kIn.keeps k)
  have P1 := (J.pin (x1, o1) (List.mem_append_left _ hpn)).1
  have nap : x1 ≠ a := fun z => by
    rw [z, hne] at P1
    cases P1
  obtain ⟨ha4, hd4⟩ := causeFrom_at (c := .ref x1) ha hd
  have h12 : (((vs.setIfInBounds 3 (Value.ref x1)).setIfInBounds 4 (Value.bool true)).setIfInBounds 2 (Value.ref x1))[1]? = some Value.none := set_other (by decide) (set_other (by decide) (set_other (by decide) h1))
  refine ⟨fun Q' hq => ?_, a, oe, vs, cls, o1, vs1, cls1, rfl, ha, hz.1, hd, h1, hi, nap, ⟨hh, o1, vs1, k _ _ P1, hf1, hz1.2.2 vs1 hf1⟩, k _ _ P1, hz1.1, hf1, r11, r1, r2, tk _ _ (L2.XE.new J (fun b u z => ?_) hne (Heap.get?_update_self _ ha4 (Obj.isFreed_of_fields (Obj.data_mapFields hd4 _)))
    ⟨by rw [Obj.cls_mapFields, Obj.cls_mapFields, Obj.cls_mapFields]; exact hz.1, by rw [HandSPX.dict_mapFields, HandSPX.dict_mapFields, HandSPX.dict_mapFields]; exact hz.2.1⟩ (Obj.data_mapFields hd4 _) h12 na os ag q)⟩
  · obtain ⟨m, hn, hl⟩ := J.loc
    obtain ⟨u, ru, l⟩ := hl i n (.ref x1) hN hσ (.inl hln)
    cases ru
    obtain ⟨o, es, ep, ho, hrest⟩ := hn
    have hn1 : s1.heap.Ns X.env.locals m := ⟨o, es, ep, k _ _ ho, hrest⟩
    rcases l with ⟨hk, hm⟩ | ⟨hk, _⟩
    · exact wpAny_bind (wpAny_Name (wpAny_loadName_local I.ok.kind hk hn1 hm (wpAny_bind (wpAny_standAt (wpAny_pure hq)))) hdb)
    · rcases hk with hk | hk
      · rw [hln] at hk; cases hk
      · rw [hln] at hk; cases hk
  have nab : a ≠ b := fun y => by
    rw [← y, hne] at z
    cases z
  show ((causeFrom s1.heap a (.ref x1)).update a (Obj.mapFields (·.setIfInBounds 2 (.ref x1)))).get? b = some u
  rw [Heap.get?_update_other _ _ nab]
  exact k4 b u z
theorem err_okH {P : Program} {w : World} {K : PySem.W.Frag} {mg : Str → Option Value} {base : Heap} {CX : CXT} {N : List Str} {x qual self par fld m : Str} {params : Arguments} {body : List Stmt} {scope : Scope} {C f cc cda : Addr} {file : Str} {fd : FuncData} {ar : Arg} {j k : Nat} {p0 p1 p2 p3 p4 p5 p6 p7 p8 p9 : Pos}
    (D : ErrD K x qual params body scope C f cc cda file fd) (T : ErrC K C) (hfld : PySem.W.findIn K (.ref C) fld = some none) (S : NdefX.NScope N [self, par] ["__class__"] scope)
    (hbody : body = [.Expr (.Call (.Attribute (.Call (.Name "super" p0) [] [] p1) "__init__" p2) [.Constant (.str m) j p3] [] p4) p5, .Assign [.Attribute (.Name self p6) fld p7] (.Name par p8) p9])
    (hp : (params.posonlyargs ++ params.args).head? = some ar) (har : ar.arg = self) (hN0 : N[0]? = some self) (hN1 : N[1]? = some par)
    (hfile : ((P.main.file : Str) == file) = true) (hm : mg "super" = none) (htop : (P.main.scope.names.lookup ("super" : Str)).isSome = false) (hks : scope.names.lookup ("super" : Str) = some .globalImplicit)
    (hi : ∀ L, interactive (PySem.W.envX qual scope L f (.ref cda) [(("__class__" : Str), cc)]) = false)
    (hsw : ∀ L, swapsWith (.Call (.Attribute (.Call (.Name "super" p0) [] [] p1) "__init__" p2) [.Constant (.str m) j p3] [] p4) none p5.line (PySem.W.envX qual scope L f (.ref cda) [(("__class__" : Str), cc)]) = pure false)
    (hsw2 : ∀ L, swapsWith (.Name par p8) (some (.Attribute (.Name self p6) fld p7)) p9.line (PySem.W.envX qual scope L f (.ref cda) [(("__class__" : Str), cc)]) = pure false)
    (he : ∀ L, ∃ pl, eval (.Call (.Attribute (.Call (.Name "super" p0) [] [] p1) "__init__" p2) [.Constant (.str m) j p3] [] p4) (PySem.W.envX qual scope L f (.ref cda) [(("__class__" : Str), cc)]) = (do
      let ov ← attributeBase (.Call (.Name "super" p0) [] [] p1) "__init__" (PySem.W.envX qual scope L f (.ref cda) [(("__class__" : Str), cc)]) (eval (.Call (.Name "super" p0) [] [] p1) (PySem.W.envX qual scope L f (.ref cda) [(("__class__" : Str), cc)]))
      standAt p2.atName
      let (f2, first) ← holding [ov] (getMethod ov "__init__" pl)
      callWith p4 f2 first (backTo p4 (starEach [.Constant (.str m) j p3] (PySem.W.envX qual scope L f (.ref cda) [(("__class__" : Str), cc)]))) []))
    (d1 : (self == ("__debug__" : Str)) = false) (d2 : (self == ("__classdict__" : Str)) = false) (d3 : (par == ("__debug__" : Str)) = false) (d4 : (par == ("__classdict__" : Str)) = false) :
    FnH P w K mg base CX (k + 1) f fd [self, par] (spErr C fld) := by
  have hself : scope.names.lookup self = some .local := S.par self (by simp)
  have hpar : scope.names.lookup par = some .local := S.par par (by simp)
  have hfr : scope.names.lookup ("__class__" : Str) = some .free := S.frk _ (by simp)
  refine ⟨fun vs H Q E ⟨a, u, e, _⟩ => by rw [e]; rfl, fun A outer s H args us vs Q E p hr hot hpin e0 hb r hsp => ?_⟩
  obtain ⟨a, u, rfl, ea, hq⟩ := hsp
  obtain ⟨oc, od, kV, doc, pm, an, ct, osl, rfl, lk⟩ := D.ex
  obtain ⟨cl, cld, csl, hcell⟩ := D.cell
  have KX : K.In s.heap := e0.mod.kin.keeps fun b o e => (e0.bs b o e).1
  have lim : s.heap.NoLimit := e0.mod.nolimit.keeps fun b o e => (e0.bs b o e).1
  refine codeAny_call_function hr.depth (KX _ _ lk) rfl S.co S.gen rfl (PySem.W.codeRec_of KX D.crec) (hb _ _ _ _ ?_)
  refine wpAny_newFunctionEnv S.nocell (fun ⟨n, _⟩ hy => S.par n (List.of_mem_zip hy).1) (fun h₁ hns hsb => ⟨lim.fresh _ hsb, ?_⟩) S.kind
  have kp : ∀ b o, s.heap.get? b = some o → h₁.get? b = some o := fun b o e => hsb.extBut b o (Nat.ne_of_lt (Heap.lt_size e)) (Heap.get?_push_of_some _ e)
  have CA : NdefX.CellsAt [(("__class__" : Str), cc)] ["__class__"] [none] s.heap H := by
    have key : ∀ {y : Str} {c : Addr}, List.lookup y [(("__class__" : Str), cc)] = some c → y = "__class__" ∧ c = cc := fun {y c} e => by
      rw [List.lookup_cons] at e
      cases q : (y == ("__class__" : Str)) with
      | true => rw [q] at e; cases e; exact ⟨beq_iff_eq.mp q, rfl⟩
      | false => rw [q] at e; cases e
    refine ⟨rfl, fun y c e => ?_, fun y z c e1 e2 => by rw [(key e1).1, (key e2).1], fun i y e => ?_⟩
    · obtain ⟨rfl, rfl⟩ := key e
      exact ⟨(e0.bs _ _ (e0.mod.kin _ _ hcell)).2, _, _, KX _ _ hcell, rfl⟩
    · cases i with
      | zero =>
        cases e
        exact ⟨cc, rfl, fun v e => by cases e⟩
      | succ i => cases e
  let F : NdefX.NF := ⟨x, qual, params, body, scope, [("__class__", cc)], cda⟩
  have I : Inv (NdefX.ncxH CX P w K mg base N F f A outer s H E p) [] (NdefX.startF N [.ref a, u] [none]) H { s with heap := h₁, toks := s.toks + ([self, par].zip us).length } := NdefX.inv_startNH (F := F) S hpin e0 rfl r CA hns kp
  show codeAny _ _ (.func body (NdefX.envF F f s.heap.objs.size)) _ _
  refine PySem.ks_codeAny_funcAt ?_
  subst hbody
  obtain ⟨pl, he⟩ := he s.heap.objs.size
  refine PySem.ks_wpAt_execs_cons (err_super (X := NdefX.ncxH CX P w K mg base N F f A outer s H E p) (F := F) D T rfl I ea hp (by rw [har]; exact hN0) rfl hfile hm htop hks hfr (by rw [har]; exact hself) (pl := pl) (fun s1 I1 => ?_) (hi _) (hsw _) he)
  refine wpAt_of_wpAny ?_
  have P1 : PSs (NdefX.ncxH CX P w K mg base N F f A outer s H E p) [.Assign [.Attribute (.Name self p6) fld p7] (.Name par p8) p9] (tOst K fld (tVar 0) (tVar 1)) :=
    pss_one (ps_ost (pe_var hN0 (.inl hself) d1 d2) (pe_var hN1 (.inl hpar) d3 d4) (hsw2 _))
  have fin : ∀ {σ' : L2.St} {H' : Hp} {v : V} {u : Value} {s' : Shared}, Inv (NdefX.ncxH CX P w K mg base N F f A outer s H E p) [] σ' H' s' → L2.RelV v u → Q v H' → CE outer P w H s Q u s' :=
    fun {σ' H' v u s'} J rv q => ⟨v, H', J.os, J.bare, J.base, J.hok, rv, q⟩
  refine wpAny_mono (P1.run [] s1 _ H { nx := fun _ H' => Q .non H', rt := Q } I1 ?_) (fun fl s' hs => ?_) fun e s' hs => hs
  · refine ⟨u, rfl, .ref a, rfl, a, C, rfl, T.T, hfld, .inl ⟨ea, fun dx h1 h2 => hq dx h1 h2⟩⟩
  · cases fl with
    | ret u =>
      obtain ⟨v, σ', H', J, rv, q⟩ := hs
      exact fin J rv q
    | next =>
      obtain ⟨σ', H', J, q⟩ := hs
      exact fin (v := V.non) (u := Value.none) J rfl q
    | brk =>
      obtain ⟨_, _, _, q⟩ := hs
      exact False.elim q
    | cont =>
      obtain ⟨_, _, _, q⟩ := hs
      exact False.elim q
structure FnEH (P : Program) (w : World) (K : PySem.W.Frag) (mg : Str → Option Value) (base : Heap) (k : Nat) (C fld : Str) : Prop where
  ex : ∃ f fd ps, FnH P w K mg base (L2N.CX P w) k f fd ps (spErr (ga K C) fld) ∧ PySem.W.findIn K (.ref (ga K C)) "__init__" = some (some (.ref f)) ∧ PySem.W.typeIn K (.ref f) = some (.type "function") ∧ Binds K fd ps []
  T : OexC K (ga K C)
  g : mg C = some (.ref (ga K C))
theorem fnEH_of {P : Program} {w : World} {K : PySem.W.Frag} {mg : Str → Option Value} {base : Heap} {k : Nat} {x qual : Str} {params : Arguments} {body : List Stmt} {scope : Scope} {C fld : Str} {cc cda : Addr} {file : Str} {fd : FuncData} {ps : List Str}
    (D : ErrD K x qual params body scope (ga K C) (ma K (ga K C) "__init__") cc cda file fd) (F : FnH P w K mg base (L2N.CX P w) k (ma K (ga K C) "__init__") fd ps (spErr (ga K C) fld)) (c : errCB C fld K = true) (g : mg C = some (.ref (ga K C)))
    (hb : ∀ (kV doc pm : Value) (an : Option Addr) (ct : Value) (us : List Value), us.length = ps.length → bindArgs (PySem.W.fnX x qual params body scope [("__class__", cc)] .none kV doc pm an (.ref cda) ct) ⟨us, []⟩ = pure (ps.zip us)) : FnEH P w K mg base k C fld := by
  obtain ⟨c1, c2, c3, c4⟩ := errCB_ok c
  obtain ⟨oc, od, kV, doc, pm, an, ct, osl, rfl, lk⟩ := D.ex
  exact ⟨⟨_, _, ps, F, c3, c4, Binds.all (hb kV doc pm an ct)⟩, c1.T, g⟩
def exsB (T : Str) (K : PySem.W.Frag) : Bool := decide (PySem.W.exmOne K (.ref (ga K T)) (.ref (ga K T)) = some true)
theorem exsB_ok {T : Str} {K : PySem.W.Frag} (h : exsB T K = true) : PySem.W.exmOne K (.ref (ga K T)) (.ref (ga K T)) = some true := of_decide_eq_true h
def suF (D0 : DEnds) (i : Nat) : DEnds := ⟨fun τ2 M2 => D0.nx (τ2.set i none) M2, D0.rt, fun τ2 M2 => D0.bk (τ2.set i none) M2, fun τ2 M2 => D0.ct (τ2.set i none) M2, fun x τ2 M2 => D0.xc x (τ2.set i none) M2⟩
def caF (T : Str) (i : Nat) (ts : DTS) (D0 : DEnds) (x : XD) (τ : DSt) (M : Mu) : Prop := x.cls = T ∧ x.fs ≠ [] ∧ ∀ a dd, M a = none → ts (suF D0 i) (τ.set i (some (.exc a dd x.cls (x.fs.map (·.1)) (x.fs.map (·.2))))) M
def dTryF (T : Str) (i : Nat) (tb ts : DTS) : DTS := fun D0 τ M => tb ⟨D0.nx, D0.rt, D0.bk, D0.ct, caF T i ts D0⟩ τ M
section
variable {X : Cx} {W : WX} {n T C fld : Str} {body : List Stmt} {np p0 p1 p2 p3 pos pos' : Pos} {tb : DTS} {te : DTE} {e : Expr} {k : Nat}
theorem ds_tryrf (i : Nat) (FT : PySem.W.exmOne X.K (.ref (ga X.K T)) (.ref (ga X.K T)) = some true) (RT : OexC X.K (ga X.K T)) (F : FnEH X.prog X.w X.K X.mg X.base k C fld) (G : Gd X W) (GX : L2.Takes X W) (hr : Room (k + 1) X.A) (hm : X.mg T = some (.ref (ga X.K T)))
    (hb : ∀ (W1 : WX) (pn : List (Addr × Obj)) (xe : Value → Shared → Prop), Gd (X.tr pn xe) W1 → DSs (X.tr pn xe) W1 body tb)
    (he : ∀ (a : Addr) (pn : List (Addr × Obj)) (xe : Value → Shared → Prop) (W1 : WX), DE ((suiteX X a pn).wish xe) W1 e te)
    (hs : X.stack = X.env :: X.outer := by rfl) (hf : X.env.frame = some X.env.locals := by rfl) (hi : X.N[i]? = some n := by rfl) (hln : X.env.kindOf n = some .local := by rfl) (hg : Gl X T := by rfl) (hgC : Gl X C := by rfl) (hd : (T == ("__debug__" : Str)) = false := by decide) (hdC : (C == ("__debug__" : Str)) = false := by decide) (hdn : (n == ("__debug__" : Str)) = false := by decide)
    (hst : ∀ a pn xe, starEach [e] ((suiteX X a pn).wish xe).env = (false, eval e ((suiteX X a pn).wish xe).env) :: starEach [] ((suiteX X a pn).wish xe).env := by intros; rfl) (hpl : (backTo p1 (starEach [] X.env)).any (·.1) = false := by rfl) :
    DS X W (.Try body [.ExceptHandler (some (.Name T np)) (some n) [.Raise (some (.Call (.Name C p0) [e] [] p1)) (some (.Name n p2)) p3] pos'] [] [] pos) (dTryF T i tb (dRaise C fld te)) := by
  obtain ⟨f, fd, ps, Fk, h_i, h_t, h_b⟩ := F.ex
  refine PS.of (ps_try_asX (Wout := W) (c := .ref (ga X.K T)) (i := i) (tb := fun W1 => lifS X.K W1 tb)
    (ts := fun a cls d D σ H => cls = .ref (ga X.K T) ∧ (i < σ.length → σ[i]? = some (some (.ref a))) ∧ tMkO (ga X.K C) (spErr (ga X.K C) fld) [] (lif X.K (fun cls d σ H => W cls d (σ.set i none) H) (RA X.K) (daCons te daNil)) σ H (fun cls2 d2 H2 => W cls2 d2 (σ.set i none) H2)) hs hf G.nd hi hln ⟨hg, hd, .inl hm⟩ GX
    (fun W1 pn xe tkN tkX hp => hb W1 pn xe ⟨G.calm, tkN, G.hu, hp, G.nd⟩) (fun a oe cls d pn xe hz ⟨vs1, hf1⟩ tkS hot => ⟨fun pins s σ H D I ⟨hc, hσ, h⟩ => ?_⟩)) fun D1 σ H ⟨τ, M, D0, S, h⟩ => ?_
  · subst hc
    have hlt : i < σ.length := by
      rw [I.len]
      exact (List.getElem?_eq_some_iff.mp hi).1
    exact (pss_one (ps_raiseHF (X := (suiteX X a ((a, oe) :: pn)).wish xe) (x1 := a) (o1 := oe) List.mem_cons_self rfl hz hf1 (raises_own RT.exC RT.tyC) hi hln tkS
      (pmk5_oexH (X := (suiteX X a ((a, oe) :: pn)).wish xe) F.T h_i h_t Fk (roomH_mark hr _) hot h_b (fun pins σ H s e s' I ⟨_, _, _, _, _, _, _, _, _, _, _, _, z⟩ => z.elim) hgC F.g (da_cons (he a ((a, oe) :: pn) xe _) da_nil (hs := hst a ((a, oe) :: pn) xe)) hdC (hst a ((a, oe) :: pn) xe) hpl) hdn)).run pins s σ H D I ⟨hσ hlt, h⟩
  · refine ⟨τ, M, ⟨D0.nx, D0.rt, D0.bk, D0.ct, caF T i (dRaise C fld te) D0⟩, ⟨S.rs, S.co, S.nx, S.rt, S.bk, S.ct, fun x τ' M' c d σ' H' h rx rs co st => ?_⟩, h⟩
    obtain ⟨hC, hne, h⟩ := (show caF T i (dRaise C fld te) D0 x τ' M' from h)
    obtain ⟨rfl, rx⟩ := rx
    cases d with
    | none => exact absurd rx hne
    | some dd =>
      obtain ⟨gs, g1, g2, g3, g4⟩ := rx
      refine ⟨true, by rw [hC]; exact FT, fun _ a ha => ⟨by rw [hC], fun hl => by rw [List.getElem?_set_self (by simpa using hl)], ?_⟩, fun z => by cases z⟩
      have h := h a dd (co.free ha)
      have S2 : SitS X.K (fun cls d σ H => W cls d (σ.set i none) H) (τ'.set i (some (.exc a dd x.cls (x.fs.map (·.1)) (x.fs.map (·.2))))) M' (σ'.set i (some (.ref a))) H' (suF D0 i)
          { nx := fun σ' H' => D1.nx (σ'.set i none) H', rt := D1.rt, bk := fun σ' H' => D1.bk (σ'.set i none) H', ct := fun σ' H' => D1.ct (σ'.set i none) H' } :=
        ⟨rs.set (show Rep X.K M' H' (.exc a dd x.cls (x.fs.map (·.1)) (x.fs.map (·.2))) (.ref a) from ⟨rfl, gs, g1, g2, g3, g4⟩) i, co, fun τ2 M2 σ2 H2 h2 r2 c2 s2 => S.nx _ M2 _ H2 h2 (r2.none i none) c2 (st.trans s2),
          fun d2 M2 v2 H2 h2 r2 c2 s2 => S.rt d2 M2 v2 H2 h2 r2 c2 (st.trans s2), fun τ2 M2 σ2 H2 h2 r2 c2 s2 => S.bk _ M2 _ H2 h2 (r2.none i none) c2 (st.trans s2), fun τ2 M2 σ2 H2 h2 r2 c2 s2 => S.ct _ M2 _ H2 h2 (r2.none i none) c2 (st.trans s2),
          fun x2 τ2 M2 c2 d2 σ2 H2 h2 rx2 r2 c3 s2 => S.xc x2 _ M2 c2 d2 _ H2 h2 rx2 (r2.none i none) c3 (st.trans s2)⟩
      generalize τ'.set i (some (.exc a dd x.cls (x.fs.map (·.1)) (x.fs.map (·.2)))) = τ3 at h S2
      refine S2.sub (R1 := RA X.K) (t := daCons te daNil) (G := fun ds M1 => match ds with
        | [d] => (suF D0 i).xc ⟨C, [(fld, d)]⟩ τ3 M1
        | _ => False) h fun ds M1 vs H1 h1 r1 S1 s1 => ?_
      match ds, h1 with
      | [d], h1 =>
        obtain ⟨v, us, rfl, rv, rn⟩ := r1.uncons
        cases rn.unnil
        refine ⟨(by show (1 : Nat) ≤ 1000; decide), fun a2 ha2 => ⟨a2, v, rfl, upd_same, fun dx hdx hne => ⟨rfl, dx, [(fld, v)], upd_same, by rw [upd_ne hne, upd_same], by rw [upd_ne hne] at hdx; exact hdx, ?_⟩⟩⟩
        have hdx1 : H1 dx = none := by rw [upd_ne hne] at hdx; exact hdx
        have e1 : upd (L2.del (upd (upd (upd H1 a2 (exo a2 (ga X.K C) none)) dx (exd dx [(fld, v)])) a2 (exo a2 (ga X.K C) (some dx))) a2) dx (.xd [(fld, v)]) = upd H1 dx (.xd [(fld, v)]) := by
          funext b
          by_cases hb : b = dx
          · rw [hb, upd_same, upd_same]
          · rw [upd_ne hb, upd_ne hb]
            by_cases hba : b = a2
            · rw [hba, L2.del_same, ha2]
            · rw [L2.del_ne hba, upd_ne hba, upd_ne hb, upd_ne hba]
        rw [e1]
        have st2 : Stp M1 H1 M1 (upd H1 dx (.xd [(fld, v)])) := Stp.new hdx1
        exact S1.xc ⟨C, [(fld, d)]⟩ τ3 M1 _ _ _ _ h1 ⟨rfl, _, upd_same, S1.co.free hdx1, rfl, .cons (rv.stp st2) .nil⟩ (S1.rs.stp st2) (S1.co.new hdx1) st2
end
section
variable {T : Str} {i : Nat} {tb ts : DTS} {D0 : DEnds} {τ : DSt} {M : Mu} {C fld : Str} {d : D}
theorem u_tryf : dTryF T i tb ts D0 τ M = tb ⟨D0.nx, D0.rt, D0.bk, D0.ct, caF T i ts D0⟩ τ M := pq Iff.rfl
theorem u_caf : caF T i ts D0 ⟨C, [(fld, d)]⟩ τ M = (C = T ∧ ∀ a dd, M a = none → ts (suF D0 i) (τ.set i (some (.exc a dd C [fld] [d]))) M) := by
  show (C = T ∧ [(fld, d)] ≠ [] ∧ _) = _
  simp only [ne_eq, reduceCtorEq, not_false_eq_true, true_and]
  rfl
theorem suf_mk {nx : DSt → Mu → Prop} {rt : DK} {bk ct : DSt → Mu → Prop} {xc : XD → DSt → Mu → Prop} : suF ⟨nx, rt, bk, ct, xc⟩ i = ⟨fun τ2 M2 => nx (τ2.set i none) M2, rt, fun τ2 M2 => bk (τ2.set i none) M2, fun τ2 M2 => ct (τ2.set i none) M2, fun x τ2 M2 => xc x (τ2.set i none) M2⟩ := rfl
end
theorem takesN_of {X : Cx} {W : WX} (t : L2.Takes X W) : L2N.Takes X W := fun u s' ⟨a, B, sI, pins, σ, H, cls, d, e, I, nb, up, sky, r⟩ => by
  refine t u s' ⟨a, B, sI, pins, σ, H, cls, d, e, I, nb, up, ?_, r⟩
  rcases sky with ⟨h1, h2, h3, oe, vs, h4, h5, h6⟩ | fl | ⟨h1, h2, h3, z⟩
  · exact .inl ⟨h1, h2, h3, oe, vs, h4, h5.zc, h6⟩
  · exact .inr (.inl (flyingZ_imp (fun o z => z.zc) fl))
  · exact .inr (.inr ⟨h1, h2, h3, tracedZ_imp (fun o z => z.zc) z⟩)
theorem def_okX {P : Program} {w : World} {K : PySem.W.Frag} {mg : Str → Option Value} {base : Heap} {x qual : Str} {st : Stmt} {f : Addr} {fd : FuncData} {N ps : List Str} {k : Nat} {sp : DSp} {t : DTS}
    (F : FunD K x qual (defArgs st) (defBody st) (defScope st) [] [] f fd) (S : FnScope N ps (defScope st)) (len : ∀ ds M Q E, sp ds M Q E → ds.length = ps.length)
    (hd : ∀ (cdv : Value) (A : Around) (outer : List Env) (s : Shared) (H : Hp) (E : XK), Gd (cxOf (L2.CX P w) P w K mg base N qual (defScope st) f cdv A outer s H E) (fun c d _ H => E c d H) → L2.Takes (cxOf (L2.CX P w) P w K mg base N qual (defScope st) f cdv A outer s H E) (fun c d _ H => E c d H) →
      Room k (cxOf (L2.CX P w) P w K mg base N qual (defScope st) f cdv A outer s H E).A →
      DSs (cxOf (L2.CX P w) P w K mg base N qual (defScope st) f cdv A outer s H E) (fun c d _ H => E c d H) (defBody st) t)
    (hp : ∀ ds M Q E, sp ds M Q E → t { nx := fun _ M' => Q .non M', rt := Q, xc := fun x _ M' => E x M' } (ds.map some ++ List.replicate (N.length - ps.length) none) M) :
    FnOk P w K mg base (L2.CX P w) (k + 1) f fd ps (lsp K sp) := by
  refine F.ok S (fun vs H Q E h => ?_) (fun cdv A outer s H vs Q E hr h => ?_)
  · obtain ⟨ds, M, Q0, E0, r, c, h, _⟩ := h
    rw [r.length]
    exact len ds M Q0 E0 h
  · obtain ⟨ds, M, Q0, E0, r, c, h, hq, he⟩ := h
    have hl := len ds M Q0 E0 h
    have tk : L2.Takes (cxOf (L2.CX P w) P w K mg base N qual (defScope st) f cdv A outer s H E) (fun c d _ H => E c d H) := L2.takes_of rfl rfl rfl rfl
    refine ⟨lifS K (fun c d _ H => E c d H) t, ?_, ?_⟩
    · refine hd cdv A outer s H E ?_ tk hr
      exact ⟨rfl, takesN_of tk, by have := hr.un; show A.units + 3 + 64 < cLine; have e : (A.deeper (PyProof.Rows.envOfC qual (defScope st) s.heap.objs.size f cdv)).units = A.units + 3 := rfl; omega, passes_of rfl, S.nd⟩
    · refine ⟨_, M, { nx := fun _ M' => Q0 .non M', rt := Q0, xc := fun x _ M' => E0 x M' }, ⟨?_, c, fun τ' M' σ' H' h r c' s' => hq .non M' .non H' h rfl c' s', hq, fun _ _ _ _ h => h.elim, fun _ _ _ _ h => h.elim, fun x τ' M' c d σ' H' h r _ c' s' => he x M' c d H' h r c' s'⟩, hp ds M Q0 E0 h⟩
      unfold L2.start
      rw [r.length, hl]
      exact RepS.start _ r
structure FnMX (P : Program) (w : World) (K : PySem.W.Frag) (mg : Str → Option Value) (base : Heap) (k : Nat) (x : Str) (sp : DSp) : Prop where
  ex : ∃ f fd ps, FnOk P w K mg base (L2.CX P w) k f fd ps (lsp K sp) ∧ mg x = some (.ref f) ∧ PySem.W.keepIn K (.ref f) = true ∧ Binds K fd ps []
structure FnKX (P : Program) (w : World) (K : PySem.W.Frag) (mg : Str → Option Value) (base : Heap) (k : Nat) (C m : Str) (sp : DSp) : Prop where
  met : ClX.CMet K (ga K C) (.type "type") m (ma K (ga K C) m) (He5.wf K (ga K C) "classmethod" m)
  run : FnR P w K mg base (L2.CX P w) k (He5.wf K (ga K C) "classmethod" m) (lsp K sp)
theorem FnMX.of {P : Program} {w : World} {K : PySem.W.Frag} {mg : Str → Option Value} {base : Heap} {k : Nat} {x : Str} {f : Addr} {fd : FuncData} {ps : List Str} {sp : DSp} (F : FnOk P w K mg base (L2.CX P w) k f fd ps (lsp K sp)) (hm : mg x = some (.ref f))
    (hk : PySem.W.keepIn K (.ref f) = true) (hb : Binds K fd ps []) : FnMX P w K mg base k x sp := ⟨f, fd, ps, F, hm, hk, hb⟩
section
variable {X : Cx} {W : WX} {e : Expr} {es : List Expr} {tl : DTA} {k : Nat} {sp : DSp} {C m : Str} {p pos apos : Pos}
theorem run_cmX {pins : List (Addr × Obj)} {σ : L2.St} {H : Hp} {s : Shared} {Q : VK} {us : List Value} {vs : List V} {Ca g q : Addr} {spv : Sp} (F : FnR X.prog X.w X.K X.mg X.base (L2.CX X.prog X.w) k g spv) (tk : L2.Takes X W) (hr : Room k X.A)
    (I : Inv X ((q, PySem.W.methodObj (.ref g) (.ref Ca)) :: pins) σ H s) (r : Vals vs us) (h : spv (.ref Ca :: vs) H Q (WE W σ)) : wpAny (model X.prog X.w) X.A (call (.ref q) us) (EP X pins σ Q) X.xe s := by
  have z : wpAny (model X.prog X.w) X.A (call (.ref q) us) (EP X ((q, PySem.W.methodObj (.ref g) (.ref Ca)) :: pins) σ Q) X.xe s :=
    wpAny_call (PySem.W.method_call (ClX.pin_at I) (codeAny_mono (F X.A X.stack s H (.ref Ca :: us) (.ref Ca :: vs) Q (WE W σ) hr I.env0 (.cons rfl r) h) fun r s' hq => by
      cases r with
      | error e => exact L2.passAt tk σ _ H s e s' I hq
      | ok fl =>
        cases fl with
        | ret u => exact I.after hq
        | next => exact False.elim hq
        | brk => exact False.elim hq
        | cont => exact False.elim hq))
  exact thn z fun _ _ y => ClX.unpinE y
theorem de_cmethX {pl : Sem Bool} (F : FnKX X.prog X.w X.K X.mg X.base k C m sp) (r : ClX.CRead X.K (ga X.K C) (.type "type")) (G : L2.Takes X W) (hr : Room k X.A) (hm : X.mg C = some (.ref (ga X.K C))) (ha : DA X W (e :: es) tl) (hg : Gl X C := by rfl) (hdb : (C == ("__debug__" : Str)) = false := by decide)
    (hst : starEach (e :: es) X.env = (false, eval e X.env) :: starEach es X.env := by rfl) (hpl : (backTo pos (starEach es X.env)).any (·.1) = false := by rfl)
    (ht : eval (.Call (.Attribute (.Name C p) m apos) (e :: es) [] pos) X.env = (do
      let ov ← eval (.Name C p) X.env
      standAt apos.atName
      let (f, first) ← holding [ov] (getMethod ov m pl)
      callWith pos f first (backTo pos (starEach (e :: es) X.env)) (backToKw pos (keywordEach [] X.env))) := by rfl) : DE X W (.Call (.Attribute (.Name C p) m apos) (e :: es) [] pos) (dCM C sp tl) := by
  refine ⟨fun pins s σ H Q I h => ?_⟩
  obtain ⟨τ, M, Q0, E0, S, h⟩ := h
  refine PySem.W.methodCall_KW (pl := pl) (ld_glob I hg hm ?_ hdb) ht
  refine ClX.getmethcm_ok I r F.met fun s1 I1 => ?_
  refine ClX.callwith_cm I1 (ClX.base_none I (Nat.le_refl _)) F.met.fi (thn (ha.run pos _ s1 σ H _ I1 (S.sub (Q1 := fun vs H2 => lsp X.K sp (V.ref (ga X.K C) :: vs) H2 Q (WE W σ)) h fun ds M2 vs H2 h4 r4 S4 s4 =>
    S4.call (.cons (d := .cl C) rfl r4) h4 fun d M5 z H5 h5 r5 S5 s5 => S5.end_ h5 r5)) fun us s2 ⟨vs, H2, I2, rv, q2⟩ => ⟨⟨ClX.pin_at I2, I2.kIn⟩, ?_⟩) hst hpl
  exact run_cmX F.run G hr I2 rv q2
theorem ds_tryasL {n : Str} {body suite : List Stmt} {b₀ : Stmt} {np pos pos' : Pos} {tb : DTS} {ts : Addr → Addr → Str → DTS} {Es Ts : List Str} (i : Nat) (T : ErrT X.K Es Ts) (G : Gd X W) (hm : X.mg "LentError" = some (.ref (ga X.K "LentError")))
    (hb : ∀ (W1 : WX) (pn : List (Addr × Obj)) (xe : Value → Shared → Prop), Gd (X.tr pn xe) W1 → L2.Takes (X.tr pn xe) W1 → DSs (X.tr pn xe) W1 body tb)
    (hsu : ∀ (a dd : Addr) (C : Str) (oe : Obj) (pn : List (Addr × Obj)), C ∈ Es → L2.Zc (.ref (ga X.K C)) (some dd) oe → (∃ vs, oe.data = .fields vs) → DSs (X.suite a ((a, oe) :: pn)) (fun _ _ _ _ => False) (b₀ :: suite) (ts a dd C))
    (hs : X.stack = X.env :: X.outer := by rfl) (hf : X.env.frame = some X.env.locals := by rfl) (hi : X.N[i]? = some n := by rfl) (hln : X.env.kindOf n = some .local := by rfl) (hg : Gl X "LentError" := by rfl) :
    DS X W (.Try body [.ExceptHandler (some (.Name "LentError" np)) (some n) (b₀ :: suite) pos'] [] [] pos) (dTryAs Es i tb ts) := by
  refine PS.of (L2.ps_try_as (Wout := fun _ _ _ _ => False) (c := .ref (ga X.K "LentError")) (tb := fun W1 => lifS X.K W1 tb)
    (ts := fun a cls d D σ H => ∃ C dd, C ∈ Es ∧ cls = .ref (ga X.K C) ∧ d = some dd ∧ lifS X.K (fun _ _ _ _ => False) (ts a dd C) D σ H) hs hf G.nd hi hln ⟨hg, by decide, .inl hm⟩ takes_none5
    (fun W1 pn xe tk hp => hb W1 pn xe ⟨G.calm, takesN_of tk, G.hu, hp, G.nd⟩ tk) (fun a oe cls d pn hz hf => ⟨fun pins s σ H D I h => ?_⟩)) fun D1 σ H ⟨τ, M, D0, S, h⟩ => ?_
  · obtain ⟨C, dd, hC, rfl, rfl, h⟩ := h
    exact (hsu a dd C oe pn hC hz hf).run pins s σ H D I h
  · refine ⟨τ, M, ⟨D0.nx, D0.rt, D0.bk, D0.ct, caE Es i ts D0⟩, ⟨S.rs, S.co, S.nx, S.rt, S.bk, S.ct, fun x τ' M' c d σ' H' h rx rs co st => ?_⟩, h⟩
    obtain ⟨hC, hne, h⟩ := (show caE Es i ts D0 x τ' M' from h)
    obtain ⟨rfl, rx⟩ := rx
    cases d with
    | none => exact absurd rx hne
    | some dd =>
      obtain ⟨gs, g1, g2, g3, g4⟩ := rx
      refine ⟨true, T.exm _ hC, fun _ a ha => ⟨x.cls, dd, hC, rfl, rfl, ?_⟩, fun z => by cases z⟩
      refine ⟨τ'.set i (some (.exc a dd x.cls (x.fs.map (·.1)) (x.fs.map (·.2)))), M', suE D0 i, ⟨rs.set (show Rep X.K M' H' (.exc a dd x.cls (x.fs.map (·.1)) (x.fs.map (·.2))) (.ref a) from ⟨rfl, gs, g1, g2, g3, g4⟩) i, co, ?_, ?_, ?_, ?_, fun _ _ _ _ _ _ _ z => z.elim⟩, h a dd (co.free ha)⟩
      · exact fun τ2 M2 σ2 H2 h2 r2 c2 s2 => S.nx _ M2 _ H2 h2 (r2.none i none) c2 (st.trans s2)
      · exact fun d2 M2 v2 H2 h2 r2 c2 s2 => S.rt d2 M2 v2 H2 h2 r2 c2 (st.trans s2)
      · exact fun τ2 M2 σ2 H2 h2 r2 c2 s2 => S.bk _ M2 _ H2 h2 (r2.none i none) c2 (st.trans s2)
      · exact fun τ2 M2 σ2 H2 h2 r2 c2 s2 => S.ct _ M2 _ H2 h2 (r2.none i none) c2 (st.trans s2)
end
end DL
namespace DL
open PySem L2
def gRepL : DOp := fun x y M Q => match x, y with
  | .lst ds, .int k => -(2 ^ 63) ≤ k ∧ k < 2 ^ 63 ∧ ds.length * k.toNat ≤ 16777216 ∧ Q (.lst (List.replicate k.toNat ds).flatten) M
  | _, _ => False
theorem reps_rep {K : PySem.W.Frag} {M : Mu} {H : Hp} {ds : List D} {vs : List V} (r : Reps K M H ds vs) : ∀ n, Reps K M H (List.replicate n ds).flatten (List.replicate n vs).flatten
  | 0 => .nil
  | n + 1 => by
    rw [List.replicate_succ, List.replicate_succ, List.flatten_cons, List.flatten_cons]
    exact r.append (reps_rep r n)
theorem od_rep {K : PySem.W.Frag} : OpD K gRepL rRep := fun M H x y v u Q0 Q c rx ry h q => by
  cases x with
  | lst ds =>
    cases y with
    | int k =>
      obtain ⟨a, vs, rfl, ha, ma, ra⟩ := rep_of_lst rx
      cases ry
      exact ⟨a, k, vs, rfl, rfl, ha, h.1, h.2.1, by rw [ra.length, line24]; exact h.2.2.1, new_lst c (reps_rep ra _) h.2.2.2 q⟩
    | _ => exact h.elim
  | _ => exact h.elim
theorem repL_l {ds : List D} {k : Int} {M : Mu} {Q : DK} : opK (K := Q) ⟨⟩ gRepL (.lst ds) (.int k) M = (-(2 ^ 63) ≤ k ∧ k < 2 ^ 63 ∧ ds.length * k.toNat ≤ 16777216 ∧ Q (.lst (List.replicate k.toNat ds).flatten) M) := pq Iff.rfl
end DL
namespace Lw
open PySem L2 DL
def top (i : Nat) : Stmt := PySem.Challenge.pw_lentahead_k13_rules_read_from_lines.main.body.getD i (.Pass ⟨0, 0, 0, 0⟩)
def clsBody : Stmt → List Stmt
  | .ClassDef _ _ _ b _ _ _ _ _ _ _ => b
  | _ => []
def mth (i j : Nat) : Stmt := (clsBody (top i)).getD j (.Pass ⟨0, 0, 0, 0⟩)
abbrev s_l_begin : Stmt := top 40
abbrev s_l_draw : Stmt := top 41
abbrev s_l_pick : Stmt := top 42
abbrev s_l_sign : Stmt := top 51
abbrev s_l_spoilt : Stmt := top 52
abbrev s_l_words : Stmt := top 49
abbrev s_l_standings : Stmt := top 45
abbrev s_l_deeds : Stmt := top 46
abbrev s_l_relations : Stmt := top 47
abbrev s_l_pattern : Stmt := top 50
abbrev s_written_entries : Stmt := top 25
abbrev s_all_entries : Stmt := top 24
abbrev s_InvalidEntry_init : Stmt := mth 5 0
abbrev s_words_of : Stmt := top 26
abbrev s_expand : Stmt := top 27
abbrev s_gathered_entries : Stmt := top 32
abbrev s_Rule_init : Stmt := mth 38 1
abbrev s_InvalidRule_init : Stmt := mth 6 0
abbrev s_Rule_len : Stmt := mth 38 8
abbrev s_Rule_iter : Stmt := mth 38 9
abbrev s_entries_of : Stmt := top 36
abbrev s_in_order : Stmt := top 31
abbrev s_with_both : Stmt := top 33
abbrev s_Rule_ior : Stmt := mth 38 23
abbrev s_Rule_read : Stmt := mth 38 2
abbrev s_l_told : Stmt := top 55
abbrev s_l_is_pattern : Stmt := top 53
abbrev s_l_same_row : Stmt := top 43
abbrev s_l_same : Stmt := top 44
abbrev s_l_entries : Stmt := top 48
abbrev s_l_matched : Stmt := top 54
abbrev s_l_judged : Stmt := top 56
abbrev s_law : Stmt := top 57
def fn : List He.DefD := [⟨("_law_begin", none), "_law_begin", "_law_begin", defArgs (top 40), defBody (top 40), defScope (top 40), [], []⟩,
  ⟨("_law_draw", none), "_law_draw", "_law_draw", defArgs (top 41), defBody (top 41), defScope (top 41), [], []⟩,
  ⟨("_law_pick", none), "_law_pick", "_law_pick", defArgs (top 42), defBody (top 42), defScope (top 42), [], []⟩,
  ⟨("_law_sign", none), "_law_sign", "_law_sign", defArgs (top 51), defBody (top 51), defScope (top 51), [], []⟩,
  ⟨("_law_spoilt", none), "_law_spoilt", "_law_spoilt", defArgs (top 52), defBody (top 52), defScope (top 52), [], []⟩,
  ⟨("_law_words", none), "_law_words", "_law_words", defArgs (top 49), defBody (top 49), defScope (top 49), [], []⟩,
  ⟨("_law_standings", none), "_law_standings", "_law_standings", defArgs (top 45), defBody (top 45), defScope (top 45), [], []⟩,
  ⟨("_law_deeds", none), "_law_deeds", "_law_deeds", defArgs (top 46), defBody (top 46), defScope (top 46), [], []⟩,
  ⟨("_law_relations", none), "_law_relations", "_law_relations", defArgs (top 47), defBody (top 47), defScope (top 47), [], []⟩,
  ⟨("_law_pattern", none), "_law_pattern", "_law_pattern", defArgs (top 50), defBody (top 50), defScope (top 50), [], []⟩,
  ⟨("written_entries", none), "written_entries", "written_entries", defArgs (top 25), defBody (top 25), defScope (top 25), [], []⟩,
  ⟨("all_entries", none), "all_entries", "all_entries", defArgs (top 24), defBody (top 24), defScope (top 24), [], []⟩,
  ⟨("words_of", none), "words_of", "words_of", defArgs (top 26), defBody (top 26), defScope (top 26), [], []⟩,
  ⟨("expand", none), "expand", "expand", defArgs (top 27), defBody (top 27), defScope (top 27), [], []⟩,
  ⟨("gathered_entries", none), "gathered_entries", "gathered_entries", defArgs (top 32), defBody (top 32), defScope (top 32), [], []⟩,
  ⟨("Rule", some "__init__"), "__init__", "Rule.__init__", defArgs (mth 38 1), defBody (mth 38 1), defScope (mth 38 1), [], []⟩,
  ⟨("Rule", some "__len__"), "__len__", "Rule.__len__", defArgs (mth 38 8), defBody (mth 38 8), defScope (mth 38 8), [], []⟩,
  ⟨("Rule", some "__iter__"), "__iter__", "Rule.__iter__", defArgs (mth 38 9), defBody (mth 38 9), defScope (mth 38 9), [], []⟩,
  ⟨("entries_of", none), "entries_of", "entries_of", defArgs (top 36), defBody (top 36), defScope (top 36), [], []⟩,
  ⟨("in_order", none), "in_order", "in_order", defArgs (top 31), defBody (top 31), defScope (top 31), [], []⟩,
  ⟨("with_both", none), "with_both", "with_both", defArgs (top 33), defBody (top 33), defScope (top 33), [], []⟩,
  ⟨("Rule", some "__ior__"), "__ior__", "Rule.__ior__", defArgs (mth 38 23), defBody (mth 38 23), defScope (mth 38 23), [], []⟩,
  ⟨("_law_told", none), "_law_told", "_law_told", defArgs (top 55), defBody (top 55), defScope (top 55), [], []⟩,
  ⟨("_law_is_pattern", none), "_law_is_pattern", "_law_is_pattern", defArgs (top 53), defBody (top 53), defScope (top 53), [], []⟩,
  ⟨("_law_same_row", none), "_law_same_row", "_law_same_row", defArgs (top 43), defBody (top 43), defScope (top 43), [], []⟩,
  ⟨("_law_same", none), "_law_same", "_law_same", defArgs (top 44), defBody (top 44), defScope (top 44), [], []⟩,
  ⟨("_law_entries", none), "_law_entries", "_law_entries", defArgs (top 48), defBody (top 48), defScope (top 48), [], []⟩,
  ⟨("_law_matched", none), "_law_matched", "_law_matched", defArgs (top 54), defBody (top 54), defScope (top 54), [], []⟩,
  ⟨("_law_judged", none), "_law_judged", "_law_judged", defArgs (top 56), defBody (top 56), defScope (top 56), [], []⟩,
  ⟨("law", none), "law", "law", defArgs (top 57), defBody (top 57), defScope (top 57), [], []⟩]
def fx : List He5.DefA := [⟨fun K => He5.wf K (He.ga K "Rule") "classmethod" "read", "read", "Rule.read", defArgs (mth 38 2), defBody (mth 38 2), defScope (mth 38 2), [], []⟩]
def fe : List DefE := [⟨"InvalidEntry", "InvalidEntry.__init__", defArgs (mth 5 0), defBody (mth 5 0), defScope (mth 5 0), PySem.Challenge.pw_lentahead_k13_rules_read_from_lines.main.file⟩,
  ⟨"InvalidRule", "InvalidRule.__init__", defArgs (mth 6 0), defBody (mth 6 0), defScope (mth 6 0), PySem.Challenge.pw_lentahead_k13_rules_read_from_lines.main.file⟩]
def gb : List (PySem.W.Frag → Bool) := [fun K => He5.wrapB K (He.ga K "Rule") "classmethod" "classmethod.__get__" "read",
  fun K => PySem.W.fnIn K (He5.wf K (He.ga K "Rule") "classmethod" "read"),
  DL.errCB "InvalidEntry" "text",
  DL.errCB "InvalidRule" "line",
  DL.tupF "DEEDS" ["see", "lend", "reserve", "mark", "fill", "pack", "work"],
  DL.tupF "RELATIONS" ["same", "over", "overbox", "under", "underbox"],
  DL.tupF "STANDINGS" ["look", "peek", "reserved"],
  DL.isCB "Rule",
  DL.readB "Rule",
  DL.errTB ["InvalidEntry", "InvalidRule"] ["InvalidPlace", "NotBeneath", "InvalidEntry", "InvalidRule", "InvalidPromise", "InvalidProgram", "InvalidName", "OverPower", "Stale", "NotSharing", "NotMendable", "Unsound", "TooMany", "LentError"],
  fun K => (["InvalidEntry", "InvalidRule"] : List Str).all fun C => He.eqO (PySem.W.findIn K (.ref (He.ga K C)) "line") (some none),
  fun K => PySem.W.selfFirst K (He.ga K "Rule"),
  DL.exsB "InvalidEntry"]
def ts : List He.Tab := []
def fa : List He.Fa := [.glo "_law_begin", .glo "_law_draw", .glo "_law_pick", .glo "_law_sign", .glo "_law_spoilt", .glo "_law_words", .glo "_law_standings", .glo "_law_deeds", .glo "_law_relations", .glo "_law_pattern", .glo "written_entries", .glo "all_entries", .glo "words_of", .glo "expand", .glo "gathered_entries", .meth "Rule" "__init__", .meth "Rule" "__len__", .meth "Rule" "__iter__", .glo "entries_of", .glo "in_order", .glo "with_both", .meth "Rule" "__ior__", .glo "_law_told", .glo "_law_is_pattern", .glo "_law_same_row", .glo "_law_same", .glo "_law_entries", .glo "_law_matched", .glo "_law_judged", .glo "law", .free "ValueError", .free "all", .free "bool", .free "enumerate", .free "int", .free "isinstance", .free "iter", .free "len", .free "list", .free "range", .free "str", .free "super", .free "tuple", .glo "DEEDS", .glo "RELATIONS", .glo "STANDINGS", .glo "Rule", .glo "InvalidPlace", .glo "NotBeneath", .glo "InvalidEntry", .glo "InvalidPromise", .glo "InvalidProgram", .glo "InvalidName", .glo "OverPower", .glo "Stale", .glo "NotSharing", .glo "NotMendable", .glo "Unsound", .glo "TooMany", .glo "InvalidRule", .glo "LentError", .mkr "Rule", .cls "Rule", .noat "Rule" "_rows"]
abbrev R : PySem.W.OpenRow := PySem.W.OpenLaw.row PySem.Challenge.rw_lentahead_k13_rules_read_from_lines
abbrev hk : PySem.W.Hook := DL.hookQ 6 fa fn gb ts fx fe
def ob (s : PySem.W.SharedT) : DL.AlE := DL.obsEQ 6 fa fn gb ts fx fe (HandSHeadRun.getT s)
theorem ob_eq (s : PySem.W.SharedT) : ob s = hk.obs s.abs := DL.obsEQ_eq (HandSHeadRun.getT_eq s)
def names0 : List PySem.Str := ["_wall", "LentError", "InvalidPlace", "NotBeneath", "InvalidEntry", "InvalidRule", "InvalidPromise", "InvalidProgram", "InvalidName", "OverPower", "Stale", "NotSharing", "NotMendable", "Unsound", "TooMany", "INVERSES", "inverse", "STANDINGS", "DEEDS", "STRONG", "RELATIONS", "all_entries", "written_entries", "words_of", "expand", "is_live", "live_among", "in_order", "gathered_entries", "with_both"]
def names1 : List PySem.Str := ["entries_without", "shared_entries", "entries_of", "rule_lines", "Rule", "_law_begin", "_law_draw", "_law_pick", "_law_same_row", "_law_same", "_law_standings", "_law_deeds", "_law_relations", "_law_entries", "_law_words", "_law_pattern", "_law_sign", "_law_spoilt", "_law_is_pattern", "_law_matched", "_law_told", "_law_judged"]
def names : List PySem.Str := names0 ++ names1
theorem runF_l (w : World) : ∀ os : OsState, (HandSHeadRun.endF (HandSHeadRun.stepQ (HandSHeadRun.denQ HandSHeadRun.tabQ) R.prog (w.withFollow "special-get-raises" false)) 30000 R.prog (w.withFollow "special-get-raises" false) os).map (fun s => HandSHeadRun.looksF R.prog (PySem.W.boot_heap (w.withFollow "special-get-raises" false).params) s.abs) = some true := by
  intro os
  kernel_rfl
theorem runF_s (w : World) : ∀ os : OsState, (HandSHeadRun.endF (HandSHeadRun.stepQ (HandSHeadRun.denQ HandSHeadRun.tabQ) R.prog (w.withFollow "special-get-raises" false)) 30000 R.prog (w.withFollow "special-get-raises" false) os).map (fun s => HandSHeadRun.seenQ (PySem.W.view R.prog [57]) names (importedModules R.prog.main.body) (fun s => PySem.W.xlAt (PySem.W.view R.prog [57]) [] s && PySem.W.recOk R.records s) s.abs) = some (PySem.W.openGood (PySem.W.view R.prog [57]) names) := by
  intro os
  kernel_rfl
theorem runF_o (w : World) : ∀ os : OsState, (HandSHeadRun.endF (HandSHeadRun.stepQ (HandSHeadRun.denQ HandSHeadRun.tabQ) R.prog (w.withFollow "special-get-raises" false)) 30000 R.prog (w.withFollow "special-get-raises" false) os).map ob = some (hk.val (w.withFollow "special-get-raises" false)) := by
  intro os
  kernel_rfl
theorem runF (w : World) : HandSHeadRun.RunEq R (PySem.W.view R.prog [57]) hk ob 30000 names (w.withFollow "special-get-raises" false) := DL.run_of (runF_l w) (runF_s w) (runF_o w)
theorem runT_l (w : World) : ∀ os : OsState, (HandSHeadRun.endF (HandSHeadRun.stepQ (HandSHeadRun.denQ HandSHeadRun.tabQ) R.prog (w.withFollow "special-get-raises" true)) 30000 R.prog (w.withFollow "special-get-raises" true) os).map (fun s => HandSHeadRun.looksF R.prog (PySem.W.boot_heap (w.withFollow "special-get-raises" true).params) s.abs) = some true := by
  intro os
  kernel_rfl
theorem runT_s (w : World) : ∀ os : OsState, (HandSHeadRun.endF (HandSHeadRun.stepQ (HandSHeadRun.denQ HandSHeadRun.tabQ) R.prog (w.withFollow "special-get-raises" true)) 30000 R.prog (w.withFollow "special-get-raises" true) os).map (fun s => HandSHeadRun.seenQ (PySem.W.view R.prog [57]) names (importedModules R.prog.main.body) (fun s => PySem.W.xlAt (PySem.W.view R.prog [57]) [] s && PySem.W.recOk R.records s) s.abs) = some (PySem.W.openGood (PySem.W.view R.prog [57]) names) := by
  intro os
  kernel_rfl
theorem runT_o (w : World) : ∀ os : OsState, (HandSHeadRun.endF (HandSHeadRun.stepQ (HandSHeadRun.denQ HandSHeadRun.tabQ) R.prog (w.withFollow "special-get-raises" true)) 30000 R.prog (w.withFollow "special-get-raises" true) os).map ob = some (hk.val (w.withFollow "special-get-raises" true)) := by
  intro os
  kernel_rfl
theorem runT (w : World) : HandSHeadRun.RunEq R (PySem.W.view R.prog [57]) hk ob 30000 names (w.withFollow "special-get-raises" true) := DL.run_of (runT_l w) (runT_s w) (runT_o w)
theorem run (w : World) : HandSHeadRun.RunEq R (PySem.W.view R.prog [57]) hk ob 30000 names w := PySem.W.byRow2 "special-get-raises" (P := fun w => HandSHeadRun.RunEq R (PySem.W.view R.prog [57]) hk ob 30000 names w) runF runT w
theorem holds_of {sp : DL.DSp} (hsp : ∀ ns : List Int, ns.length ≤ 63 → sp [.scr ns] (fun _ => none) (fun d _ => d = .bl true) (fun _ _ => False))
    (F : ∀ {w : World} {K : PySem.W.Frag} {h : Heap} {mg : PySem.Str → Option Value} {f : Addr}, K.In h → h.Ns mainGlobals mg → mg ("law" : PySem.Str) = some (.ref f) → DL.SaysE fa fn gb ts fx fe w K →
      ∃ fd : FuncData, (∀ (s : Shared) (v : Value), BindsTo s fd ⟨[v], []⟩ [("_law_script", v)]) ∧ ∀ base : Heap, K.In base → base.Ns mainGlobals mg → FnOk (PySem.Challenge.rw_lentahead_k13_rules_read_from_lines).prog w K mg base (L2N.CX (PySem.Challenge.rw_lentahead_k13_rules_read_from_lines).prog w) 19 f fd ["_law_script"] (lsp K sp)) : PySem.Challenge.rw_lentahead_k13_rules_read_from_lines.Holds := by
  w_on; o_law
  refine HandSHeadRun.head_any (r := PySem.W.OpenLaw.row PySem.Challenge.rw_lentahead_k13_rules_read_from_lines) (q := PySem.W.view (PySem.W.OpenLaw.row PySem.Challenge.rw_lentahead_k13_rules_read_from_lines).prog [57]) (H := Lw.hk) (ob := Lw.ob) (M := 30000) (loose := Lw.names) (d := HandSHeadRun.topDef (PySem.W.OpenLaw.row PySem.Challenge.rw_lentahead_k13_rules_read_from_lines).prog 57) (kwd := []) Lw.ob_eq
    (by kernel_rfl) (fun s => by kernel_rfl) Lw.run (by kernel_rfl) (by kernel_rfl) (by kernel_rfl) (by rfl) (by first | assumption | decide +kernel) (by decide +kernel) ⟨rfl, rfl, rfl, rfl, rfl, by decide +kernel⟩ ?hw ?hc
  case hw => w_witness2
  case hc =>
    refine DL.law_walk (l := PySem.Challenge.rw_lentahead_k13_rules_read_from_lines) (sp := sp) (k := 19) (x := "_law_script") rfl (by kernel_rfl) ⟨rfl, by decide, by decide⟩ hsp ?F
    intro w mg fa h Y G hmg0
    obtain ⟨K, KX, c⟩ := Y
    have hmg : mg ("law" : PySem.Str) = some (.ref fa) := by
      have e : (HandSHeadRun.topDef (PySem.W.OpenLaw.row PySem.Challenge.rw_lentahead_k13_rules_read_from_lines).prog 57).name = ("law" : PySem.Str) := by kernel_rfl
      rw [← e]
      exact hmg0
    obtain ⟨fd, hb, hF⟩ := F KX G hmg c
    exact ⟨K, fd, KX, hb, hF⟩
end Lw
namespace DL
open PySem L2
local macro_rules | `(tactic| walk_at "dl") => `(tactic| try simp (config := { proj := false }) only [↓ex_mk, ↓nx_mk, ↓rt_mk, ↓bk_mk, ↓ct_mk, ↓xc_mk, ↓u_c, ↓u_op, ↓u_un, ↓u_and, ↓u_or, ↓u_not, ↓u_if, ↓u_anil, ↓u_acons, ↓u_lst, ↓u_lstM, ↓u_tup, ↓u_call, ↓u_sl, ↓u_onone, ↓u_cb, ↓u_mt, ↓u_mt0, ↓u_pass, ↓u_seq, ↓u_set, ↓u_asg, ↓u_drop, ↓u_ret, ↓u_retN, ↓u_ifs, ↓u_brk, ↓u_cnt, ↓u_for, ↓u_gname, ↓u_gsub, ↓u_fs, ↓u_fmt, ↓u_js0, ↓u_js, ↓u_em, ↓u_yes, ↓u_never, ↓u_ref, ↓u_forR, ↓u_star, ↓u_dict, ↓u_dict0, ↓u_dp0, ↓u_dp1, ↓u_forK, ↓u_lock, ↓u_kd, ↓u_fld, ↓u_setF, ↓u_make, ↓u_binL, ↓u_binR, ↓u_inO, ↓u_getO, ↓u_setO, ↓u_augO, ↓u_prp, ↓u_inv, ↓u_meth, ↓u_keys, ↓u_try, ↓u_cm, ↓u_makeV, ↓r_enum, ↓r_own, ↓u_raise, ↓u_tryas, ↓u_ca, ↓u_xf, ↓u_idxC, su_mk,
  ↓r_var, ↓r_test, ↓r_andV, ↓r_orV, ↓r_notV, ↓r_tru, ↓r_frz, ↓r_osome, ↓r_any, ↓r_scr, scr_c, ↓r_rng1, ↓r_rng2, ↓r_fz, wipeD,
  onSome_s, onBl_b, onInt_i, onStr_s, onVar_s, onML_l, onML2_l, onML2_d, onDK_d, fmt_s, fmt_i, tru_n, tru_b, tru_i, tru_s, tru_l, tru_t, tru_r, frz_r, sl_s, sl_l, sl_t, sl_r, add_i, add_s, add_l, add_t, add_rl, add_lr, sub_i, mul_i, div_i, mod_i, pow_i, neg_i, cmp_i, eq_i, eq_s, eq_b, eq_n, eq_l, eq_t, eq_rl, eq_lr, eq_ni, eq_in, eq_ns, eq_sn, eq_nb, eq_bn, eq_is, eq_si,
  ix_l, ix_t, ix_s, ix_ri, ix_rs, in_ss, in_l, in_t, in_ir, in_sr, isB_t, isB_f, ltS_s, gtS_s, sorted_l, keyK_s, keyK_i, u_dget, lenOR_r, listOR_r, isn_n, isn_b, isn_i, isn_s, isn_r, isn_l, isn_t, len_s, len_c, len_l, len_t, len_r, int_i, int_b, min_ii, max_ii, list_l, list_t, list_r, list_c, listM_l, listM_c, listM_t, listM_r, isi_, isi_k, ty_n, ty_b, ty_i, ty_s, ty_l, ty_t, it_s, it_l, it_r, itM_l, itM_d, app_r, rev_r, ends_s, ins_r, set_rs, str_i, str_s, ext_l, pop_r, clr_r, star_l, star_t, star_r, onRef_r, onML3_l, onML3_d, onML3_f, onDR_d, onDR_f, onFK_f, join_l, join_t, join_r, starts_s, r_gtup, r_glst, r_gnil, r_gcons, set_r, items_s, items_l, items_t, rng1_i, rng2_i, fz_r, addM_l, addM_rl, onIns_i, onLst_l, isIns_r, isInsM_i, noF_r, noFM_i, rows_r, lenO_r, listO_r, listOM_r, isCK_i, isCK_l, isC_r, isC_s, isC_i, isC_b, isC_n, isC_l, isC_t, putG_0, putG_1, lk_1, onCl_c, onEnum_l, index_l, strO_r, cmpO_r, pop1_r, tuple_l, tuple_t, divmod_i, upper_s, indexT_t, onExc_e, isE_t, isE_c, isE_v, zip_1,
  List.map_cons, List.map_nil, List.cons_append, List.nil_append, List.length_cons, List.length_nil, List.replicate, List.getElem?_cons_zero, List.getElem?_cons_succ, List.set_cons_zero, List.set_cons_succ, id, decide_eq_true_eq, if_true, if_false, Bool.false_eq_true, reduceIte, Bool.not_true, Bool.not_false, true_and, Nat.reduceAdd, Nat.reduceSub, Int.reduceToNat, Int.toNat_natCast, put_same, put_put, atI_0, atI_1, atI_2, atI_3, atI_4, ixN_40, ixN_41, ixN_42, ixN_43])
abbrev Ret (Q : DK) (E : DX) : DEnds := { nx := fun _ M' => Q .non M', rt := Q, xc := fun x _ M' => E x M' }
def Src (M : Mu) (a : Addr) : Prop := ∃ (ns : List Int) (at_ r d : Int), M a = some (.lst [.lst (ns.map D.int), .int at_, .int r, .int d]) ∧ 0 ≤ at_
def SrcTo (a : Addr) (M M' : Mu) : Prop := Src M' a ∧ ∀ b, b ≠ a → M' b = M b
theorem SrcTo.trans {a : Addr} {M M1 M2 : Mu} (h1 : SrcTo a M M1) (h2 : SrcTo a M1 M2) : SrcTo a M M2 := ⟨h2.1, fun b hb => (h2.2 b hb).trans (h1.2 b hb)⟩
theorem SrcTo.refl {a : Addr} {M : Mu} (h : Src M a) : SrcTo a M M := ⟨h, fun _ _ => rfl⟩
theorem src_other {a p : Addr} {M : Mu} {m : MO} (h : Src M a) (hp : M p = none) : Src (put M p m) a ∧ a ≠ p := by
  obtain ⟨ns, t, r, d, e, h0⟩ := h
  have hn : a ≠ p := fun z => by rw [z, hp] at e; cases e
  exact ⟨⟨ns, t, r, d, by rw [put_ne hn]; exact e, h0⟩, hn⟩
def sp_l_begin : DSp := fun ds M Q _ => ∃ (ns : List Int), ds = [.scr ns] ∧ ∀ p M', M p = none → SrcTo p M M' → Q (.ref p) M'
def sp_l_draw : DSp := fun ds M Q _ => ∃ (a : Addr) (n : Int), ds = [.ref a, .int n] ∧ Src M a ∧ 0 < n ∧ n < 1073741824 ∧ ∀ i M', 0 ≤ i → i < n → SrcTo a M M' → Q (.int i) M'
def rowI (M : Mu) (a : Addr) : D → Option (List D)
  | .ref q => if q = a then none else match M q with
    | some (.lst ds) => some ds
    | _ => none
  | d => itemsD d
theorem rowI_of {M : Mu} {a : Addr} {row : D} {xs : List D} (h : itemsD row = some xs) : rowI M a row = some xs := by
  cases row <;> first | exact h | cases h
def sp_l_pick : DSp := fun ds M Q _ => ∃ (a : Addr) (row : D) (xs : List D), ds = [.ref a, row] ∧ rowI M a row = some xs ∧ 0 < xs.length ∧ xs.length < 1000000 ∧ Src M a ∧ ∀ d M', d ∈ xs → SrcTo a M M' → Q d M'
theorem draw_ {a : Addr} {n : Int} {M : Mu} {Q : DK} {E : DX} (h : Src M a) (h0 : 0 < n) (h1 : n < 1073741824) (k : ∀ i M', 0 ≤ i → i < n → SrcTo a M M' → Q (.int i) M') : sp_l_draw [.ref a, .int n] M Q E := ⟨a, n, rfl, h, h0, h1, k⟩
theorem pick_ {a : Addr} {row : D} {xs : List D} {M : Mu} {Q : DK} {E : DX} (h : Src M a) (hi : itemsD row = some xs) (h0 : 0 < xs.length) (h1 : xs.length < 1000000) (k : ∀ d M', d ∈ xs → SrcTo a M M' → Q d M') : sp_l_pick [.ref a, row] M Q E := ⟨a, row, xs, rfl, rowI_of hi, h0, h1, h, k⟩
def w_l_begin : DTS := dRet (dLstM (daCons (dCB gList (daCons (dVar 0) (daNil))) (daCons (dC (.int 0)) (daCons (dUn gNeg (dC (.int 1))) (daCons (dC (.int 0)) (daNil))))))
def w_l_draw_c1 : DTS := dSeq (dAsg (dOp gAdd (dOp gIx (dVar 0) (dC (.int 1))) (dC (.int 1))) (dgSub (dVar 0) (dC (.int 1)) gSetA)) (dSeq (dAsg (dUn gNeg (dC (.int 1))) (dgSub (dVar 0) (dC (.int 2)) gSetA)) (dRet (dVar 3)))
def w_l_draw_c2 : DTS := dSeq (dAsg (dOp gAdd (dOp gIx (dVar 0) (dC (.int 3))) (dC (.int 1))) (dgSub (dVar 0) (dC (.int 3)) gSetA)) (dSeq (dIfS (dTest (dOp gGe (dVar 2) (dOp gPow (dC (.int 10)) (dC (.int 18))))) (dSeq (dSet 3 (dOp gMod (dCB gInt1 (daCons (dOp gIx (dVar 0) (dC (.int 2))) (daNil))) (dVar 1))) (dSeq (dAsg (dOp gDiv (dOp gIx (dVar 0) (dC (.int 2))) (dVar 1)) (dgSub (dVar 0) (dC (.int 2)) gSetA)) (dIfS (dAnd (dTest (dOp gGt (dOp gIx (dVar 0) (dC (.int 2))) (dC (.int 0)))) (dTest (dOp gLt (dOp gIx (dVar 0) (dC (.int 3))) (dC (.int 60))))) (dRet (dVar 3)) (dPass)))) (dIfS (dTest (dOp gEq (dOp gIx (dVar 0) (dC (.int 3))) (dC (.int 1)))) (dSeq (dSet 4 (dOp gMod (dCB gInt1 (daCons (dOp gAdd (dOp gAdd (dOp gMul (dVar 2) (dC (.int 48271))) (dOp gMul (dOp gIx (dVar 0) (dC (.int 1))) (dC (.int 7919)))) (dC (.int 12345))) (daNil))) (dC (.int 2147483647)))) (dRet (dOp gMod (dCB gInt1 (daCons (dOp gMod (dCB gInt1 (daCons (dOp gAdd (dOp gMul (dVar 4) (dC (.int 69621))) (dC (.int 101))) (daNil))) (dC (.int 1000003))) (daNil))) (dVar 1)))) (dSeq (dSet 4 (dOp gMod (dCB gInt1 (daCons (dOp gAdd (dOp gAdd (dOp gMul (dVar 2) (dC (.int 16807))) (dOp gMul (dOp gIx (dVar 0) (dC (.int 1))) (dC (.int 104729)))) (dC (.int 54321))) (daNil))) (dC (.int 2147483399)))) (dSet 3 (dOp gMod (dCB gInt1 (daCons (dOp gMod (dCB gInt1 (daCons (dOp gAdd (dOp gMul (dVar 4) (dC (.int 40692))) (dC (.int 211))) (daNil))) (dC (.int 999983))) (daNil))) (dVar 1)))))) (w_l_draw_c1))
def w_l_draw_c3 : DTS := dSeq (dIfS (dTest (dOp gLt (dOp gIx (dVar 0) (dC (.int 2))) (dC (.int 0)))) (dSeq (dAsg (dVar 2) (dgSub (dVar 0) (dC (.int 2)) gSetA)) (dAsg (dC (.int 0)) (dgSub (dVar 0) (dC (.int 3)) gSetA))) (dPass)) (w_l_draw_c2)
def w_l_draw : DTS := dSeq (dIfS (dTest (dOp gGe (dOp gIx (dVar 0) (dC (.int 1))) (dCB gLen (daCons (dOp gIx (dVar 0) (dC (.int 0))) (daNil))))) (dRet (dC (.int 0))) (dPass)) (dSeq (dSet 2 (dOp gIx (dOp gIx (dVar 0) (dC (.int 0))) (dOp gIx (dVar 0) (dC (.int 1))))) (dSeq (dIfS (dTest (dOp gLt (dVar 2) (dC (.int 0)))) (dSet 2 (dOp gSub (dUn gNeg (dC (.int 1))) (dVar 2))) (dPass)) (w_l_draw_c3)))
def w_l_pick : DTS := dRet (dOp gIx (dVar 1) (dCall sp_l_draw (daCons (dVar 0) (daCons (dCB gLen (daCons (dVar 1) (daNil))) (daNil)))))
theorem p_l_begin : ∀ ds M Q E, sp_l_begin ds M Q E → w_l_begin (Ret Q E) (ds.map some ++ List.replicate (1 - 1) none) M := by
  rintro ds M Q E ⟨ns, rfl, hQ⟩
  unfold w_l_begin
  walk_at "dl"
  exact ⟨by decide, fun p hp => hQ p _ hp ⟨⟨ns, 0, -1, 0, put_same, by decide⟩, fun b hb => put_ne hb⟩⟩
theorem src_mk {M M0 : Mu} {a : Addr} {ns : List Int} {t r d : Int} (h : M a = some (.lst [.lst (ns.map D.int), .int t, .int r, .int d])) (h0 : 0 ≤ t) (hb : ∀ b, b ≠ a → M b = M0 b) : SrcTo a M0 M := ⟨⟨ns, t, r, d, h, h0⟩, hb⟩
theorem draw_c1 {a : Addr} {n j : Int} {x4 : Option D} {x2 : Option D} {ns : List Int} {t r d : Int} {M0 M : Mu} {Q : DK} {E : DX} (hM : M a = some (.lst [.lst (ns.map D.int), .int t, .int r, .int d])) (ht : 0 ≤ t) (hb : ∀ b, b ≠ a → M b = M0 b)
    (hj : 0 ≤ j ∧ j < n) (hQ : ∀ i M', 0 ≤ i → i < n → SrcTo a M0 M' → Q (.int i) M') : w_l_draw_c1 (Ret Q E) [some (.ref a), some (.int n), x2, some (.int j), x4] M := by
  unfold w_l_draw_c1
  walk_at "dl"
  try simp only [hM, atI_1]
  walk_at "dl"
  try simp only [hM, atI_1]
  walk_at "dl"
  walk_at "dl"
  try simp only [hM]
  walk_at "dl"
  try simp only [hM]
  walk_at "dl"
  walk_at "dl"
  try simp only [ixN_of (n := 4) (i := 1) (by decide) (by decide), put_same]
  walk_at "dl"
  try simp only [ixN_of (n := 4) (i := 1) (by decide) (by decide), put_same]
  walk_at "dl"
  walk_at "dl"
  try simp only [ixN_of (n := 4) (i := 2) (by decide) (by decide)]
  walk_at "dl"
  try simp only [ixN_of (n := 4) (i := 2) (by decide) (by decide)]
  walk_at "dl"
  walk_at "dl"
  refine hQ j _ hj.1 hj.2 (src_mk put_same (by omega) fun b z => ?_)
  rw [put_ne z, hb b z]
theorem draw_c2 {a : Addr} {n m : Int} {x3 x4 : Option D} {ns : List Int} {t r d : Int} {M0 M : Mu} {Q : DK} {E : DX} (hM : M a = some (.lst [.lst (ns.map D.int), .int t, .int r, .int d])) (ht : 0 ≤ t) (hb : ∀ b, b ≠ a → M b = M0 b)
    (hn : 0 < n ∧ n < 1073741824) (hQ : ∀ i M', 0 ≤ i → i < n → SrcTo a M0 M' → Q (.int i) M') : w_l_draw_c2 (Ret Q E) [some (.ref a), some (.int n), some (.int m), x3, x4] M := by
  have mod : ∀ x : Int, 0 ≤ x % n ∧ x % n < n := fun x => ⟨Int.emod_nonneg _ (by omega), Int.emod_lt_of_pos _ hn.1⟩
  unfold w_l_draw_c2
  walk_at "dl"
  try simp only [hM, atI_3]
  walk_at "dl"
  try simp only [hM, atI_3]
  walk_at "dl"
  walk_at "dl"
  try simp only [hM]
  walk_at "dl"
  try simp only [hM]
  walk_at "dl"
  walk_at "dl"
  try simp only [ixN_of (n := 4) (i := 3) (by decide) (by decide)]
  walk_at "dl"
  try simp only [ixN_of (n := 4) (i := 3) (by decide) (by decide)]
  walk_at "dl"
  walk_at "dl"
  try simp only [put_same, atI_1, atI_2, atI_3]
  walk_at "dl"
  try simp only [put_same, atI_1, atI_2, atI_3]
  walk_at "dl"
  walk_at "dl"
  refine ⟨by unfold CPow; decide, ?_⟩
  by_cases hm : (10 : Int) ^ 18 ≤ m
  · rw [if_pos hm]
    refine ⟨hn.1, ⟨hn.1, hn.2⟩, ?_⟩
    try simp only [ixN_of (n := 4) (i := 2) (by decide) (by decide), put_same, put_put]
    walk_at "dl"
    try simp only [ixN_of (n := 4) (i := 2) (by decide) (by decide), put_same, put_put]
    walk_at "dl"
    walk_at "dl"
    try simp only [put_same, atI_2, atI_3]
    walk_at "dl"
    try simp only [put_same, atI_2, atI_3]
    walk_at "dl"
    walk_at "dl"
    by_cases h1 : 0 < r / n
    · rw [if_pos h1]
      by_cases h2 : d + 1 < 60
      · rw [if_pos h2]
        refine hQ _ _ (mod r).1 (mod r).2 (src_mk put_same ht fun b z => ?_)
        rw [put_ne z, hb b z]
      · rw [if_neg h2]
        refine draw_c1 (M0 := M0) put_same ht (fun b z => by rw [put_ne z, hb b z]) (mod r) hQ
    · rw [if_neg h1]
      exact draw_c1 (M0 := M0) put_same ht (fun b z => by rw [put_ne z, hb b z]) (mod r) hQ
  · rw [if_neg hm]
    have c : ∀ x : Int, 0 < x → x < 2 ^ 64 → ∀ y, CMul y x := fun x h1 h2 y => .inr ⟨by omega, h2⟩
    by_cases h1 : d + 1 = 1
    · rw [if_pos h1]
      refine ⟨c _ (by decide) (by decide) _, c _ (by decide) (by decide) _, by decide, c _ (by decide) (by decide) _, by decide, hn.1, ?_⟩
      refine hQ _ _ (mod _).1 (mod _).2 (src_mk put_same ht fun b z => ?_)
      rw [put_ne z, hb b z]
    · rw [if_neg h1]
      refine ⟨c _ (by decide) (by decide) _, c _ (by decide) (by decide) _, by decide, c _ (by decide) (by decide) _, by decide, hn.1, ?_⟩
      exact draw_c1 (M0 := M0) put_same ht (fun b z => by rw [put_ne z, hb b z]) (mod _) hQ
theorem draw_c3 {a : Addr} {n m : Int} {x3 x4 : Option D} {ns : List Int} {t r d : Int} {M0 M : Mu} {Q : DK} {E : DX} (hM : M a = some (.lst [.lst (ns.map D.int), .int t, .int r, .int d])) (ht : 0 ≤ t) (hb : ∀ b, b ≠ a → M b = M0 b)
    (hn : 0 < n ∧ n < 1073741824) (hQ : ∀ i M', 0 ≤ i → i < n → SrcTo a M0 M' → Q (.int i) M') : w_l_draw_c3 (Ret Q E) [some (.ref a), some (.int n), some (.int m), x3, x4] M := by
  unfold w_l_draw_c3
  walk_at "dl"
  try simp only [hM, atI_2]
  walk_at "dl"
  try simp only [hM, atI_2]
  walk_at "dl"
  walk_at "dl"
  by_cases h1 : r < 0
  · rw [if_pos h1]
    try simp only [hM]
    walk_at "dl"
    try simp only [hM]
    walk_at "dl"
    walk_at "dl"
    try simp only [ixN_of (n := 4) (i := 2) (by decide) (by decide), put_same]
    walk_at "dl"
    try simp only [ixN_of (n := 4) (i := 2) (by decide) (by decide), put_same]
    walk_at "dl"
    walk_at "dl"
    try simp only [ixN_of (n := 4) (i := 3) (by decide) (by decide)]
    walk_at "dl"
    try simp only [ixN_of (n := 4) (i := 3) (by decide) (by decide)]
    walk_at "dl"
    exact draw_c2 (M0 := M0) put_same ht (fun b z => by rw [put_ne z, hb b z]) hn hQ
  · rw [if_neg h1]
    exact draw_c2 (M0 := M0) hM ht hb hn hQ
theorem p_l_draw : ∀ ds M Q E, sp_l_draw ds M Q E → w_l_draw (Ret Q E) (ds.map some ++ List.replicate (5 - 2) none) M := by
  rintro ds M Q E ⟨a, n, rfl, ⟨ns, t, r, d, hM, ht⟩, h0, h1, hQ⟩
  unfold w_l_draw
  walk_at "dl"
  try simp only [hM, atI_1]
  walk_at "dl"
  try simp only [hM, atI_1]
  walk_at "dl"
  walk_at "dl"
  try simp only [hM, atI_0]
  walk_at "dl"
  try simp only [hM, atI_0]
  walk_at "dl"
  walk_at "dl"
  try simp only [List.length_map]
  walk_at "dl"
  try simp only [List.length_map]
  walk_at "dl"
  by_cases hl : (ns.length : Int) ≤ t
  · rw [if_pos hl]
    exact hQ 0 M (by decide) h0 (src_mk hM ht fun _ _ => rfl)
  · rw [if_neg hl]
    try simp only [hM, atI_0]
    walk_at "dl"
    try simp only [hM, atI_0]
    walk_at "dl"
    walk_at "dl"
    try simp only [hM, atI_1]
    walk_at "dl"
    try simp only [hM, atI_1]
    walk_at "dl"
    walk_at "dl"
    obtain ⟨x, _, e, _⟩ := atI_is (xs := ns) ht (by omega)
    try simp only [atI_map, e, Option.map_some]
    walk_at "dl"
    try simp only [atI_map, e, Option.map_some]
    walk_at "dl"
    walk_at "dl"
    by_cases hx : x < 0
    · rw [if_pos hx]
      exact draw_c3 hM ht (fun _ _ => rfl) ⟨h0, h1⟩ hQ
    · rw [if_neg hx]
      exact draw_c3 hM ht (fun _ _ => rfl) ⟨h0, h1⟩ hQ
theorem p_l_pick : ∀ ds M Q E, sp_l_pick ds M Q E → w_l_pick (Ret Q E) (ds.map some ++ List.replicate (2 - 2) none) M := by
  rintro ds M Q E ⟨a, row, xs, rfl, hi, h0, h1, hs, hQ⟩
  unfold w_l_pick
  walk_at "dl"
  cases row with
  | lst ds =>
    have hi : some ds = some xs := hi
    cases hi
    walk_at "dl"
    refine draw_ hs (by omega) (by omega) fun i M' i0 i1 hM' => ?_
    obtain ⟨x, hx, e, _⟩ := atI_is (xs := xs) i0 i1
    walk_at "dl"
    try simp only [e]
    walk_at "dl"
    try simp only [e]
    walk_at "dl"
    exact hQ x M' hx hM'
  | tup ds =>
    have hi : some ds = some xs := hi
    cases hi
    walk_at "dl"
    refine draw_ hs (by omega) (by omega) fun i M' i0 i1 hM' => ?_
    obtain ⟨x, hx, e, _⟩ := atI_is (xs := xs) i0 i1
    walk_at "dl"
    try simp only [e]
    walk_at "dl"
    try simp only [e]
    walk_at "dl"
    exact hQ x M' hx hM'
  | str z =>
    have hi : some (z.map fun c => D.str [c]) = some xs := hi
    cases hi
    rw [List.length_map] at h0 h1
    walk_at "dl"
    refine ⟨by omega, ?_⟩
    refine draw_ hs (by omega) (by omega) fun i M' i0 i1 hM' => ?_
    obtain ⟨x, hx, e, _⟩ := atI_is (xs := z) i0 i1
    walk_at "dl"
    try simp only [e]
    walk_at "dl"
    try simp only [e]
    walk_at "dl"
    exact ⟨by omega, hQ (.str [x]) M' (List.mem_map.mpr ⟨x, hx, rfl⟩) hM'⟩
  | ref q =>
    have hi : (if q = a then none else match M q with
      | some (.lst ds) => some ds
      | _ => none) = some xs := hi
    split at hi
    · cases hi
    · rename_i n
      split at hi
      · rename_i ds e
        cases hi
        try simp only [e]
        walk_at "dl"
        try simp only [e]
        walk_at "dl"
        refine draw_ hs (by omega) (by omega) fun i M' i0 i1 hM' => ?_
        obtain ⟨x, hx, e2, _⟩ := atI_is (xs := xs) i0 i1
        have e3 : M' q = some (.lst xs) := by rw [hM'.2 q n]; exact e
        walk_at "dl"
        try simp only [e3, e2]
        walk_at "dl"
        try simp only [e3, e2]
        walk_at "dl"
        exact hQ x M' hx hM'
      · cases hi
  | _ => cases hi
end DL
namespace DL
open PySem L2
local macro_rules | `(tactic| walk_at "dl") => `(tactic| try simp (config := { proj := false }) only [↓ex_mk, ↓nx_mk, ↓rt_mk, ↓bk_mk, ↓ct_mk, ↓xc_mk, ↓u_c, ↓u_op, ↓u_un, ↓u_and, ↓u_or, ↓u_not, ↓u_if, ↓u_anil, ↓u_acons, ↓u_lst, ↓u_lstM, ↓u_tup, ↓u_call, ↓u_sl, ↓u_onone, ↓u_cb, ↓u_mt, ↓u_mt0, ↓u_pass, ↓u_seq, ↓u_set, ↓u_asg, ↓u_drop, ↓u_ret, ↓u_retN, ↓u_ifs, ↓u_brk, ↓u_cnt, ↓u_for, ↓u_gname, ↓u_gsub, ↓u_fs, ↓u_fmt, ↓u_js0, ↓u_js, ↓u_em, ↓u_yes, ↓u_never, ↓u_ref, ↓u_forR, ↓u_star, ↓u_dict, ↓u_dict0, ↓u_dp0, ↓u_dp1, ↓u_forK, ↓u_lock, ↓u_kd, ↓u_fld, ↓u_setF, ↓u_make, ↓u_binL, ↓u_binR, ↓u_inO, ↓u_getO, ↓u_setO, ↓u_augO, ↓u_prp, ↓u_inv, ↓u_meth, ↓u_keys, ↓u_try, ↓u_cm, ↓u_makeV, ↓r_enum, ↓r_own, ↓u_raise, ↓u_tryas, ↓u_ca, ↓u_xf, ↓u_idxC, su_mk,
  ↓r_var, ↓r_test, ↓r_andV, ↓r_orV, ↓r_notV, ↓r_tru, ↓r_frz, ↓r_osome, ↓r_any, ↓r_scr, scr_c, ↓r_rng1, ↓r_rng2, ↓r_fz, wipeD,
  onSome_s, onBl_b, onInt_i, onStr_s, onVar_s, onML_l, onML2_l, onML2_d, onDK_d, fmt_s, fmt_i, tru_n, tru_b, tru_i, tru_s, tru_l, tru_t, tru_r, frz_r, sl_s, sl_l, sl_t, sl_r, add_i, add_s, add_l, add_t, add_rl, add_lr, sub_i, mul_i, div_i, mod_i, pow_i, neg_i, cmp_i, eq_i, eq_s, eq_b, eq_n, eq_l, eq_t, eq_rl, eq_lr, eq_ni, eq_in, eq_ns, eq_sn, eq_nb, eq_bn, eq_is, eq_si,
  ix_l, ix_t, ix_s, ix_ri, ix_rs, in_ss, in_l, in_t, in_ir, in_sr, isB_t, isB_f, ltS_s, gtS_s, sorted_l, keyK_s, keyK_i, u_dget, lenOR_r, listOR_r, isn_n, isn_b, isn_i, isn_s, isn_r, isn_l, isn_t, len_s, len_c, len_l, len_t, len_r, int_i, int_b, min_ii, max_ii, list_l, list_t, list_r, list_c, listM_l, listM_c, listM_t, listM_r, isi_, isi_k, ty_n, ty_b, ty_i, ty_s, ty_l, ty_t, it_s, it_l, it_r, itM_l, itM_d, app_r, rev_r, ends_s, ins_r, set_rs, str_i, str_s, ext_l, pop_r, clr_r, star_l, star_t, star_r, onRef_r, onML3_l, onML3_d, onML3_f, onDR_d, onDR_f, onFK_f, join_l, join_t, join_r, starts_s, r_gtup, r_glst, r_gnil, r_gcons, set_r, items_s, items_l, items_t, rng1_i, rng2_i, fz_r, addM_l, addM_rl, onIns_i, onLst_l, isIns_r, isInsM_i, noF_r, noFM_i, rows_r, lenO_r, listO_r, listOM_r, isCK_i, isCK_l, isC_r, isC_s, isC_i, isC_b, isC_n, isC_l, isC_t, putG_0, putG_1, lk_1, onCl_c, onEnum_l, index_l, strO_r, cmpO_r, pop1_r, tuple_l, tuple_t, divmod_i, upper_s, indexT_t, onExc_e, isE_t, isE_c, isE_v, zip_1,
  List.map_cons, List.map_nil, List.cons_append, List.nil_append, List.length_cons, List.length_nil, List.replicate, List.getElem?_cons_zero, List.getElem?_cons_succ, List.set_cons_zero, List.set_cons_succ, id, decide_eq_true_eq, if_true, if_false, Bool.false_eq_true, reduceIte, Bool.not_true, Bool.not_false, true_and, Nat.reduceAdd, Nat.reduceSub, Int.reduceToNat, Int.toNat_natCast, put_same, put_put, atI_0, atI_1, atI_2, atI_3, atI_4, ixN_40, ixN_41, ixN_42, ixN_43])
mutual
def eqD : D → D → Bool
  | .non, .non => true
  | .bl a, .bl b => a == b
  | .int a, .int b => a == b
  | .str a, .str b => a == b
  | .lst a, .lst b => eqDs a b
  | .tup a, .tup b => eqDs a b
  | .ref a, .ref b => a == b
  | .ty a, .ty b => a == b
  | .scr a, .scr b => a == b
  | .cl a, .cl b => decide (a = b)
  | .exc a b c e f, .exc a' b' c' e' f' => decide (a = a') && (decide (b = b') && (decide (c = c') && (decide (e = e') && eqDs f f')))
  | _, _ => false
def eqDs : List D → List D → Bool
  | [], [] => true
  | a :: as, b :: bs => eqD a b && eqDs as bs
  | _, _ => false
end
mutual
theorem eqD_refl : ∀ d : D, eqD d d = true
  | .non => rfl
  | .bl a => by simp [eqD]
  | .int a => by simp [eqD]
  | .str a => by simp [eqD]
  | .ref a => by simp [eqD]
  | .ty a => by simp [eqD]
  | .scr a => by simp [eqD]
  | .cl a => by simp [eqD]
  | .exc a b c e f => by unfold eqD; rw [eqDs_refl f]; simp
  | .lst a => by unfold eqD; exact eqDs_refl a
  | .tup a => by unfold eqD; exact eqDs_refl a
theorem eqDs_refl : ∀ d : List D, eqDs d d = true
  | [] => rfl
  | a :: as => by unfold eqDs; rw [eqD_refl a, eqDs_refl as]; rfl
end
mutual
def pln : Nat → D → Bool
  | _, .ref _ => false
  | _, .ty _ => false
  | _, .scr _ => false
  | _, .cl _ => false
  | _, .exc _ _ _ _ _ => false
  | n, .lst ds => decide (ds.length ≤ 1000000) && plnIn n ds
  | n, .tup ds => decide (ds.length ≤ 1000000) && plnIn n ds
  | _, _ => true
def plnIn : Nat → List D → Bool
  | 0, _ => false
  | n + 1, ds => plns n ds
def plns : Nat → List D → Bool
  | _, [] => true
  | n, d :: ds => pln n d && plns n ds
end
theorem plns_all : ∀ {n : Nat} {ds : List D}, plns n ds = true → ∀ d ∈ ds, pln n d = true
  | n, [], _, d, hd => by cases hd
  | n, e :: ds, h, d, hd => by
    obtain ⟨h1, h2⟩ := ba (show (pln n e && plns n ds) = true from by unfold plns at h; exact h)
    rcases List.mem_cons.mp hd with rfl | hd
    · exact h1
    · exact plns_all h2 d hd
theorem plns_of : ∀ {n : Nat} {ds : List D}, (∀ d ∈ ds, pln n d = true) → plns n ds = true
  | n, [], _ => by unfold plns; rfl
  | n, e :: ds, h => by
    unfold plns
    rw [h e (List.mem_cons_self ..), plns_of fun d hd => h d (List.mem_cons_of_mem _ hd)]
    rfl
def vw (M : Mu) : Nat → D → D
  | n + 1, .ref a => (match M a with
    | some (.lst ds) => .lst (ds.map (vw M n))
    | _ => .ref a)
  | n + 1, .lst ds => .lst (ds.map (vw M n))
  | n + 1, .tup ds => .tup (ds.map (vw M n))
  | _, d => d
theorem vw_pln (M : Mu) : ∀ {n : Nat} {d : D}, pln n d = true → vw M n d = d
  | 0, d, h => by cases d <;> rfl
  | n + 1, d, h => by
    have go : ∀ ds : List D, plnIn (n + 1) ds = true → ds.map (vw M n) = ds := fun ds hp => by
      have q := plns_all (show plns n ds = true by unfold plnIn at hp; exact hp)
      calc ds.map (vw M n) = ds.map id := List.map_congr_left fun d hd => vw_pln M (q d hd)
        _ = ds := List.map_id _
    cases d with
    | ref a => unfold pln at h; cases h
    | lst ds => show D.lst (ds.map (vw M n)) = _; rw [go ds (ba (show (decide (ds.length ≤ 1000000) && plnIn (n + 1) ds) = true by unfold pln at h; exact h)).2]
    | tup ds => show D.tup (ds.map (vw M n)) = _; rw [go ds (ba (show (decide (ds.length ≤ 1000000) && plnIn (n + 1) ds) = true by unfold pln at h; exact h)).2]
    | _ => rfl
def sp_l_same (n : Nat) : DSp := fun ds M Q _ => ∃ x y, ds = [x, y] ∧ pln n (vw M n x) = true ∧ pln n (vw M n y) = true ∧ Q (.bl (eqD (vw M n x) (vw M n y))) M
def rowOf (M : Mu) : D → Option (List D)
  | .lst ds => some ds
  | .tup ds => some ds
  | .ref a => (match M a with
    | some (.lst ds) => some ds
    | _ => none)
  | _ => none
def sp_l_same_row (n : Nat) : DSp := fun ds M Q _ => ∃ x y xs ys, ds = [x, y] ∧ rowOf M x = some xs ∧ rowOf M y = some ys ∧ pln n (vw M n x) = true ∧ pln n (vw M n y) = true ∧ Q (.bl (eqDs (xs.map (vw M (n - 1))) (ys.map (vw M (n - 1))))) M
def w_l_same_row_b1 (n : Nat) : DTS := dIfS (dNot (dTru (dCall (sp_l_same n) (daCons (dOp gIx (dVar 0) (dVar 2)) (daCons (dOp gIx (dVar 1) (dVar 2)) (daNil)))))) (dRet (dC (.bl false))) (dPass)
def w_l_same_row (n : Nat) : DTS := dSeq (dIfS (dTest (dOp gNe (dCB gLen (daCons (dVar 0) (daNil))) (dCB gLen (daCons (dVar 1) (daNil))))) (dRet (dC (.bl false))) (dPass)) (dSeq (dFor (diRng1 (daCons (dCB gLen (daCons (dVar 1) (daNil))) (daNil))) (dgName 2) (w_l_same_row_b1 n)) (dRet (dC (.bl true))))
def w_l_same (n : Nat) : DTS := dSeq (dIfS (dTest (dOp gIsN (dVar 1) (dC .non))) (dRet (dOp gIsN (dVar 0) (dC .non))) (dPass)) (dSeq (dIfS (dTru (dCB gIsi (daCons (dVar 1) (daCons (dC (.ty "bool")) (daNil))))) (dRet (dAndV (dCB gIsi (daCons (dVar 0) (daCons (dC (.ty "bool")) (daNil)))) (dOp gEq (dVar 0) (dVar 1)))) (dPass)) (dSeq (dIfS (dTru (dCB gIsi (daCons (dVar 1) (daCons (dC (.ty "int")) (daNil))))) (dRet (dAndV (dCB gIsi (daCons (dVar 0) (daCons (dC (.ty "int")) (daNil)))) (dAndV (dNotV (dCB gIsi (daCons (dVar 0) (daCons (dC (.ty "bool")) (daNil))))) (dOp gEq (dVar 0) (dVar 1))))) (dPass)) (dSeq (dIfS (dTru (dCB gIsi (daCons (dVar 1) (daCons (dC (.ty "str")) (daNil))))) (dRet (dAndV (dCB gIsi (daCons (dVar 0) (daCons (dC (.ty "str")) (daNil)))) (dOp gEq (dVar 0) (dVar 1)))) (dPass)) (dSeq (dIfS (dTru (dCB gIsi (daCons (dVar 1) (daCons (dC (.ty "list")) (daNil))))) (dRet (dAndV (dCB gIsi (daCons (dVar 0) (daCons (dC (.ty "list")) (daNil)))) (dCall (sp_l_same_row n) (daCons (dVar 0) (daCons (dVar 1) (daNil)))))) (dPass)) (dRet (dAndV (dCB gIsi (daCons (dVar 0) (daCons (dC (.ty "tuple")) (daNil)))) (dCall (sp_l_same_row n) (daCons (dVar 0) (daCons (dVar 1) (daNil))))))))))
theorem eqDs_len : ∀ {xs ys : List D}, xs.length ≠ ys.length → eqDs xs ys = false
  | [], [], h => absurd rfl h
  | [], _ :: _, _ => rfl
  | _ :: _, [], _ => rfl
  | x :: xs, y :: ys, h => by
    unfold eqDs
    rw [eqDs_len (fun e => h (by rw [List.length_cons, List.length_cons, e])), Bool.and_false]
theorem eqDs_take : ∀ {xs ys : List D} {k : Nat} {a b : D}, xs[k]? = some a → ys[k]? = some b → eqDs (xs.take (k + 1)) (ys.take (k + 1)) = (eqDs (xs.take k) (ys.take k) && eqD a b)
  | [], _, k, _, _, h, _ => by cases h
  | _ :: _, [], k, _, _, _, h => by cases h
  | x :: xs, y :: ys, 0, a, b, h1, h2 => by
    cases h1; cases h2
    simp [eqDs]
  | x :: xs, y :: ys, k + 1, a, b, h1, h2 => by
    rw [List.take_succ_cons, List.take_succ_cons, List.take_succ_cons, List.take_succ_cons]
    unfold eqDs
    rw [eqDs_take (k := k) (by simpa using h1) (by simpa using h2), Bool.and_assoc]
theorem eqDs_ne : ∀ {xs ys : List D} {k : Nat} {a b : D}, xs[k]? = some a → ys[k]? = some b → eqD a b = false → eqDs xs ys = false
  | [], _, k, _, _, h, _, _ => by cases h
  | _ :: _, [], k, _, _, _, h, _ => by cases h
  | x :: xs, y :: ys, 0, a, b, h1, h2, h => by
    cases h1; cases h2
    unfold eqDs
    rw [h, Bool.false_and]
  | x :: xs, y :: ys, k + 1, a, b, h1, h2, h => by
    unfold eqDs
    rw [eqDs_ne (k := k) (by simpa using h1) (by simpa using h2) h, Bool.and_false]
theorem row_len {M : Mu} {x : D} {xs : List D} {Q : DK} (h : rowOf M x = some xs) (q : Q (.int xs.length) M) : gLen [x] M Q := by
  cases x with
  | lst ds => cases h; exact q
  | tup ds => cases h; exact q
  | ref a =>
    show (match M a with
      | some (.lst ds) => Q (.int ds.length) M
      | some (.dK kvs) => Q (.int kvs.length) M
      | _ => False)
    have h2 : (match M a with
      | some (.lst ds) => some ds
      | _ => none) = some xs := h
    split at h2
    · rename_i ds e; cases h2; rw [e]; exact q
    · cases h2
  | _ => cases h
theorem row_ix {M : Mu} {x : D} {xs : List D} {Q : DK} {k : Nat} {a : D} (h : rowOf M x = some xs) (e : xs[k]? = some a) (q : Q a M) : gIx x (.int (k : Int)) M Q := by
  have hk := (List.getElem?_eq_some_iff.mp e).1
  have e2 : atI xs (k : Int) = some a := by rw [atI_nat hk, ← List.getElem?_eq_getElem hk, e]
  cases x with
  | lst ds => cases h; show (match atI xs (k : Int) with | some d => Q d M | none => False); rw [e2]; exact q
  | tup ds => cases h; show (match atI xs (k : Int) with | some d => Q d M | none => False); rw [e2]; exact q
  | ref b =>
    show (match M b with
      | some (.lst ds) => (match atI ds (k : Int) with | some d => Q d M | none => False)
      | some (.dK kvs) => (match lookK kvs (.inl (k : Int)) with | some d => Q d M | none => False)
      | some (.fK kvs _) => (match lookK kvs (.inl (k : Int)) with | some d => Q d M | none => False)
      | _ => False)
    have h2 : (match M b with
      | some (.lst ds) => some ds
      | _ => none) = some xs := h
    split at h2
    · rename_i ds e3; cases h2; rw [e3]; show (match atI xs (k : Int) with | some d => Q d M | none => False); rw [e2]; exact q
    · cases h2
  | _ => cases h
theorem row_vw {M : Mu} {n : Nat} {x : D} {xs : List D} (h : rowOf M x = some xs) : vw M (n + 1) x = .lst (xs.map (vw M n)) ∨ vw M (n + 1) x = .tup (xs.map (vw M n)) := by
  cases x with
  | lst ds => cases h; exact .inl rfl
  | tup ds => cases h; exact .inr rfl
  | ref b =>
    have h2 : (match M b with
      | some (.lst ds) => some ds
      | _ => none) = some xs := h
    split at h2
    · rename_i ds e3
      cases h2
      refine .inl ?_
      show (match M b with
        | some (.lst ds) => D.lst (ds.map (vw M n))
        | _ => .ref b) = _
      rw [e3]
    · cases h2
  | _ => cases h
theorem row_pln {M : Mu} {n : Nat} {x : D} {xs : List D} (h : rowOf M x = some xs) (p : pln (n + 1) (vw M (n + 1) x) = true) : xs.length ≤ 1000000 ∧ ∀ d ∈ xs, pln n (vw M n d) = true := by
  have k : ∀ ds : List D, (decide (ds.length ≤ 1000000) && plnIn (n + 1) ds) = true → ds = xs.map (vw M n) → xs.length ≤ 1000000 ∧ ∀ d ∈ xs, pln n (vw M n d) = true := fun ds hp e => by
    obtain ⟨p1, p2⟩ := ba hp
    have p1 := of_decide_eq_true p1
    rw [e, List.length_map] at p1
    refine ⟨p1, fun d hd => plns_all (show plns n ds = true by unfold plnIn at p2; exact p2) _ ?_⟩
    rw [e]; exact List.mem_map_of_mem hd
  rcases row_vw (n := n) h with e | e
  · rw [e] at p; unfold pln at p; exact k _ p rfl
  · rw [e] at p; unfold pln at p; exact k _ p rfl
theorem p_l_same_row (n : Nat) : ∀ ds M Q E, sp_l_same_row (n + 1) ds M Q E → w_l_same_row n (Ret Q E) (ds.map some ++ List.replicate (3 - 2) none) M := by
  rintro ds M Q E ⟨x, y, xs, ys, rfl, rx, ry, px, py, hQ⟩
  obtain ⟨lx, qx⟩ := row_pln rx px
  obtain ⟨ly, qy⟩ := row_pln ry py
  unfold w_l_same_row
  simp only [dSeq, dIfS, dTest, dOp, dCB, daCons, daNil, dVar, dRet, dC, dPass, dFor, diRng1, List.map_cons, List.map_nil, List.cons_append, List.nil_append, List.replicate, List.getElem?_cons_zero, List.getElem?_cons_succ, Nat.reduceSub]
  refine row_len rx (row_len ry ?_)
  simp only [gEqN]
  by_cases hl : xs.length = ys.length
  · have e : (!decide ((xs.length : Int) = (ys.length : Int))) = false := by simp [hl]
    rw [e]
    simp only [Bool.false_eq_true, if_false]
    refine row_len ry ?_
    refine ⟨by omega, by omega, ?_⟩
    rw [Int.toNat_natCast]
    refine wFor_by (fun i τ M' => M' = M ∧ (∃ z, τ = [some x, some y, z]) ∧ eqDs ((xs.take i).map (vw M n)) ((ys.take i).map (vw M n)) = true) ⟨rfl, ⟨none, rfl⟩, rfl⟩ ?_ ?_
    · rintro i d τ M' hd ⟨rfl, ⟨z, rfl⟩, he⟩ nxt hn
      obtain ⟨rfl, hi⟩ := upTo_at hd
      rw [Int.zero_add]
      have ex := List.getElem?_eq_getElem (l := xs) (i := i) (by omega)
      have ey := List.getElem?_eq_getElem (l := ys) (i := i) hi
      unfold w_l_same_row_b1
      simp only [dgName, dIfS, dNot, dTru, dCall, dOp, daCons, daNil, dVar, dRet, dC, dPass, List.set_cons_zero, List.set_cons_succ, List.getElem?_cons_zero, List.getElem?_cons_succ]
      refine row_ix rx ex (row_ix ry ey ⟨_, _, rfl, qx _ (List.getElem_mem _), qy _ (List.getElem_mem _), ?_⟩)
      simp only [truD]
      have ex2 : (xs.map (vw M' n))[i]? = some (vw M' n xs[i]) := by rw [List.getElem?_map, ex]; rfl
      have ey2 : (ys.map (vw M' n))[i]? = some (vw M' n ys[i]) := by rw [List.getElem?_map, ey]; rfl
      cases e : eqD (vw M' n xs[i]) (vw M' n ys[i]) with
      | true => exact hn _ _ ⟨rfl, ⟨_, rfl⟩, by rw [List.map_take, List.map_take] at he ⊢; rw [eqDs_take ex2 ey2, he, e]; rfl⟩
      | false =>
        show Q (.bl false) _
        rw [Nat.add_sub_cancel, eqDs_ne ex2 ey2 e] at hQ
        exact hQ
    · rintro τ M' ⟨rfl, ⟨z, rfl⟩, he⟩
      rw [upTo_len, List.take_of_length_le (by omega), List.take_of_length_le (by omega)] at he
      rw [Nat.add_sub_cancel, he] at hQ
      exact hQ
  · have e : (!decide ((xs.length : Int) = (ys.length : Int))) = true := by
      rw [Bool.not_eq_true', decide_eq_false_iff_not]; omega
    rw [e]
    simp only [if_true]
    rw [eqDs_len (by rw [List.length_map, List.length_map]; exact hl)] at hQ
    exact hQ
inductive Vk (M : Mu) : Nat → D → D → Prop where
  | non {n : Nat} : Vk M n .non .non
  | bl {n : Nat} (b : Bool) : Vk M n (.bl b) (.bl b)
  | int {n : Nat} (b : Int) : Vk M n (.int b) (.int b)
  | str {n : Nat} (b : Tx) : Vk M n (.str b) (.str b)
  | lst {m : Nat} (ds : List D) : Vk M (m + 1) (.lst ds) (.lst (ds.map (vw M m)))
  | tup {m : Nat} (ds : List D) : Vk M (m + 1) (.tup ds) (.tup (ds.map (vw M m)))
  | ref {m : Nat} (a : Addr) (ds : List D) (h : M a = some (.lst ds)) : Vk M (m + 1) (.ref a) (.lst (ds.map (vw M m)))
theorem vk_of {M : Mu} {n : Nat} {x : D} (p : pln n (vw M n x) = true) : Vk M n x (vw M n x) := by
  cases n with
  | zero =>
    cases x with
    | non => exact .non
    | bl b => exact .bl b
    | int b => exact .int b
    | str b => exact .str b
    | lst ds => have q := (ba (show (decide (ds.length ≤ 1000000) && plnIn 0 ds) = true from by have := p; unfold vw pln at this; exact this)).2; unfold plnIn at q; cases q
    | tup ds => have q := (ba (show (decide (ds.length ≤ 1000000) && plnIn 0 ds) = true from by have := p; unfold vw pln at this; exact this)).2; unfold plnIn at q; cases q
    | _ => unfold vw pln at p; cases p
  | succ m =>
    cases x with
    | non => exact .non
    | bl b => exact .bl b
    | int b => exact .int b
    | str b => exact .str b
    | lst ds => exact .lst ds
    | tup ds => exact .tup ds
    | ref a =>
      have e : vw M (m + 1) (.ref a) = (match M a with
        | some (.lst ds) => .lst (ds.map (vw M m))
        | _ => .ref a) := rfl
      rw [e] at p ⊢
      split at p
      · rename_i ds h; exact .ref a ds h
      · unfold pln at p; cases p
    | _ => unfold vw pln at p; cases p
theorem ty_rl {M : Mu} {a : Addr} {ds : List D} (h : M a = some (.lst ds)) : tyD M (.ref a) = some "list" := by
  show (match M a with
    | some (.lst _) => some "list"
    | some (.dK _) => some "dict"
    | _ => none) = _
  rw [h]
theorem row_rl {M : Mu} {a : Addr} {ds : List D} (h : M a = some (.lst ds)) : rowOf M (.ref a) = some ds := by
  show (match M a with
    | some (.lst ds) => some ds
    | _ => none) = _
  rw [h]
theorem p_l_same (n : Nat) : ∀ ds M Q E, sp_l_same n ds M Q E → w_l_same n (Ret Q E) (ds.map some ++ List.replicate (2 - 2) none) M := by
  rintro ds M Q E ⟨x, y, rfl, px, py, hQ⟩
  have kx := vk_of px
  have ky := vk_of py
  have px0 := px
  have py0 := py
  unfold w_l_same
  generalize vw M n x = x' at kx px hQ
  generalize vw M n y = y' at ky py hQ
  cases ky with
  | non =>
    walk_at "dl"
    cases kx <;> exact hQ
  | bl b =>
    walk_at "dl"
    try simp only [show isaB "bool" "bool" = true by decide]
    walk_at "dl"
    try simp only [show isaB "bool" "bool" = true by decide]
    walk_at "dl"
    refine ⟨by decide, ?_⟩
    cases kx <;> first
      | ((walk_at "dl"); refine ⟨by decide, ?_⟩; (try simp only [show isaB "bool" "bool" = true by decide]); (walk_at "dl"); rename_i a; rw [show decide (a = b) = (a == b) by cases a <;> cases b <;> rfl]; exact hQ)
      | ((walk_at "dl"); refine ⟨by decide, ?_⟩; exact hQ)
      | (rename_i hm; (try simp only [ty_rl hm]); (walk_at "dl"); refine ⟨by decide, ?_⟩; exact hQ)
  | int b =>
    walk_at "dl"
    refine ⟨by decide, ?_⟩
    try simp only [show isaB "int" "bool" = false by decide, show isaB "int" "int" = true by decide]
    walk_at "dl"
    try simp only [show isaB "int" "bool" = false by decide, show isaB "int" "int" = true by decide]
    walk_at "dl"
    refine ⟨by decide, ?_⟩
    cases kx <;> first
      | ((walk_at "dl"); refine ⟨by decide, ?_⟩; exact hQ)
      | ((walk_at "dl"); refine ⟨by decide, ?_⟩; (try simp only [show isaB "int" "int" = true by decide, show isaB "bool" "int" = true by decide]); (walk_at "dl"); refine ⟨by decide, ?_⟩; (try simp only [show isaB "int" "bool" = false by decide, show isaB "bool" "bool" = true by decide, Bool.not_false, Bool.not_true]); (walk_at "dl"); exact hQ)
      | (rename_i hm; (try simp only [ty_rl hm]); (walk_at "dl"); refine ⟨by decide, ?_⟩; exact hQ)
  | str b =>
    walk_at "dl"
    refine ⟨by decide, ?_⟩
    try simp only [show isaB "str" "bool" = false by decide, show isaB "str" "int" = false by decide, show isaB "str" "str" = true by decide]
    walk_at "dl"
    try simp only [show isaB "str" "bool" = false by decide, show isaB "str" "int" = false by decide, show isaB "str" "str" = true by decide]
    walk_at "dl"
    refine ⟨by decide, by decide, ?_⟩
    cases kx <;> first
      | ((walk_at "dl"); refine ⟨by decide, ?_⟩; exact hQ)
      | ((walk_at "dl"); refine ⟨by decide, ?_⟩; (try simp only [show isaB "str" "str" = true by decide]); (walk_at "dl"); rename_i a; rw [show decide (a = b) = (a == b) by rw [Bool.eq_iff_iff, decide_eq_true_iff, beq_iff_eq]]; exact hQ)
      | (rename_i hm; (try simp only [ty_rl hm]); (walk_at "dl"); refine ⟨by decide, ?_⟩; exact hQ)
  | lst bs =>
    walk_at "dl"
    refine ⟨by decide, ?_⟩
    try simp only [show isaB "list" "bool" = false by decide, show isaB "list" "int" = false by decide, show isaB "list" "str" = false by decide, show isaB "list" "list" = true by decide]
    walk_at "dl"
    try simp only [show isaB "list" "bool" = false by decide, show isaB "list" "int" = false by decide, show isaB "list" "str" = false by decide, show isaB "list" "list" = true by decide]
    walk_at "dl"
    refine ⟨by decide, by decide, by decide, ?_⟩
    cases kx <;> first
      | ((walk_at "dl"); refine ⟨by decide, ?_⟩; exact hQ)
      | ((walk_at "dl"); refine ⟨by decide, ?_⟩; (try simp only [show isaB "list" "list" = true by decide]); (walk_at "dl"); exact ⟨_, _, _, _, rfl, rfl, rfl, px0, py0, hQ⟩)
      | (rename_i hm; (try simp only [ty_rl hm]); (walk_at "dl"); refine ⟨by decide, ?_⟩; (try simp only [show isaB "list" "list" = true by decide]); (walk_at "dl"); exact ⟨_, _, _, _, rfl, row_rl hm, rfl, px0, py0, hQ⟩)
  | ref b bs hb =>
    walk_at "dl"
    try simp only [ty_rl hb, show isaB "list" "bool" = false by decide, show isaB "list" "int" = false by decide, show isaB "list" "str" = false by decide, show isaB "list" "list" = true by decide]
    walk_at "dl"
    try simp only [ty_rl hb, show isaB "list" "bool" = false by decide, show isaB "list" "int" = false by decide, show isaB "list" "str" = false by decide, show isaB "list" "list" = true by decide]
    walk_at "dl"
    refine ⟨by decide, ?_⟩
    try simp only [ty_rl hb, show isaB "list" "bool" = false by decide, show isaB "list" "int" = false by decide, show isaB "list" "str" = false by decide, show isaB "list" "list" = true by decide]
    walk_at "dl"
    try simp only [ty_rl hb, show isaB "list" "bool" = false by decide, show isaB "list" "int" = false by decide, show isaB "list" "str" = false by decide, show isaB "list" "list" = true by decide]
    walk_at "dl"
    refine ⟨by decide, ?_⟩
    try simp only [ty_rl hb, show isaB "list" "bool" = false by decide, show isaB "list" "int" = false by decide, show isaB "list" "str" = false by decide, show isaB "list" "list" = true by decide]
    walk_at "dl"
    try simp only [ty_rl hb, show isaB "list" "bool" = false by decide, show isaB "list" "int" = false by decide, show isaB "list" "str" = false by decide, show isaB "list" "list" = true by decide]
    walk_at "dl"
    refine ⟨by decide, ?_⟩
    try simp only [ty_rl hb, show isaB "list" "bool" = false by decide, show isaB "list" "int" = false by decide, show isaB "list" "str" = false by decide, show isaB "list" "list" = true by decide]
    walk_at "dl"
    try simp only [ty_rl hb, show isaB "list" "bool" = false by decide, show isaB "list" "int" = false by decide, show isaB "list" "str" = false by decide, show isaB "list" "list" = true by decide]
    walk_at "dl"
    refine ⟨by decide, ?_⟩
    cases kx <;> first
      | ((walk_at "dl"); refine ⟨by decide, ?_⟩; exact hQ)
      | ((walk_at "dl"); refine ⟨by decide, ?_⟩; (try simp only [show isaB "list" "list" = true by decide]); (walk_at "dl"); exact ⟨_, _, _, _, rfl, rfl, row_rl hb, px0, py0, hQ⟩)
      | (rename_i hm; (try simp only [ty_rl hm]); (walk_at "dl"); refine ⟨by decide, ?_⟩; (try simp only [show isaB "list" "list" = true by decide]); (walk_at "dl"); exact ⟨_, _, _, _, rfl, row_rl hm, row_rl hb, px0, py0, hQ⟩)
  | tup bs =>
    walk_at "dl"
    refine ⟨by decide, ?_⟩
    try simp only [show isaB "tuple" "bool" = false by decide, show isaB "tuple" "int" = false by decide, show isaB "tuple" "str" = false by decide, show isaB "tuple" "list" = false by decide]
    walk_at "dl"
    try simp only [show isaB "tuple" "bool" = false by decide, show isaB "tuple" "int" = false by decide, show isaB "tuple" "str" = false by decide, show isaB "tuple" "list" = false by decide]
    walk_at "dl"
    refine ⟨by decide, by decide, by decide, ?_⟩
    cases kx <;> first
      | ((walk_at "dl"); refine ⟨by decide, ?_⟩; exact hQ)
      | ((walk_at "dl"); refine ⟨by decide, ?_⟩; (try simp only [show isaB "tuple" "tuple" = true by decide]); (walk_at "dl"); exact ⟨_, _, _, _, rfl, rfl, rfl, px0, py0, hQ⟩)
      | (rename_i hm; (try simp only [ty_rl hm]); (walk_at "dl"); refine ⟨by decide, ?_⟩; exact hQ)
theorem no_row0 : ∀ ds M Q E, ¬ sp_l_same_row 0 ds M Q E := by
  rintro ds M Q E ⟨x, y, xs, ys, _, rx, _, px, _⟩
  cases x with
  | lst ds => have q := (ba (show (decide (ds.length ≤ 1000000) && plnIn 0 ds) = true from by have := px; unfold vw pln at this; exact this)).2; unfold plnIn at q; cases q
  | tup ds => have q := (ba (show (decide (ds.length ≤ 1000000) && plnIn 0 ds) = true from by have := px; unfold vw pln at this; exact this)).2; unfold plnIn at q; cases q
  | ref a => unfold vw pln at px; cases px
  | _ => cases rx
end DL
namespace DL
open PySem L2
local macro_rules | `(tactic| walk_at "dl") => `(tactic| try simp (config := { proj := false }) only [↓ex_mk, ↓nx_mk, ↓rt_mk, ↓bk_mk, ↓ct_mk, ↓xc_mk, ↓u_c, ↓u_op, ↓u_un, ↓u_and, ↓u_or, ↓u_not, ↓u_if, ↓u_anil, ↓u_acons, ↓u_lst, ↓u_lstM, ↓u_tup, ↓u_call, ↓u_sl, ↓u_onone, ↓u_cb, ↓u_mt, ↓u_mt0, ↓u_pass, ↓u_seq, ↓u_set, ↓u_asg, ↓u_drop, ↓u_ret, ↓u_retN, ↓u_ifs, ↓u_brk, ↓u_cnt, ↓u_for, ↓u_gname, ↓u_gsub, ↓u_fs, ↓u_fmt, ↓u_js0, ↓u_js, ↓u_em, ↓u_yes, ↓u_never, ↓u_ref, ↓u_forR, ↓u_star, ↓u_dict, ↓u_dict0, ↓u_dp0, ↓u_dp1, ↓u_forK, ↓u_lock, ↓u_kd, ↓u_fld, ↓u_setF, ↓u_make, ↓u_binL, ↓u_binR, ↓u_inO, ↓u_getO, ↓u_setO, ↓u_augO, ↓u_prp, ↓u_inv, ↓u_meth, ↓u_keys, ↓u_try, ↓u_cm, ↓u_makeV, ↓r_enum, ↓r_own, ↓u_raise, ↓u_tryas, ↓u_ca, ↓u_xf, ↓u_idxC, su_mk,
  ↓r_var, ↓r_test, ↓r_andV, ↓r_orV, ↓r_notV, ↓r_tru, ↓r_frz, ↓r_osome, ↓r_any, ↓r_scr, scr_c, ↓r_rng1, ↓r_rng2, ↓r_fz, wipeD,
  onSome_s, onBl_b, onInt_i, onStr_s, onVar_s, onML_l, onML2_l, onML2_d, onDK_d, fmt_s, fmt_i, tru_n, tru_b, tru_i, tru_s, tru_l, tru_t, tru_r, frz_r, sl_s, sl_l, sl_t, sl_r, add_i, add_s, add_l, add_t, add_rl, add_lr, sub_i, mul_i, div_i, mod_i, pow_i, neg_i, cmp_i, eq_i, eq_s, eq_b, eq_n, eq_l, eq_t, eq_rl, eq_lr, eq_ni, eq_in, eq_ns, eq_sn, eq_nb, eq_bn, eq_is, eq_si,
  ix_l, ix_t, ix_s, ix_ri, ix_rs, in_ss, in_l, in_t, in_ir, in_sr, isB_t, isB_f, ltS_s, gtS_s, sorted_l, keyK_s, keyK_i, u_dget, lenOR_r, listOR_r, isn_n, isn_b, isn_i, isn_s, isn_r, isn_l, isn_t, len_s, len_c, len_l, len_t, len_r, int_i, int_b, min_ii, max_ii, list_l, list_t, list_r, list_c, listM_l, listM_c, listM_t, listM_r, isi_, isi_k, ty_n, ty_b, ty_i, ty_s, ty_l, ty_t, it_s, it_l, it_r, itM_l, itM_d, app_r, rev_r, ends_s, ins_r, set_rs, str_i, str_s, ext_l, pop_r, clr_r, star_l, star_t, star_r, onRef_r, onML3_l, onML3_d, onML3_f, onDR_d, onDR_f, onFK_f, join_l, join_t, join_r, starts_s, r_gtup, r_glst, r_gnil, r_gcons, set_r, items_s, items_l, items_t, rng1_i, rng2_i, fz_r, addM_l, addM_rl, onIns_i, onLst_l, isIns_r, isInsM_i, noF_r, noFM_i, rows_r, lenO_r, listO_r, listOM_r, isCK_i, isCK_l, isC_r, isC_s, isC_i, isC_b, isC_n, isC_l, isC_t, putG_0, putG_1, lk_1, onCl_c, onEnum_l, index_l, strO_r, cmpO_r, pop1_r, tuple_l, tuple_t, divmod_i, upper_s, indexT_t, onExc_e, isE_t, isE_c, isE_v, zip_1,
  List.map_cons, List.map_nil, List.cons_append, List.nil_append, List.length_cons, List.length_nil, List.replicate, List.getElem?_cons_zero, List.getElem?_cons_succ, List.set_cons_zero, List.set_cons_succ, id, decide_eq_true_eq, if_true, if_false, Bool.false_eq_true, reduceIte, Bool.not_true, Bool.not_false, true_and, Nat.reduceAdd, Nat.reduceSub, Int.reduceToNat, Int.toNat_natCast, put_same, put_put, atI_0, atI_1, atI_2, atI_3, atI_4, ixN_40, ixN_41, ixN_42, ixN_43])
def L_S : List Tx := [T "look", T "peek", T "reserved"]
def L_D : List Tx := [T "see", T "lend", T "reserve", T "mark", T "fill", T "pack", T "work"]
def L_R : List Tx := [T "same", T "over", T "overbox", T "under", T "underbox"]
def k_STANDINGS : D := .tup (L_S.map D.str)
def k_DEEDS : D := .tup (L_D.map D.str)
def k_RELATIONS : D := .tup (L_R.map D.str)
def sp_l_standings : DSp := fun ds M Q _ => ds = [] ∧ Q (.lst (L_S.map D.str)) M
def sp_l_deeds : DSp := fun ds M Q _ => ds = [] ∧ Q (.lst (L_D.map D.str)) M
def sp_l_relations : DSp := fun ds M Q _ => ds = [] ∧ Q (.lst (L_R.map D.str)) M
def w_l_standings : DTS := dRet (dLst (daCons (dC (.str (T "look"))) (daCons (dC (.str (T "peek"))) (daCons (dC (.str (T "reserved"))) (daNil)))))
def w_l_deeds : DTS := dRet (dLst (daCons (dC (.str (T "see"))) (daCons (dC (.str (T "lend"))) (daCons (dC (.str (T "reserve"))) (daCons (dC (.str (T "mark"))) (daCons (dC (.str (T "fill"))) (daCons (dC (.str (T "pack"))) (daCons (dC (.str (T "work"))) (daNil)))))))))
def w_l_relations : DTS := dRet (dLst (daCons (dC (.str (T "same"))) (daCons (dC (.str (T "over"))) (daCons (dC (.str (T "overbox"))) (daCons (dC (.str (T "under"))) (daCons (dC (.str (T "underbox"))) (daNil)))))))
theorem p_l_standings : ∀ ds M Q E, sp_l_standings ds M Q E → w_l_standings (Ret Q E) (ds.map some ++ List.replicate (0 - 0) none) M := by
  rintro ds M Q E ⟨rfl, hQ⟩
  unfold w_l_standings
  walk_at "dl"
  exact ⟨by decide, hQ⟩
theorem p_l_deeds : ∀ ds M Q E, sp_l_deeds ds M Q E → w_l_deeds (Ret Q E) (ds.map some ++ List.replicate (0 - 0) none) M := by
  rintro ds M Q E ⟨rfl, hQ⟩
  unfold w_l_deeds
  walk_at "dl"
  exact ⟨by decide, hQ⟩
theorem p_l_relations : ∀ ds M Q E, sp_l_relations ds M Q E → w_l_relations (Ret Q E) (ds.map some ++ List.replicate (0 - 0) none) M := by
  rintro ds M Q E ⟨rfl, hQ⟩
  unfold w_l_relations
  walk_at "dl"
  exact ⟨by decide, hQ⟩
def entT (s d r : Tx) : Tx := s ++ [32] ++ d ++ [32] ++ r
def wE (ss ds rs : List Tx) : List Tx := ss.flatMap fun s => ds.flatMap fun d => rs.map fun r => entT s d r
abbrev ents : List Tx := wE L_S L_D L_R
def shortT (ts : List Tx) : Prop := ts.length ≤ 10 ∧ ∀ t ∈ ts, t.length ≤ 20
def RowT (x : D) (ts : List Tx) : Prop := itemsD x = some (txs ts)
def sp_written_entries : DSp := fun ds M Q _ => ∃ x y z ss rs ws, ds = [x, y, z] ∧ RowT x ss ∧ RowT y rs ∧ RowT z ws ∧ shortT ss ∧ shortT rs ∧ shortT ws ∧ ∀ p, M p = none → Q (.ref p) (put M p (.lst (txs (wE ss rs ws))))
def w_written_entries : DTS := dRet (dLcM (diAny (dVar 0)) (dgName 3) (dYes) [3, 4, 5] [⟨diAny (dVar 1), dgName 4, dYes, [4, 5]⟩, ⟨diAny (dVar 2), dgName 5, dYes, [5]⟩] (dFs [dFmt (dVar 3), dC (.str [32]), dFmt (dVar 4), dC (.str [32]), dFmt (dVar 5)]))
theorem wE_txs (ss rs ws : List Tx) : txs (wE ss rs ws) = (txs ss).flatMap fun a => (txs rs).flatMap fun b => (txs ws).flatMap fun c => match a, b, c with
    | .str s, .str d, .str r => [D.str (entT s d r)]
    | _, _, _ => [] := by
  unfold txs wE
  simp only [List.flatMap_map, List.map_flatMap, List.map_map]
  congr 1; funext s; congr 1; funext d
  induction ws with
  | nil => rfl
  | cons w ws ih => simp only [List.map_cons, List.flatMap_cons, ih]; rfl
theorem flat_len {α β : Type} {f : α → List β} {n : Nat} : ∀ {l : List α}, (∀ a ∈ l, (f a).length = n) → (l.flatMap f).length = l.length * n
  | [], _ => by simp
  | a :: l, h => by
    rw [List.flatMap_cons, List.length_append, h a List.mem_cons_self, flat_len fun b hb => h b (List.mem_cons_of_mem _ hb), List.length_cons, Nat.succ_mul, Nat.add_comm]
theorem wE_len (ss rs ws : List Tx) : (wE ss rs ws).length = ss.length * (rs.length * ws.length) :=
  flat_len fun s _ => flat_len fun d _ => by rw [List.length_map]
theorem p_written_entries : ∀ ds M Q E, sp_written_entries ds M Q E → w_written_entries (Ret Q E) (ds.map some ++ List.replicate (6 - 3) none) M := by
  rintro ds M Q E ⟨x, y, z, ss, rs, ws, rfl, hx, hy, hz, lx, ly, lz, hQ⟩
  have hx : itemsD x = some (txs ss) := hx
  have hy : itemsD y = some (txs rs) := hy
  have hz : itemsD z = some (txs ws) := hz
  unfold w_written_entries
  walk_at "dl"
  try simp only [dLcM]
  walk_at "dl"
  try simp only [dLcM]
  walk_at "dl"
  try simp only [hx]
  walk_at "dl"
  try simp only [hx]
  walk_at "dl"
  intro p hp
  have e := wE_txs ss rs ws
  have hQ := hQ p hp
  rw [e] at hQ
  refine adds_ts [] (M := M) (L := fun a => (txs rs).flatMap fun b => (txs ws).flatMap fun c => match a, b, c with
    | .str s, .str d, .str r => [D.str (entT s d r)]
    | _, _, _ => []) ?_ ?_ (by rw [List.nil_append]; exact hQ)
  · intro a ha
    obtain ⟨s, hs, rfl⟩ := List.mem_map.mp ha
    refine adds_cl (ds := txs rs) (L := fun b => (txs ws).flatMap fun c => match D.str s, b, c with
      | .str s, .str d, .str r => [D.str (entT s d r)]
      | _, _, _ => []) (fun acc N h => ?_) fun b hb => ?_
    · walk_at "dl"
      try simp only [hy]
      walk_at "dl"
      try simp only [hy]
      walk_at "dl"
      exact h
    · obtain ⟨d, hd, rfl⟩ := List.mem_map.mp hb
      refine adds_cl (ds := txs ws) (L := fun c => match D.str s, D.str d, c with
        | .str s, .str d, .str r => [D.str (entT s d r)]
        | _, _, _ => []) (fun acc N h => ?_) fun c hc => ?_
      · walk_at "dl"
        try simp only [hz]
        walk_at "dl"
        try simp only [hz]
        walk_at "dl"
        exact h
      · obtain ⟨r, hr, rfl⟩ := List.mem_map.mp hc
        refine adds_em fun acc N h => ?_
        have l1 := lx.2 s hs
        have l2 := ly.2 d hd
        have l3 := lz.2 r hr
        walk_at "dl"
        simp only [List.length_append, List.length_cons, List.length_nil]
        exact ⟨by omega, by omega, by omega, by omega, by omega, by omega, by omega, by omega, h⟩
  · rw [← e, txs, List.length_map, wE_len]
    have q := Nat.mul_le_mul lx.1 (Nat.mul_le_mul ly.1 lz.1)
    simp only [List.length_nil]
    omega
def wordsL (t : Tx) (ws : List Tx) : List Tx := if t = [42] then ws else ws.filter fun w => decide (w ∈ cutAt 44 t)
def goodPart (t : Tx) (ws : List Tx) : Prop := t = [42] ∨ ∀ w ∈ cutAt 44 t, w ∈ ws
def sp_words_of : DSp := fun ds M Q _ => ∃ t ws, ds = [.str t, .tup (txs ws)] ∧ shortT ws ∧ t.length ≤ 100000 ∧ (goodPart t ws → Q (.lst (txs (wordsL t ws))) M) ∧ (¬ goodPart t ws → Q .non M)
def w_words_of : DTS := dSeq (dIfS (dTest (dOp gEq (dVar 0) (dC (.str [42])))) (dRet (dCB gList (daCons (dVar 1) (daNil)))) (dPass)) (dSeq (dSet 2 (dMt "str" gSplit (dVar 0) (daCons (dC (.str [44])) (daNil)))) (dSeq (dIfS (dNot (dTru (dCB gAll (daCons (dFrz (dLcM (diAny (dVar 2)) (dgName 3) (dYes) [3] [] (dOp gIn (dVar 3) (dVar 1)))) (daNil))))) (dRet (dC .non)) (dPass)) (dRet (dFrz (dLcM (diAny (dVar 1)) (dgName 3) (dTest (dOp gIn (dVar 3) (dVar 2))) [3] [] (dVar 3))))))
theorem cut_len (c : Nat) : ∀ t : Tx, (cutAt c t).length ≤ t.length + 1
  | [] => by simp [cutAt]
  | x :: r => by
    have h := cut_len c r
    by_cases e : x = c
    · rw [show cutAt c (x :: r) = [] :: cutAt c r from if_pos e, List.length_cons, List.length_cons]; omega
    · have hc : cutAt c (x :: r) = (match cutAt c r with
        | y :: ys => (x :: y) :: ys
        | [] => [[x]]) := if_neg e
      rw [hc]
      cases h2 : cutAt c r with
      | nil => simp
      | cons y ys => rw [h2] at h; simp only [List.length_cons] at h ⊢; omega
theorem p_words_of : ∀ ds M Q E, sp_words_of ds M Q E → w_words_of (Ret Q E) (ds.map some ++ List.replicate (4 - 2) none) M := by
  rintro ds M Q E ⟨t, ws, rfl, hw, ht, h1, h2⟩
  unfold w_words_of
  walk_at "dl"
  by_cases e : t = [42]
  · rw [if_pos e]
    have q := h1 (.inl e)
    rw [wordsL, if_pos e] at q
    exact q
  · rw [if_neg e]
    refine ⟨by decide, by omega, ?_⟩
    try simp only [dLcM]
    walk_at "dl"
    try simp only [dLcM]
    walk_at "dl"
    intro p hp
    refine lc_map (f := fun d => match d with
      | .str w => .bl (decide (w ∈ ws))
      | _ => .non) ?_ ?_ ?_
    · have := cut_len 44 t
      rw [List.length_map]; omega
    · intro d hd acc N h
      obtain ⟨w, hw2, rfl⟩ := List.mem_map.mp hd
      walk_at "dl"
      exact ⟨rfl, flat_txs, by rw [inD_txs]; exact h⟩
    · try simp only [put_same, del_put_new hp]
      walk_at "dl"
      try simp only [put_same, del_put_new hp]
      walk_at "dl"
      refine ⟨(cutAt 44 t).map fun w => decide (w ∈ ws), by rw [List.map_map, List.map_map]; rfl, ?_⟩
      have gp : ((cutAt 44 t).map fun w => decide (w ∈ ws)).all id = true ↔ goodPart t ws := by
        rw [List.all_map, List.all_eq_true]
        constructor
        · exact fun h => .inr fun w hw => by simpa using h w hw
        · exact fun h w hw => by simpa using (h.resolve_left e) w hw
      walk_at "dl"
      by_cases g : goodPart t ws
      · rw [gp.mpr g]
        try simp only [Bool.not_true]
        walk_at "dl"
        try simp only [Bool.not_true]
        walk_at "dl"
        intro p hp
        refine lc_pure (f := id) (g := fun d => match d with
          | .str w => decide (w ∈ cutAt 44 t)
          | _ => false) ?_ ?_ ?_ ?_
        · rw [txs, List.length_map]; have := hw.1; omega
        · intro d hd acc N h
          obtain ⟨w, hw2, rfl⟩ := List.mem_map.mp hd
          walk_at "dl"
          exact ⟨rfl, flat_txs, by have q := inD_txs (w := w) (ws := cutAt 44 t); rw [txs] at q; rw [q]; exact h⟩
        · intro d hd _ acc N h
          walk_at "dl"
          exact h
        · try simp only [put_same, del_put_new hp]
          walk_at "dl"
          try simp only [put_same, del_put_new hp]
          walk_at "dl"
          have q := h1 g
          rw [wordsL, if_neg e] at q
          rw [List.map_id, txs, List.filter_map]
          exact q
      · rw [Bool.eq_false_iff.mpr fun z => g (gp.mp z)]
        walk_at "dl"
        exact h2 g
theorem shortS : shortT L_S := by unfold shortT; decide +kernel
theorem shortD : shortT L_D := by unfold shortT; decide +kernel
theorem shortR : shortT L_R := by unfold shortT; decide +kernel
theorem shortW {t : Tx} {ws : List Tx} (h : shortT ws) : shortT (wordsL t ws) := by
  unfold wordsL
  split
  · exact h
  · exact ⟨Nat.le_trans (List.length_filter_le _ _) h.1, fun w hw => h.2 w (List.mem_filter.mp hw).1⟩
structure Pat (t a b c : Tx) : Prop where
  cut : cutAt 32 t = [a, b, c]
  la : a.length ≤ 100000
  lb : b.length ≤ 100000
  lc : c.length ≤ 100000
  lt : t.length ≤ 100000
  ga : goodPart a L_S
  gb : goodPart b L_D
  gc : goodPart c L_R
def patE (a b c : Tx) : List Tx := wE (wordsL a L_S) (wordsL b L_D) (wordsL c L_R)
def spG_expand : DSp := fun ds M Q _ => ∃ t a b c, ds = [.str t] ∧ Pat t a b c ∧ ∀ p, M p = none → Q (.ref p) (put M p (.lst (txs (patE a b c))))
def gpB (t : Tx) (ws : List Tx) : Bool := decide (t = [42]) || (cutAt 44 t).all fun w => decide (w ∈ ws)
theorem gpB_ok {t : Tx} {ws : List Tx} : gpB t ws = true ↔ goodPart t ws := by
  unfold gpB goodPart
  rw [Bool.or_eq_true, decide_eq_true_iff, List.all_eq_true]
  simp only [decide_eq_true_eq]
def patB (t : Tx) : Bool := match cutAt 32 t with
  | [a, b, c] => gpB a L_S && gpB b L_D && gpB c L_R
  | _ => false
def errI (t : Tx) : XD := ⟨"InvalidEntry", [("text", .str t)]⟩
structure BadP (t : Tx) : Prop where
  no : patB t = false
  len : t.length ≤ 100000
def sp_expand : DSp := fun ds M Q E => spG_expand ds M Q E ∨ ∃ t, ds = [.str t] ∧ BadP t ∧ E (errI t) M
theorem spG_in {ds : List D} {M : Mu} {Q : DK} {E : DX} (h : spG_expand ds M Q E) : sp_expand ds M Q E := .inl h
def w_expand_c1 : DTS := dRet (dCall sp_written_entries (daCons (dVar 2) (daCons (dVar 3) (daCons (dVar 4) (daNil)))))
def w_expand : DTS := dSeq (dSet 1 (dMt "str" gSplit (dVar 0) (daCons (dC (.str [32])) (daNil)))) (dSeq (dIfS (dTest (dOp gNe (dCB gLen (daCons (dVar 1) (daNil))) (dC (.int 3)))) (dRaise "InvalidEntry" "text" (dVar 0)) (dPass)) (dSeq (dSet 2 (dCall sp_words_of (daCons (dOp gIx (dVar 1) (dC (.int 0))) (daCons (dC k_STANDINGS) (daNil))))) (dSeq (dSet 3 (dCall sp_words_of (daCons (dOp gIx (dVar 1) (dC (.int 1))) (daCons (dC k_DEEDS) (daNil))))) (dSeq (dSet 4 (dCall sp_words_of (daCons (dOp gIx (dVar 1) (dC (.int 2))) (daCons (dC k_RELATIONS) (daNil))))) (dSeq (dIfS (dOr (dTest (dOp gIsN (dVar 2) (dC .non))) (dOr (dTest (dOp gIsN (dVar 3) (dC .non))) (dTest (dOp gIsN (dVar 4) (dC .non))))) (dRaise "InvalidEntry" "text" (dVar 0)) (dPass)) (w_expand_c1))))))
theorem pG_expand : ∀ ds M Q E, spG_expand ds M Q E → w_expand (Ret Q E) (ds.map some ++ List.replicate (5 - 1) none) M := by
  rintro ds M Q E ⟨t, a, b, c, rfl, P, hQ⟩
  unfold w_expand
  walk_at "dl"
  refine ⟨by decide, by have := P.lt; omega, ?_⟩
  try simp only [P.cut]
  walk_at "dl"
  try simp only [P.cut]
  walk_at "dl"
  have l1 := P.la
  have l2 := P.lb
  have l3 := P.lc
  refine ⟨a, L_S, rfl, shortS, by omega, fun _ => ?_, fun z => (z P.ga).elim⟩
  walk_at "dl"
  refine ⟨b, L_D, rfl, shortD, by omega, fun _ => ?_, fun z => (z P.gb).elim⟩
  walk_at "dl"
  refine ⟨c, L_R, rfl, shortR, by omega, fun _ => ?_, fun z => (z P.gc).elim⟩
  unfold w_expand_c1
  walk_at "dl"
  exact ⟨_, _, _, _, _, _, rfl, rfl, rfl, rfl, shortW shortS, shortW shortD, shortW shortR, hQ⟩
theorem cutAt_lenE {c : Nat} : ∀ {t : Tx}, ∀ p ∈ cutAt c t, p.length ≤ t.length
  | [], p, hp => by
    rw [List.mem_singleton.mp hp]; exact Nat.le_refl _
  | x :: r, p, hp => by
    unfold cutAt at hp
    split at hp
    · rcases List.mem_cons.mp hp with rfl | hp
      · exact Nat.zero_le _
      · exact Nat.le_succ_of_le (cutAt_lenE p hp)
    · split at hp
      · rename_i y ys e
        have all := fun q (hq : q ∈ cutAt c r) => cutAt_lenE q hq
        rw [e] at all
        rcases List.mem_cons.mp hp with rfl | hp
        · exact Nat.succ_le_succ (all y List.mem_cons_self)
        · exact Nat.le_succ_of_le (all p (List.mem_cons_of_mem _ hp))
      · rw [List.mem_singleton.mp hp]
        exact Nat.succ_le_succ (Nat.zero_le _)
theorem p_expand : ∀ ds M Q E, sp_expand ds M Q E → w_expand (Ret Q E) (ds.map some ++ List.replicate (5 - 1) none) M := by
  rintro ds M Q E (h | ⟨t, rfl, B, hE⟩)
  · exact pG_expand ds M Q E h
  have lt := B.len
  have ln := fun p hp => cutAt_lenE (c := 32) (t := t) p hp
  unfold w_expand
  walk_at "dl"
  refine ⟨by decide, by omega, ?_⟩
  have hb := B.no
  unfold patB at hb
  have len3 : ∀ l : List Tx, l.length = 3 → ∃ a b c, l = [a, b, c] := fun l hl => by
    match l, hl with
    | [a, b, c], _ => exact ⟨a, b, c, rfl⟩
  by_cases h3 : (cutAt 32 t).length = 3
  · obtain ⟨a, b, c, e⟩ := len3 _ h3
    rw [e] at hb ln ⊢
    have hb : (gpB a L_S && gpB b L_D && gpB c L_R) = false := hb
    have la := Nat.le_trans (ln a (by simp)) lt
    have lb := Nat.le_trans (ln b (by simp)) lt
    have lc := Nat.le_trans (ln c (by simp)) lt
    walk_at "dl"
    rw [if_neg (by decide)]
    refine ⟨a, L_S, rfl, shortS, la, fun g1 => ?_, fun g1 => ?_⟩
    · walk_at "dl"
      refine ⟨b, L_D, rfl, shortD, lb, fun g2 => ?_, fun g2 => ?_⟩
      · walk_at "dl"
        refine ⟨c, L_R, rfl, shortR, lc, fun g3 => ?_, fun g3 => ?_⟩
        · rw [gpB_ok.mpr g1, gpB_ok.mpr g2, gpB_ok.mpr g3] at hb
          cases hb
        · walk_at "dl"
          exact hE
      · walk_at "dl"
        refine ⟨c, L_R, rfl, shortR, lc, fun g3 => ?_, fun g3 => ?_⟩
        · walk_at "dl"
          exact hE
        · walk_at "dl"
          exact hE
    · walk_at "dl"
      refine ⟨b, L_D, rfl, shortD, lb, fun g2 => ?_, fun g2 => ?_⟩
      · walk_at "dl"
        refine ⟨c, L_R, rfl, shortR, lc, fun g3 => ?_, fun g3 => ?_⟩
        · walk_at "dl"
          exact hE
        · walk_at "dl"
          exact hE
      · walk_at "dl"
        refine ⟨c, L_R, rfl, shortR, lc, fun g3 => ?_, fun g3 => ?_⟩
        · walk_at "dl"
          exact hE
        · walk_at "dl"
          exact hE
  · walk_at "dl"
    rw [List.length_map, decide_eq_false (by omega), if_pos (by decide)]
    exact hE
def sp_l_entries : DSp := fun ds M Q _ => ds = [] ∧ Q (.lst (txs ents)) M
def w_l_entries_b1 : DTS := dDrop (dMt "list" gAppend (dVar 0) (daCons (dOp gAdd (dOp gAdd (dOp gAdd (dOp gAdd (dVar 1) (dC (.str [32]))) (dVar 2)) (dC (.str [32]))) (dVar 3)) (daNil)))
def w_l_entries_b2 : DTS := dFor (diAny (dCall sp_l_relations (daNil))) (dgName 3) (w_l_entries_b1)
def w_l_entries_b3 : DTS := dFor (diAny (dCall sp_l_deeds (daNil))) (dgName 2) (w_l_entries_b2)
def w_l_entries : DTS := dSeq (dSet 0 (dLstM (daNil))) (dSeq (dFor (diAny (dCall sp_l_standings (daNil))) (dgName 1) (w_l_entries_b3)) (dRet (dFrz (dVar 0))))
theorem ent_b2 {p : Addr} {s d : Tx} {x3 : Option D} {acc : List D} {M : Mu} {D0 : DEnds} (hl : acc.length ≤ 1000) (ls : s.length ≤ 20) (ld : d.length ≤ 20)
    (hn : ∀ x3', D0.nx [some (.ref p), some (.str s), some (.str d), x3'] (put M p (.lst (acc ++ txs (L_R.map (entT s d)))))) : w_l_entries_b2 D0 [some (.ref p), some (.str s), some (.str d), x3] (put M p (.lst acc)) := by
  unfold w_l_entries_b2
  walk_at "dl"
  refine ⟨rfl, ?_⟩
  walk_at "dl"
  refine wFor_by (fun i τ M' => (∃ x, τ = [some (.ref p), some (.str s), some (.str d), x]) ∧ M' = put M p (.lst (acc ++ txs ((L_R.take i).map (entT s d))))) ⟨⟨x3, rfl⟩, by simp [txs]⟩ ?_ ?_
  · rintro i e τ M' he ⟨⟨x, rfl⟩, rfl⟩ nxt hnx
    obtain ⟨r, hr, rfl⟩ := map_at he
    have lr := shortR.2 r (List.mem_of_getElem? hr)
    have hi := (List.getElem?_eq_some_iff.mp hr).1
    have lR : L_R.length = 5 := rfl
    unfold w_l_entries_b1
    walk_at "dl"
    refine ⟨by simp; omega, by simp; omega, by simp; omega, by simp; omega, ?_⟩
    try simp only [put_same]
    walk_at "dl"
    try simp only [put_same]
    walk_at "dl"
    refine ⟨by simp [txs]; omega, ?_⟩
    refine hnx _ _ ⟨⟨_, rfl⟩, ?_⟩
    rw [List.take_succ, hr, List.map_append, txs, txs, List.map_append, List.append_assoc]
    rfl
  · rintro τ M' ⟨⟨x, rfl⟩, rfl⟩
    have q := hn x
    rw [List.length_map, List.take_length]
    exact q
theorem take_flat {α β : Type} {f : α → List β} {l : List α} {i : Nat} {a : α} (h : l[i]? = some a) : (l.take (i + 1)).flatMap f = (l.take i).flatMap f ++ f a := by
  rw [List.take_succ, h, List.flatMap_append]
  simp
theorem ent_b3 {p : Addr} {s : Tx} {x2 x3 : Option D} {acc : List D} {M : Mu} {D0 : DEnds} (hl : acc.length ≤ 500) (ls : s.length ≤ 20)
    (hn : ∀ x2' x3', D0.nx [some (.ref p), some (.str s), x2', x3'] (put M p (.lst (acc ++ txs (L_D.flatMap fun d => L_R.map (entT s d)))))) : w_l_entries_b3 D0 [some (.ref p), some (.str s), x2, x3] (put M p (.lst acc)) := by
  unfold w_l_entries_b3
  walk_at "dl"
  refine ⟨rfl, ?_⟩
  walk_at "dl"
  refine wFor_by (fun i τ M' => (∃ x y, τ = [some (.ref p), some (.str s), x, y]) ∧ M' = put M p (.lst (acc ++ txs ((L_D.take i).flatMap fun d => L_R.map (entT s d))))) ⟨⟨x2, x3, rfl⟩, by simp [txs]⟩ ?_ ?_
  · rintro i e τ M' he ⟨⟨x, y, rfl⟩, rfl⟩ nxt hnx
    obtain ⟨d, hd, rfl⟩ := map_at he
    have hi := (List.getElem?_eq_some_iff.mp hd).1
    have lD : L_D.length = 7 := rfl
    have lR : L_R.length = 5 := rfl
    walk_at "dl"
    refine ent_b2 ?_ ls (shortD.2 d (List.mem_of_getElem? hd)) fun x3' => hnx _ _ ⟨⟨_, _, rfl⟩, ?_⟩
    · rw [List.length_append, txs, List.length_map, flat_len fun d _ => by rw [List.length_map], List.length_take, lR]
      omega
    · rw [take_flat hd, txs_app, List.append_assoc]
  · rintro τ M' ⟨⟨x, y, rfl⟩, rfl⟩
    have q := hn x y
    rw [List.length_map, List.take_length]
    exact q
theorem p_l_entries : ∀ ds M Q E, sp_l_entries ds M Q E → w_l_entries (Ret Q E) (ds.map some ++ List.replicate (4 - 0) none) M := by
  rintro ds M Q E ⟨rfl, hQ⟩
  unfold w_l_entries
  walk_at "dl"
  refine ⟨by decide, fun p hp => ⟨rfl, ?_⟩⟩
  walk_at "dl"
  refine wFor_by (fun i τ M' => (∃ x y z, τ = [some (.ref p), x, y, z]) ∧ M' = put M p (.lst (txs ((L_S.take i).flatMap fun s => L_D.flatMap fun d => L_R.map (entT s d))))) ⟨⟨_, _, _, rfl⟩, by simp [txs]⟩ ?_ ?_
  · rintro i e τ M' he ⟨⟨x, y, z, rfl⟩, rfl⟩ nxt hnx
    obtain ⟨s, hs, rfl⟩ := map_at he
    have hi := (List.getElem?_eq_some_iff.mp hs).1
    have lS : L_S.length = 3 := rfl
    have lD : L_D.length = 7 := rfl
    have lR : L_R.length = 5 := rfl
    walk_at "dl"
    refine ent_b3 ?_ (shortS.2 s (List.mem_of_getElem? hs)) fun x2' x3' => hnx _ _ ⟨⟨_, _, _, rfl⟩, ?_⟩
    · rw [txs, List.length_map, flat_len fun s _ => flat_len fun d _ => by rw [List.length_map], List.length_take, lD, lR]
      omega
    · rw [take_flat hs, txs_app]
  · rintro τ M' ⟨⟨x, y, z, rfl⟩, rfl⟩
    rw [List.length_map, List.take_length]
    walk_at "dl"
    try simp only [put_same, del_put_new hp]
    walk_at "dl"
    try simp only [put_same, del_put_new hp]
    walk_at "dl"
    exact hQ
def clean (ws : List Tx) : Prop := ∀ w ∈ ws, ∀ c ∈ w, c < 1114112 ∧ c ≠ 32 ∧ c ≠ 44 ∧ c ≠ 42
theorem cleanS : clean L_S := by unfold clean; decide +kernel
theorem cleanD : clean L_D := by unfold clean; decide +kernel
theorem cleanR : clean L_R := by unfold clean; decide +kernel
theorem cut_one {c : Nat} : ∀ {t : Tx}, c ∉ t → cutAt c t = [t]
  | [], _ => rfl
  | x :: r, h => by
    have h1 : ¬ x = c := fun e => h (by rw [e]; exact List.mem_cons_self)
    have h2 : cutAt c r = [r] := cut_one fun m => h (List.mem_cons_of_mem _ m)
    rw [show cutAt c (x :: r) = (match cutAt c r with
      | y :: ys => (x :: y) :: ys
      | [] => [[x]]) from if_neg h1, h2]
theorem cut_app {c : Nat} {r : Tx} : ∀ {t : Tx}, c ∉ t → cutAt c (t ++ c :: r) = t :: cutAt c r
  | [], _ => if_pos rfl
  | x :: t, h => by
    have h1 : ¬ x = c := fun e => h (by rw [e]; exact List.mem_cons_self)
    have h2 : cutAt c (t ++ c :: r) = t :: cutAt c r := cut_app fun m => h (List.mem_cons_of_mem _ m)
    rw [show cutAt c (x :: t ++ c :: r) = (match cutAt c (t ++ c :: r) with
      | y :: ys => (x :: y) :: ys
      | [] => [[x]]) from if_neg h1, h2]
theorem cut_join {c : Nat} : ∀ {ys : List Tx}, ys ≠ [] → (∀ y ∈ ys, c ∉ y) → cutAt c (joinT [c] ys) = ys
  | [], h, _ => absurd rfl h
  | [y], _, h => cut_one (h y List.mem_cons_self)
  | y :: z :: r, _, h => by
    show cutAt c (y ++ ([c] ++ joinT [c] (z :: r))) = _
    rw [List.singleton_append, cut_app (h y List.mem_cons_self), cut_join (by simp) fun w hw => h w (List.mem_cons_of_mem _ hw)]
theorem join_mem {s : Tx} {c : Nat} : ∀ {ys : List Tx}, c ∈ joinT s ys → c ∈ s ∨ ∃ y ∈ ys, c ∈ y
  | [], h => nomatch h
  | [y], h => .inr ⟨y, List.mem_cons_self, h⟩
  | y :: z :: r, h => by
    have h : c ∈ y ++ (s ++ joinT s (z :: r)) := h
    rw [List.mem_append, List.mem_append] at h
    rcases h with h | h | h
    · exact .inr ⟨y, List.mem_cons_self, h⟩
    · exact .inl h
    · rcases join_mem h with h | ⟨w, hw, h⟩
      · exact .inl h
      · exact .inr ⟨w, List.mem_cons_of_mem _ hw, h⟩
theorem join_len {s : Tx} {n : Nat} : ∀ {ys : List Tx}, (∀ y ∈ ys, y.length ≤ n) → (joinT s ys).length ≤ ys.length * (n + s.length)
  | [], h => Nat.zero_le _
  | [y], h => by
    have := h y List.mem_cons_self
    show y.length ≤ 1 * _
    omega
  | y :: z :: r, h => by
    have h1 := h y List.mem_cons_self
    have h2 := join_len (s := s) fun w hw => h w (List.mem_cons_of_mem _ hw)
    show (y ++ (s ++ joinT s (z :: r))).length ≤ ((z :: r).length + 1) * _
    rw [List.length_append, List.length_append, Nat.succ_mul]
    omega
structure PartT (t : Tx) (ws : List Tx) : Prop where
  len : t.length ≤ 300
  good : goodPart t ws
  no : 32 ∉ t
  ok : okT t
theorem part_word {w : Tx} {ws : List Tx} (hs : shortT ws) (hc : clean ws) (h : w ∈ ws) : PartT w ws :=
  ⟨by have := hs.2 w h; omega, .inr (by rw [cut_one fun m => (hc w h 44 m).2.2.1 rfl]; simpa using h), fun m => (hc w h 32 m).2.1 rfl, fun c hw => (hc w h c hw).1⟩
theorem part_star {ws : List Tx} : PartT [42] ws := ⟨by decide, .inl rfl, by decide, by unfold okT; decide⟩
theorem part_join {ws ys : List Tx} (hs : shortT ws) (hc : clean ws) (h0 : ys ≠ []) (hl : ys.length ≤ 8) (h : ∀ y ∈ ys, y ∈ ws) : PartT (joinT [44] ys) ws := by
  refine ⟨?_, .inr ?_, fun m => ?_, fun c m => ?_⟩
  · have q := join_len (s := [44]) (n := 20) fun y hy => hs.2 y (h y hy)
    have : ys.length * (20 + [44].length) ≤ 8 * 21 := Nat.mul_le_mul hl (Nat.le_refl _)
    omega
  · rw [cut_join h0 fun y hy m => (hc y (h y hy) 44 m).2.2.1 rfl]
    exact h
  · rcases join_mem m with m | ⟨y, hy, m⟩
    · simp at m
    · exact (hc y (h y hy) 32 m).2.1 rfl
  · rcases join_mem m with m | ⟨y, hy, m⟩
    · simp at m; omega
    · exact (hc y (h y hy) c m).1
def sp_l_words : DSp := fun ds M Q _ => ∃ a ws, ds = [.ref a, .lst (txs ws)] ∧ shortT ws ∧ clean ws ∧ 0 < ws.length ∧ Src M a ∧ ∀ t M', PartT t ws → SrcTo a M M' → Q (.str t) M'
def w_l_words : DTS := dSeq (dSet 2 (dCall sp_l_draw (daCons (dVar 0) (daCons (dC (.int 4)) (daNil))))) (dSeq (dIfS (dTest (dOp gEq (dVar 2) (dC (.int 0)))) (dRet (dCall sp_l_pick (daCons (dVar 0) (daCons (dVar 1) (daNil))))) (dPass)) (dSeq (dIfS (dTest (dOp gEq (dVar 2) (dC (.int 1)))) (dRet (dC (.str [42]))) (dPass)) (dRet (dMt "str" gJoin (dC (.str [44])) (daCons (dFrz (dLcM (diRng1 (daCons (dOp gAdd (dC (.int 1)) (dCall sp_l_draw (daCons (dVar 0) (daCons (dC (.int 8)) (daNil))))) (daNil))) (dgName 3) (dYes) [3] [] (dCall sp_l_pick (daCons (dVar 0) (daCons (dVar 1) (daNil)))))) (daNil))))))
theorem p_l_words : ∀ ds M Q E, sp_l_words ds M Q E → w_l_words (Ret Q E) (ds.map some ++ List.replicate (4 - 2) none) M := by
  rintro ds M Q E ⟨a, ws, rfl, hs, hc, h0, hsrc, hQ⟩
  have lw := hs.1
  have lt : (txs ws).length = ws.length := by rw [txs, List.length_map]
  unfold w_l_words
  walk_at "dl"
  refine draw_ hsrc (by decide) (by decide) fun k M1 k0 k1 s1 => ?_
  walk_at "dl"
  split
  · refine pick_ s1.1 rfl (by omega) (by omega) fun d M2 hd s2 => ?_
    obtain ⟨w, hw, rfl⟩ := List.mem_map.mp hd
    exact hQ w M2 (part_word hs hc hw) (s1.trans s2)
  · split
    · exact hQ [42] M1 part_star s1
    · try simp only [dLcM]
      walk_at "dl"
      try simp only [dLcM]
      walk_at "dl"
      refine draw_ s1.1 (by decide) (by decide) fun n M2 n0 n1 s2 => ?_
      walk_at "dl"
      refine ⟨by omega, by omega, ?_⟩
      intro p hp
      obtain ⟨s3, hap⟩ := src_other (m := .lst []) s2.1 hp
      refine lc_by (fun k acc M' => ∃ ys : List Tx, acc = txs ys ∧ ys.length = k ∧ (∀ y ∈ ys, y ∈ ws) ∧ Src M' a ∧ ∀ b, b ≠ a → b ≠ p → M' b = M2 b) ⟨[], rfl, rfl, (fun _ h => nomatch h), s3, fun b _ hb => put_ne hb⟩ put_same ?_ ?_
      · rintro k d acc M3 hk hM ⟨ys, rfl, rfl, hy, s4, hb⟩ N h1 h2
        have hlt := (List.getElem?_eq_some_iff.mp hk).1
        rw [upTo_len] at hlt
        walk_at "dl"
        refine pick_ s4 rfl (by omega) (by omega) fun d M4 hd s5 => ?_
        obtain ⟨w, hw, rfl⟩ := List.mem_map.mp hd
        have hM4 : M4 p = some (.lst (txs ys)) := by rw [s5.2 p (Ne.symm hap)]; exact hM
        refine ⟨txs ys, hM4, by rw [line24, txs, List.length_map]; omega, ?_⟩
        refine h1 (.str w) M4 hM4 ⟨ys ++ [w], by rw [txs_app]; rfl, by rw [List.length_append]; rfl, fun y m => ?_, ?_, fun b b1 b2 => ?_⟩
        · rcases List.mem_append.mp m with m | m
          · exact hy y m
          · rw [List.mem_singleton.mp m]; exact hw
        · obtain ⟨ns, t, r, d, e, z⟩ := s5.1
          exact ⟨ns, t, r, d, by rw [put_ne hap]; exact e, z⟩
        · rw [put_ne b2, s5.2 b b1, hb b b1 b2]
      · rintro acc M3 hM ⟨ys, rfl, hl, hy, s4, hb⟩
        rw [upTo_len] at hl
        try simp only [hM]
        walk_at "dl"
        try simp only [hM]
        walk_at "dl"
        have q := join_len (s := [44]) (n := 20) fun y h => hs.2 y (hy y h)
        refine ⟨ys, rfl, ?_, ?_⟩
        · have z : ∀ l : List Tx, (∀ y ∈ l, y.length ≤ 20) → (l.map (·.length)).sum ≤ l.length * 20 := by
            intro l
            induction l with
            | nil => intro _; exact Nat.zero_le _
            | cons x l ih =>
              intro h
              have h1 := h x List.mem_cons_self
              have h2 := ih fun y m => h y (List.mem_cons_of_mem _ m)
              rw [List.map_cons, List.sum_cons, List.length_cons]
              omega
          have z1 := z ys fun y h => hs.2 y (hy y h)
          omega
        · refine hQ _ _ (part_join hs hc (fun e => by rw [e] at hl; simp at hl; omega) (by omega) hy) ((s1.trans s2).trans ⟨?_, fun b b1 => ?_⟩)
          · obtain ⟨ns, t, r, d, e, z⟩ := s4
            exact ⟨ns, t, r, d, by rw [del_ne hap]; exact e, z⟩
          · by_cases e : b = p
            · rw [e, del_same, hp]
            · rw [del_ne e, hb b b1 e]
def sp_l_pattern : DSp := fun ds M Q _ => ∃ p, ds = [.ref p] ∧ Src M p ∧ ∀ t a b c M', Pat t a b c → okT a → okT b → okT c → a.length ≤ 1000 → b.length ≤ 1000 → c.length ≤ 1000 → t.length ≤ 902 → SrcTo p M M' → Q (.str t) M'
def w_l_pattern : DTS := dSeq (dSet 1 (dCall sp_l_words (daCons (dVar 0) (daCons (dCall sp_l_standings (daNil)) (daNil))))) (dSeq (dSet 2 (dCall sp_l_words (daCons (dVar 0) (daCons (dCall sp_l_deeds (daNil)) (daNil))))) (dRet (dOp gAdd (dOp gAdd (dOp gAdd (dOp gAdd (dVar 1) (dC (.str [32]))) (dVar 2)) (dC (.str [32]))) (dCall sp_l_words (daCons (dVar 0) (daCons (dCall sp_l_relations (daNil)) (daNil)))))))
theorem pat_of {a b c : Tx} (ha : PartT a L_S) (hb : PartT b L_D) (hc : PartT c L_R) : Pat (a ++ [32] ++ b ++ [32] ++ c) a b c where
  cut := by
    have e : a ++ [32] ++ b ++ [32] ++ c = a ++ 32 :: (b ++ 32 :: c) := by simp
    rw [e, cut_app ha.no, cut_app hb.no, cut_one hc.no]
  la := by have := ha.len; omega
  lb := by have := hb.len; omega
  lc := by have := hc.len; omega
  lt := by
    have := ha.len; have := hb.len; have := hc.len
    simp only [List.length_append, List.length_cons, List.length_nil]
    omega
  ga := ha.good
  gb := hb.good
  gc := hc.good
theorem p_l_pattern : ∀ ds M Q E, sp_l_pattern ds M Q E → w_l_pattern (Ret Q E) (ds.map some ++ List.replicate (3 - 1) none) M := by
  rintro ds M Q E ⟨p, rfl, hs, hQ⟩
  unfold w_l_pattern
  walk_at "dl"
  refine ⟨rfl, ?_⟩
  walk_at "dl"
  refine ⟨p, L_S, rfl, shortS, cleanS, by decide, hs, fun a M1 ha s1 => ?_⟩
  walk_at "dl"
  refine ⟨rfl, ?_⟩
  walk_at "dl"
  refine ⟨p, L_D, rfl, shortD, cleanD, by decide, s1.1, fun b M2 hb s2 => ?_⟩
  walk_at "dl"
  have la := ha.len
  have lb := hb.len
  refine ⟨by omega, by simp; omega, by simp; omega, rfl, ?_⟩
  walk_at "dl"
  refine ⟨p, L_R, rfl, shortR, cleanR, by decide, s2.1, fun c M3 hc s3 => ?_⟩
  walk_at "dl"
  have lc := hc.len
  simp only [List.length_append, List.length_cons, List.length_nil]
  exact ⟨by omega, hQ _ a b c M3 (pat_of ha hb hc) ha.ok hb.ok hc.ok (by omega) (by omega) (by omega) (by simp only [List.length_append, List.length_cons, List.length_nil]; omega) ((s1.trans s2).trans s3)⟩
def hit (t w : Tx) : Bool := decide (cutAt 44 t = [[42]]) || decide (w ∈ cutAt 44 t)
def hitE (a b c e : Tx) : Bool := match cutAt 32 e with
  | [s, d, r] => hit a s && (hit b d && hit c r)
  | _ => false
theorem flat_filter {α β : Type} {f g : α → List β} {p : β → Bool} {q : α → Bool} : ∀ {l : List α}, (∀ a ∈ l, (f a).filter p = if q a = true then g a else []) → (l.flatMap f).filter p = (l.filter q).flatMap g
  | [], _ => rfl
  | a :: l, h => by
    rw [List.flatMap_cons, List.filter_append, h a List.mem_cons_self, flat_filter fun b hb => h b (List.mem_cons_of_mem _ hb), List.filter_cons]
    split <;> simp
theorem wE_filter {p pa pb pc : Tx → Bool} {ss ds rs : List Tx} (h : ∀ s ∈ ss, ∀ d ∈ ds, ∀ r ∈ rs, p (entT s d r) = (pa s && (pb d && pc r))) : (wE ss ds rs).filter p = wE (ss.filter pa) (ds.filter pb) (rs.filter pc) := by
  unfold wE
  refine flat_filter fun s hs => ?_
  rw [flat_filter (q := fun d => pa s && pb d) (g := fun d => (rs.filter pc).map fun r => entT s d r) fun d hd => ?_]
  · cases hp : pa s <;> simp [hp]
  · rw [List.filter_map]
    have e : rs.filter ((p) ∘ fun r => entT s d r) = rs.filter fun r => pa s && (pb d && pc r) := List.filter_congr fun r hr => h s hs d hd r hr
    rw [e]
    cases hp : pa s <;> cases hq : pb d <;> simp [hp, hq]
theorem ent_cut {e : Tx} (h : e ∈ ents) : ∃ s d r, s ∈ L_S ∧ d ∈ L_D ∧ r ∈ L_R ∧ e = entT s d r ∧ cutAt 32 e = [s, d, r] := by
  obtain ⟨s, hs, h⟩ := List.mem_flatMap.mp h
  obtain ⟨d, hd, h⟩ := List.mem_flatMap.mp h
  obtain ⟨r, hr, rfl⟩ := List.mem_map.mp h
  refine ⟨s, d, r, hs, hd, hr, rfl, ?_⟩
  have e : entT s d r = s ++ 32 :: (d ++ 32 :: r) := by simp [entT]
  rw [e, cut_app fun m => (cleanS s hs 32 m).2.1 rfl, cut_app fun m => (cleanD d hd 32 m).2.1 rfl, cut_one fun m => (cleanR r hr 32 m).2.1 rfl]
theorem words_hit {t : Tx} {ws : List Tx} (hc : clean ws) (g : goodPart t ws) : wordsL t ws = ws.filter (hit t) := by
  unfold wordsL
  by_cases e : t = [42]
  · rw [if_pos e]
    refine (List.filter_eq_self.mpr fun w hw => ?_).symm
    rw [hit, e]
    rfl
  · rw [if_neg e]
    have g := g.resolve_left e
    have n : cutAt 44 t ≠ [[42]] := fun z => by
      have q := g [42] (by rw [z]; exact List.mem_cons_self)
      exact (hc _ q 42 List.mem_cons_self).2.2.2 rfl
    refine List.filter_congr fun w hw => ?_
    rw [hit, decide_eq_false n, Bool.false_or]
theorem patE_hit {a b c : Tx} (ga : goodPart a L_S) (gb : goodPart b L_D) (gc : goodPart c L_R) : ents.filter (hitE a b c) = patE a b c := by
  rw [patE, words_hit cleanS ga, words_hit cleanD gb, words_hit cleanR gc]
  refine wE_filter fun s hs d hd r hr => ?_
  have e : entT s d r = s ++ 32 :: (d ++ 32 :: r) := by simp [entT]
  rw [hitE, e, cut_app fun m => (cleanS s hs 32 m).2.1 rfl, cut_app fun m => (cleanD d hd 32 m).2.1 rfl, cut_one fun m => (cleanR r hr 32 m).2.1 rfl]
def sp_l_matched : DSp := fun ds M Q _ => ∃ t a b c, ds = [.str t] ∧ Pat t a b c ∧ okT a ∧ okT b ∧ okT c ∧ Q (.lst (txs (patE a b c))) M
def w_l_matched_b1 : DTS := dSeq (dSet 5 (dMt "str" gSplit (dVar 4) (daCons (dC (.str [32])) (daNil)))) (dIfS (dTru (dCB gAll (daCons (dFrz (dLcM (diRng1 (daCons (dC (.int 3)) (daNil))) (dgName 6) (dYes) [6] [] (dOrV (dOp gEq (dOp gIx (dVar 1) (dVar 6)) (dLst (daCons (dC (.str [42])) (daNil)))) (dOp gIn (dOp gIx (dVar 5) (dVar 6)) (dOp gIx (dVar 1) (dVar 6)))))) (daNil)))) (dDrop (dMt "list" gAppend (dVar 3) (daCons (dVar 4) (daNil)))) (dPass))
def w_l_matched : DTS := dSeq (dSet 1 (dFrz (dLcM (diAny (dMt "str" gSplit (dVar 0) (daCons (dC (.str [32])) (daNil)))) (dgName 2) (dYes) [2] [] (dMt "str" gSplit (dVar 2) (daCons (dC (.str [44])) (daNil)))))) (dSeq (dSet 3 (dLstM (daNil))) (dSeq (dFor (diAny (dCall sp_l_entries (daNil))) (dgName 4) (w_l_matched_b1)) (dRet (dFrz (dVar 3)))))
theorem cut_ok {t : Tx} {c : Nat} (h : okT t) : ∀ w ∈ cutAt c t, okT w := by
  induction t with
  | nil => intro w hw; rw [show cutAt c [] = [[]] from rfl, List.mem_singleton] at hw; rw [hw]; exact fun _ m => nomatch m
  | cons x r ih =>
    have ih := ih fun y hy => h y (List.mem_cons_of_mem _ hy)
    by_cases e : x = c
    · rw [show cutAt c (x :: r) = [] :: cutAt c r from if_pos e]
      intro w hw
      rcases List.mem_cons.mp hw with rfl | hw
      · exact fun _ m => nomatch m
      · exact ih w hw
    · rw [show cutAt c (x :: r) = (match cutAt c r with
        | y :: ys => (x :: y) :: ys
        | [] => [[x]]) from if_neg e]
      cases h2 : cutAt c r with
      | nil => exact absurd h2 (cutAt_ne c r)
      | cons y ys =>
        rw [h2] at ih
        intro w hw
        rcases List.mem_cons.mp hw with rfl | hw
        · intro z hz
          rcases List.mem_cons.mp hz with rfl | hz
          · exact h _ List.mem_cons_self
          · exact ih y List.mem_cons_self z hz
        · exact ih w (List.mem_cons_of_mem _ hw)
theorem hit_step {z w : Tx} {M : Mu} {N : DK} (hz : okT z) (h : N (.bl (hit z w)) M) : 1 ≤ 16777216 ∧ eqOk (.lst (txs (cutAt 44 z))) = true ∧ eqOk (.lst [.str [42]]) = true ∧
    if (PyData.list (pds (txs (cutAt 44 z)))).eqv (PyData.list (pds [.str [42]])) = true then N (.bl true) M else flatD (.str w) = true ∧ (txs (cutAt 44 z)).all flatD = true ∧ N (.bl (inD (.str w) (txs (cutAt 44 z)))) M := by
  refine ⟨by decide, eqOk_strs (cut_ok hz), eqOk_strs (xs := [[42]]) fun x hx => ?_, ?_⟩
  · rw [List.mem_singleton.mp hx]; unfold okT; decide
  · have e := eqvL_strs (cutAt 44 z) [[42]]
    rw [show ([[42]] : List Tx).map D.str = [.str [42]] from rfl] at e
    rw [txs, e]
    unfold hit at h
    by_cases q : cutAt 44 z = [[42]]
    · rw [decide_eq_true q, Bool.true_or] at h
      rw [decide_eq_true q, if_pos rfl]
      exact h
    · rw [decide_eq_false q, Bool.false_or] at h
      rw [decide_eq_false q, if_neg (by decide)]
      refine ⟨rfl, flat_txs, ?_⟩
      have q := inD_txs (w := w) (ws := cutAt 44 z)
      rw [txs] at q
      rw [q]
      exact h
theorem p_l_matched : ∀ ds M Q E, sp_l_matched ds M Q E → w_l_matched (Ret Q E) (ds.map some ++ List.replicate (7 - 1) none) M := by
  rintro ds M Q E ⟨t, a, b, c, rfl, P, oa, ob, oc, hQ⟩
  unfold w_l_matched
  walk_at "dl"
  try simp only [dLcM]
  walk_at "dl"
  try simp only [dLcM]
  walk_at "dl"
  refine ⟨by decide, by have := P.lt; omega, ?_⟩
  try simp only [P.cut]
  walk_at "dl"
  try simp only [P.cut]
  walk_at "dl"
  intro p hp
  refine lc_map (f := fun d => match d with
    | .str w => .lst (txs (cutAt 44 w))
    | _ => .non) (show 3 < 16777216 by decide) ?_ ?_
  · intro d hd acc N h
    have lw : ∃ w, d = .str w ∧ w.length ≤ 100000 := by
      simp only [List.mem_cons, List.not_mem_nil, or_false] at hd
      rcases hd with rfl | rfl | rfl
      · exact ⟨_, rfl, Nat.le_trans P.la (by decide)⟩
      · exact ⟨_, rfl, Nat.le_trans P.lb (by decide)⟩
      · exact ⟨_, rfl, Nat.le_trans P.lc (by decide)⟩
    obtain ⟨w, rfl, lw⟩ := lw
    walk_at "dl"
    exact ⟨by decide, by omega, h⟩
  · try simp only [put_same, del_put_new hp]
    walk_at "dl"
    try simp only [put_same, del_put_new hp]
    walk_at "dl"
    refine ⟨by decide, fun q hq => ⟨rfl, ?_⟩⟩
    walk_at "dl"
    have le : ents.length = 105 := by rw [wE_len]; rfl
    refine wFor_by (fun i τ M' => (∃ x4 x5 x6, τ = [some (.str t), some (.lst [.lst (txs (cutAt 44 a)), .lst (txs (cutAt 44 b)), .lst (txs (cutAt 44 c))]), none, some (.ref q), x4, x5, x6]) ∧ M' = put M q (.lst (txs ((ents.take i).filter (hitE a b c))))) ⟨⟨_, _, _, rfl⟩, rfl⟩ ?_ ?_
    · rintro i e τ M' he ⟨⟨x4, x5, x6, rfl⟩, rfl⟩ nxt hn
      obtain ⟨w, hw, rfl⟩ := map_at he
      have hi := (List.getElem?_eq_some_iff.mp hw).1
      obtain ⟨s, d, r, hs, hd, hr, ew, cw⟩ := ent_cut (List.mem_of_getElem? hw)
      have ls := shortS.2 s hs
      have ld := shortD.2 d hd
      have lr := shortR.2 r hr
      unfold w_l_matched_b1
      walk_at "dl"
      refine ⟨by decide, by rw [ew]; simp [entT]; omega, ?_⟩
      try simp only [cw, dLcM]
      walk_at "dl"
      try simp only [cw, dLcM]
      walk_at "dl"
      refine ⟨by decide, by decide, fun p hp => ?_⟩
      refine lc_map (f := fun x => match x with
        | .int 0 => .bl (hit a s)
        | .int 1 => .bl (hit b d)
        | _ => .bl (hit c r)) (by decide) ?_ ?_
      · intro x hx acc N h
        have hx : x = .int 0 ∨ x = .int 1 ∨ x = .int 2 := by
          have hx : x ∈ [D.int 0, .int 1, .int 2] := hx
          simpa using hx
        rcases hx with rfl | rfl | rfl
        · walk_at "dl"
          exact hit_step oa h
        · walk_at "dl"
          exact hit_step ob h
        · walk_at "dl"
          exact hit_step oc h
      · try simp only [put_same, del_put_new hp]
        walk_at "dl"
        try simp only [put_same, del_put_new hp]
        walk_at "dl"
        refine ⟨[hit a s, hit b d, hit c r], rfl, ?_⟩
        have e : hitE a b c w = (hit a s && (hit b d && hit c r)) := by rw [hitE, cw]
        have tk : (ents.take (i + 1)).filter (hitE a b c) = (ents.take i).filter (hitE a b c) ++ if hitE a b c w = true then [w] else [] := by
          rw [List.take_succ, hw, List.filter_append, Option.toList_some, List.filter_cons, List.filter_nil]
        have ec : (fun bs : List Bool => bs.all id) [hit a s, hit b d, hit c r] = hitE a b c w := by rw [e]; simp
        rw [ec]
        have lf : ((ents.take i).filter (hitE a b c)).length ≤ 105 := by
          refine Nat.le_trans (List.length_filter_le _ _) ?_
          rw [List.length_take, le]; omega
        cases hh : hitE a b c w with
        | true =>
          walk_at "dl"
          try simp only [put_same]
          walk_at "dl"
          try simp only [put_same]
          walk_at "dl"
          refine ⟨by rw [txs, List.length_map]; omega, hn _ _ ⟨⟨_, _, _, rfl⟩, ?_⟩⟩
          rw [tk, hh, if_pos rfl, txs_app]
          rfl
        | false =>
          walk_at "dl"
          refine hn _ _ ⟨⟨_, _, _, rfl⟩, ?_⟩
          rw [tk, hh, if_neg (by decide), List.append_nil]
    · rintro τ M' ⟨⟨x4, x5, x6, rfl⟩, rfl⟩
      rw [show (txs ents).length = ents.length by rw [txs, List.length_map], List.take_length, patE_hit P.ga P.gb P.gc]
      walk_at "dl"
      try simp only [put_same, del_put_new hq]
      walk_at "dl"
      try simp only [put_same, del_put_new hq]
      walk_at "dl"
      exact hQ
end DL
namespace DL
open PySem L2
local macro_rules | `(tactic| walk_at "dl") => `(tactic| try simp (config := { proj := false }) only [↓ex_mk, ↓nx_mk, ↓rt_mk, ↓bk_mk, ↓ct_mk, ↓xc_mk, ↓u_c, ↓u_op, ↓u_un, ↓u_and, ↓u_or, ↓u_not, ↓u_if, ↓u_anil, ↓u_acons, ↓u_lst, ↓u_lstM, ↓u_tup, ↓u_call, ↓u_sl, ↓u_onone, ↓u_cb, ↓u_mt, ↓u_mt0, ↓u_pass, ↓u_seq, ↓u_set, ↓u_asg, ↓u_drop, ↓u_ret, ↓u_retN, ↓u_ifs, ↓u_brk, ↓u_cnt, ↓u_for, ↓u_gname, ↓u_gsub, ↓u_fs, ↓u_fmt, ↓u_js0, ↓u_js, ↓u_em, ↓u_yes, ↓u_never, ↓u_ref, ↓u_forR, ↓u_star, ↓u_dict, ↓u_dict0, ↓u_dp0, ↓u_dp1, ↓u_forK, ↓u_lock, ↓u_kd, ↓u_fld, ↓u_setF, ↓u_make, ↓u_binL, ↓u_binR, ↓u_inO, ↓u_getO, ↓u_setO, ↓u_augO, ↓u_prp, ↓u_inv, ↓u_meth, ↓u_keys, ↓u_try, ↓u_cm, ↓u_makeV, ↓r_enum, ↓r_own, ↓u_raise, ↓u_tryas, ↓u_ca, ↓u_xf, ↓u_idxC, su_mk,
  ↓r_var, ↓r_test, ↓r_andV, ↓r_orV, ↓r_notV, ↓r_tru, ↓r_frz, ↓r_osome, ↓r_any, ↓r_scr, scr_c, ↓r_rng1, ↓r_rng2, ↓r_fz, wipeD,
  onSome_s, onBl_b, onInt_i, onStr_s, onVar_s, onML_l, onML2_l, onML2_d, onDK_d, fmt_s, fmt_i, tru_n, tru_b, tru_i, tru_s, tru_l, tru_t, tru_r, frz_r, sl_s, sl_l, sl_t, sl_r, add_i, add_s, add_l, add_t, add_rl, add_lr, sub_i, mul_i, div_i, mod_i, pow_i, neg_i, cmp_i, eq_i, eq_s, eq_b, eq_n, eq_l, eq_t, eq_rl, eq_lr, eq_ni, eq_in, eq_ns, eq_sn, eq_nb, eq_bn, eq_is, eq_si,
  ix_l, ix_t, ix_s, ix_ri, ix_rs, in_ss, in_l, in_t, in_ir, in_sr, isB_t, isB_f, ltS_s, gtS_s, sorted_l, keyK_s, keyK_i, u_dget, lenOR_r, listOR_r, isn_n, isn_b, isn_i, isn_s, isn_r, isn_l, isn_t, len_s, len_c, len_l, len_t, len_r, int_i, int_b, min_ii, max_ii, list_l, list_t, list_r, list_c, listM_l, listM_c, listM_t, listM_r, isi_, isi_k, ty_n, ty_b, ty_i, ty_s, ty_l, ty_t, it_s, it_l, it_r, itM_l, itM_d, app_r, rev_r, ends_s, ins_r, set_rs, str_i, str_s, ext_l, pop_r, clr_r, star_l, star_t, star_r, onRef_r, onML3_l, onML3_d, onML3_f, onDR_d, onDR_f, onFK_f, join_l, join_t, join_r, starts_s, r_gtup, r_glst, r_gnil, r_gcons, set_r, items_s, items_l, items_t, rng1_i, rng2_i, fz_r, addM_l, addM_rl, onIns_i, onLst_l, isIns_r, isInsM_i, noF_r, noFM_i, rows_r, lenO_r, listO_r, listOM_r, isCK_i, isCK_l, isC_r, isC_s, isC_i, isC_b, isC_n, isC_l, isC_t, putG_0, putG_1, lk_1, onCl_c, onEnum_l, index_l, strO_r, cmpO_r, pop1_r, tuple_l, tuple_t, divmod_i, upper_s, indexT_t, onExc_e, isE_t, isE_c, isE_v, zip_1,
  List.map_cons, List.map_nil, List.cons_append, List.nil_append, List.length_cons, List.length_nil, List.replicate, List.getElem?_cons_zero, List.getElem?_cons_succ, List.set_cons_zero, List.set_cons_succ, id, decide_eq_true_eq, if_true, if_false, Bool.false_eq_true, reduceIte, Bool.not_true, Bool.not_false, true_and, Nat.reduceAdd, Nat.reduceSub, Int.reduceToNat, Int.toNat_natCast, put_same, put_put, atI_0, atI_1, atI_2, atI_3, atI_4, ixN_40, ixN_41, ixN_42, ixN_43])
def sp_l_sign : DSp := fun ds M Q _ => ∃ p, ds = [.ref p] ∧ Src M p ∧ ∀ c M', SrcTo p M M' → Q (.str [c]) M'
def w_l_sign : DTS := dSeq (dIfS (dTest (dOp gEq (dCall sp_l_draw (daCons (dVar 0) (daCons (dC (.int 2)) (daNil)))) (dC (.int 0)))) (dRet (dCall sp_l_pick (daCons (dVar 0) (daCons (dC (.str (T " ,*.a\n"))) (daNil))))) (dPass)) (dSeq (dSet 1 (dC (.str (T " !\"#$&'()*+,-./0123456789:;<=>?@ABCDEFGHIJKLMNOPQRSTUVWXYZ[\\]^_`")))) (dRet (dCall sp_l_pick (daCons (dVar 0) (daCons (dOp gAdd (dVar 1) (dC (.str (T "abcdefghijklmnopqrstuvwxyz{|}~\n")))) (daNil))))))
theorem pick_s {a : Addr} {t : Tx} {M : Mu} {Q : DK} {E : DX} (h : Src M a) (h0 : 0 < t.length) (h1 : t.length < 1000000) (k : ∀ c M', c ∈ t → SrcTo a M M' → Q (.str [c]) M') : sp_l_pick [.ref a, .str t] M Q E :=
  pick_ h (xs := t.map fun c => D.str [c]) rfl (by rw [List.length_map]; exact h0) (by rw [List.length_map]; exact h1) fun d M' hd s => by
    obtain ⟨c, hc, rfl⟩ := List.mem_map.mp hd
    exact k c M' hc s
theorem p_l_sign : ∀ ds M Q E, sp_l_sign ds M Q E → w_l_sign (Ret Q E) (ds.map some ++ List.replicate (2 - 1) none) M := by
  rintro ds M Q E ⟨p, rfl, hs, hQ⟩
  unfold w_l_sign
  walk_at "dl"
  refine draw_ hs (by decide) (by decide) fun j M1 j0 j1 s1 => ?_
  walk_at "dl"
  by_cases h : j = 0
  · rw [if_pos h]
    exact pick_s s1.1 (by decide +kernel) (by decide +kernel) fun c M2 _ s2 => hQ c M2 (s1.trans s2)
  · rw [if_neg h]
    refine ⟨by decide +kernel, ?_⟩
    exact pick_s s1.1 (by decide +kernel) (by decide +kernel) fun c M2 _ s2 => hQ c M2 (s1.trans s2)
theorem src_puts {M : Mu} {a q : Addr} {m : MO} (h : Src M a) (n : q ≠ a) : Src (put M q m) a := by
  obtain ⟨ns, t, r, d, e, h0⟩ := h
  exact ⟨ns, t, r, d, by rw [put_ne (Ne.symm n)]; exact e, h0⟩
theorem cut_le {α : Type} (xs : List α) (lo hi : Option Int) : (cut xs lo hi).length ≤ xs.length := by
  unfold cut
  rw [List.length_take, List.length_drop]
  omega
def sp_l_spoilt : DSp := fun ds M Q _ => ∃ p t a b c, ds = [.ref p, .str t] ∧ Src M p ∧ cutAt 32 t = [a, b, c] ∧ 0 < t.length ∧ t.length ≤ 10000 ∧ a.length ≤ 1000 ∧ b.length ≤ 1000 ∧ c.length ≤ 1000 ∧
  ∀ u M', u.length ≤ 28010 → Src M' p → (∀ x o, x ≠ p → M x = some o → M' x = some o) → Q (.str u) M'
def w_l_spoilt_c1 : DTS := dRet (dMt "str" gJoin (dC (.str [32])) (daCons (dVar 4) (daNil)))
def w_l_spoilt : DTS := dSeq (dSet 2 (dCall sp_l_draw (daCons (dVar 0) (daCons (dC (.int 15)) (daNil))))) (dSeq (dSet 3 (dCall sp_l_draw (daCons (dVar 0) (daCons (dC (.int 3)) (daNil))))) (dSeq (dSet 4 (dMt "str" gSplitM (dVar 1) (daCons (dC (.str [32])) (daNil)))) (dSeq (dSet 5 (dLst (daCons (dC (.str (T "apart"))) (daCons (dC (.str (T "look"))) (daCons (dC (.str (T "see"))) (daCons (dC (.str (T "same"))) (daCons (dC (.str (T "over"))) (daCons (dC (.str [42])) (daCons (dC (.str [])) (daCons (dC (.str (T "overbo"))) (daCons (dC (.str (T "boxes"))) (daCons (dC (.str (T "reserved"))) (daCons (dC (.str (T "mark"))) (daCons (dC (.str (T "peek"))) (daCons (dC (.str (T "Look"))) (daNil)))))))))))))))) (dSeq (dSet 6 (dCall sp_l_pick (daCons (dVar 0) (daCons (dVar 5) (daNil))))) (dSeq (dIfS (dTest (dOp gLt (dVar 2) (dC (.int 2)))) (dAsg (dVar 6) (dgSub (dVar 4) (dVar 3) gSetA)) (dIfS (dTest (dOp gEq (dVar 2) (dC (.int 2)))) (dSet 4 (dOp gAddM (dSl (dVar 4) (doNone) (doSome (dVar 3))) (dSl (dVar 4) (doSome (dOp gAdd (dVar 3) (dC (.int 1)))) (doNone)))) (dIfS (dTest (dOp gEq (dVar 2) (dC (.int 3)))) (dDrop (dMt "list" gInsert (dVar 4) (daCons (dVar 3) (daCons (dOp gIx (dVar 4) (dVar 3)) (daNil))))) (dIfS (dTest (dOp gEq (dVar 2) (dC (.int 4)))) (dAsg (dOp gAdd (dOp gAdd (dOp gIx (dVar 4) (dVar 3)) (dC (.str [44]))) (dVar 6)) (dgSub (dVar 4) (dVar 3) gSetA)) (dIfS (dTest (dOp gEq (dVar 2) (dC (.int 5)))) (dAsg (dOp gAdd (dOp gAdd (dVar 6) (dC (.str [44]))) (dOp gIx (dVar 4) (dVar 3))) (dgSub (dVar 4) (dVar 3) gSetA)) (dIfS (dTest (dOp gEq (dVar 2) (dC (.int 6)))) (dDrop (dMt "list" gInsert (dVar 4) (daCons (dVar 3) (daCons (dC (.str [])) (daNil))))) (dIfS (dTest (dOp gEq (dVar 2) (dC (.int 7)))) (dDrop (dMt "list" gAppend (dVar 4) (daCons (dC (.str [])) (daNil)))) (dIfS (dTest (dOp gEq (dVar 2) (dC (.int 8)))) (dAsg (dMt0 "str" gUpper (dOp gIx (dVar 4) (dVar 3))) (dgSub (dVar 4) (dVar 3) gSetA)) (dIfS (dTest (dOp gEq (dVar 2) (dC (.int 9)))) (dSet 4 (dOp gAddM (dSl (dVar 4) (doSome (dC (.int 1))) (doNone)) (dSl (dVar 4) (doNone) (doSome (dC (.int 1)))))) (dIfS (dTest (dOp gEq (dVar 2) (dC (.int 10)))) (dSeq (dSet 7 (dCall sp_l_draw (daCons (dVar 0) (daCons (dOp gAdd (dCB gLen (daCons (dVar 1) (daNil))) (dC (.int 1))) (daNil))))) (dRet (dOp gAdd (dOp gAdd (dSl (dVar 1) (doNone) (doSome (dVar 7))) (dCall sp_l_sign (daCons (dVar 0) (daNil)))) (dSl (dVar 1) (doSome (dVar 7)) (doNone))))) (dIfS (dTest (dOp gEq (dVar 2) (dC (.int 11)))) (dSeq (dSet 7 (dCall sp_l_draw (daCons (dVar 0) (daCons (dCB gLen (daCons (dVar 1) (daNil))) (daNil))))) (dRet (dOp gAdd (dSl (dVar 1) (doNone) (doSome (dVar 7))) (dSl (dVar 1) (doSome (dOp gAdd (dVar 7) (dC (.int 1)))) (doNone))))) (dIfS (dTest (dOp gEq (dVar 2) (dC (.int 12)))) (dRet (dCall sp_l_pick (daCons (dVar 0) (daCons (dLst (daCons (dOp gAdd (dVar 1) (dC (.str [10]))) (daCons (dOp gAdd (dC (.str [10])) (dVar 1)) (daCons (dOp gAdd (dOp gAdd (dVar 1) (dC (.str [10]))) (dVar 1)) (daCons (dOp gAdd (dOp gAdd (dVar 1) (dC (.str [32]))) (dVar 1)) (daNil)))))) (daNil))))) (dIfS (dTest (dOp gEq (dVar 2) (dC (.int 13)))) (dRet (dCall sp_l_pick (daCons (dVar 0) (daCons (dLst (daCons (dC (.str [])) (daCons (dC (.str [42])) (daCons (dC (.str (T "* *"))) (daCons (dC (.str (T "* * *"))) (daCons (dC (.str (T "* * * *"))) (daCons (dC (.str [32])) (daCons (dC (.str (T "look see"))) (daCons (dC (.str [10])) (daNil)))))))))) (daNil))))) (dRet (dMt "str" gJoin (dC (.str [])) (daCons (dFrz (dLcM (diRng1 (daCons (dCall sp_l_draw (daCons (dVar 0) (daCons (dC (.int 25)) (daNil)))) (daNil))) (dgName 7) (dYes) [7] [] (dCall sp_l_sign (daCons (dVar 0) (daNil))))) (daNil))))))))))))))))) (w_l_spoilt_c1))))))
theorem p_l_spoilt : ∀ ds M Q E, sp_l_spoilt ds M Q E → w_l_spoilt (Ret Q E) (ds.map some ++ List.replicate (8 - 2) none) M := by
  rintro ds M Q E ⟨p, t, a, b, c, rfl, hs, hc, l0, l1, la, lb, lc, hQ⟩
  unfold w_l_spoilt
  walk_at "dl"
  refine draw_ hs (by decide) (by decide) fun kd M1 k0 k1 s1 => ?_
  walk_at "dl"
  refine draw_ s1.1 (by decide) (by decide) fun at_ M2 a0 a1 s2 => ?_
  walk_at "dl"
  refine ⟨by decide, by omega, fun q hq => ?_⟩
  rw [hc]
  walk_at "dl"
  have nq : q ≠ p := fun z => by
    obtain ⟨ns, t, r2, d, e, _⟩ := s2.1
    rw [← z, hq] at e
    cases e
  refine ⟨by decide, ?_⟩
  refine pick_ (src_puts s2.1 nq) (xs := _) rfl (by decide) (by decide) fun d M3 hd s3 => ?_
  have ho : ∃ o : Tx, d = .str o ∧ o.length ≤ 20 := by
    simp only [List.mem_cons, List.not_mem_nil, or_false] at hd
    rcases hd with rfl | rfl | rfl | rfl | rfl | rfl | rfl | rfl | rfl | rfl | rfl | rfl | rfl <;> exact ⟨_, rfl, by decide +kernel⟩
  obtain ⟨o, rfl, lo⟩ := ho
  clear hd
  have h3 : M3 q = some (.lst [.str a, .str b, .str c]) := by rw [s3.2 q nq]; exact put_same
  have x3 : ∀ x m, x ≠ p → M x = some m → M3 x = some m := fun x m n e => by
    have e2 : M2 x = some m := by rw [s2.2 x n, s1.2 x n]; exact e
    have nx : x ≠ q := fun z => by rw [z, hq] at e2; cases e2
    rw [s3.2 x n, put_ne nx]; exact e2
  generalize hrow : (D.lst [.str (T "apart"), .str (T "look"), .str (T "see"), .str (T "same"), .str (T "over"), .str [42], .str [], .str (T "overbo"), .str (T "boxes"), .str (T "reserved"), .str (T "mark"), .str (T "peek"), .str (T "Look")]) = row
  walk_at "dl"
  have fin : ∀ (q' : Addr) (M' : Mu) (ws : List Tx) (x7 : Option D), M' q' = some (.lst (txs ws)) → ws.length ≤ 7 → (∀ w ∈ ws, w.length ≤ 4000) → Src M' p → (∀ x m, x ≠ p → M x = some m → M' x = some m) →
      w_l_spoilt_c1 (Ret Q E) [some (.ref p), some (.str t), some (.int kd), some (.int at_), some (.ref q'), some row, some (.str o), x7] M' := fun q' M' ws x7 h hl hw hs' hk => by
    unfold w_l_spoilt_c1
    iterate 10 ((try simp only [h]); walk_at "dl")
    refine ⟨ws, rfl, ?_, hQ _ M' ?_ hs' hk⟩
    · have go : ∀ ls : List Tx, (∀ l ∈ ls, l.length ≤ 4000) → (ls.map (·.length)).sum ≤ ls.length * 4000 := by
        intro ls
        induction ls with
        | nil => intro _; simp
        | cons x r ih =>
          intro hx
          have := ih fun l hl => hx l (List.mem_cons_of_mem _ hl)
          have := hx x List.mem_cons_self
          simp
          omega
      have := go ws hw
      simp
      omega
    · have := join_len (s := [32]) (n := 4000) hw
      simp at this
      omega
  have put_ : ∀ ws : List Tx, ws.length ≤ 7 → (∀ w ∈ ws, w.length ≤ 4000) → ∀ x7, w_l_spoilt_c1 (Ret Q E) [some (.ref p), some (.str t), some (.int kd), some (.int at_), some (.ref q), some row, some (.str o), x7] (put M3 q (.lst (txs ws))) := fun ws hl hw x7 =>
    fin q _ ws x7 put_same hl hw (by obtain ⟨ns, t, r2, d, e, z⟩ := s3.1; exact ⟨ns, t, r2, d, by rw [put_ne (Ne.symm nq)]; exact e, z⟩) fun x m n e => by
      have nx : x ≠ q := fun z => by
        have e2 : M2 x = some m := by rw [s2.2 x n, s1.2 x n]; exact e
        rw [z, hq] at e2; cases e2
      rw [put_ne nx]; exact x3 x m n e
  have new_ : ∀ ws : List Tx, ws.length ≤ 7 → (∀ w ∈ ws, w.length ≤ 4000) → ∀ r x7, M3 r = none → w_l_spoilt_c1 (Ret Q E) [some (.ref p), some (.str t), some (.int kd), some (.int at_), some (.ref r), some row, some (.str o), x7] (put M3 r (.lst (txs ws))) := fun ws hl hw r x7 hr => by
    have nr : r ≠ p := fun z => by
      obtain ⟨ns, t, r2, d, e, _⟩ := s3.1
      rw [← z, hr] at e
      cases e
    refine fin r _ ws x7 put_same hl hw (by obtain ⟨ns, t, r2, d, e, z⟩ := s3.1; exact ⟨ns, t, r2, d, by rw [put_ne (Ne.symm nr)]; exact e, z⟩) fun x m n e => ?_
    have e3 := x3 x m n e
    have nx : x ≠ r := fun z => by rw [z, hr] at e3; cases e3
    rw [put_ne nx]; exact e3
  have ha : at_ = 0 ∨ at_ = 1 ∨ at_ = 2 := by omega
  have ua := upper_len a
  have ub := upper_len b
  have uc := upper_len c
  have cutle2 : ∀ l1 h1 l2 h2, (cut [D.str a, D.str b, D.str c] l1 h1).length + (cut [D.str a, D.str b, D.str c] l2 h2).length ≤ 16777216 := fun l1 h1 l2 h2 => by
    have e1 := cut_le [D.str a, D.str b, D.str c] l1 h1
    have e2 := cut_le [D.str a, D.str b, D.str c] l2 h2
    simp at e1 e2
    omega
  have i0 : ixN 3 0 = some 0 := by decide
  have i1 : ixN 3 1 = some 1 := by decide
  have i2 : ixN 3 2 = some 2 := by decide
  by_cases c0 : kd < 2
  · rw [if_pos c0]
    rcases ha with rfl | rfl | rfl
    · iterate 10 ((try simp only [h3, i0]); walk_at "dl")
      exact put_ [o, b, c] (by simp) (by simp; omega) _
    · iterate 10 ((try simp only [h3, i1]); walk_at "dl")
      exact put_ [a, o, c] (by simp) (by simp; omega) _
    · iterate 10 ((try simp only [h3, i2]); walk_at "dl")
      exact put_ [a, b, o] (by simp) (by simp; omega) _
  rw [if_neg c0]
  by_cases c1 : kd = 2
  · rw [if_pos c1]
    rcases ha with rfl | rfl | rfl
    · iterate 10 ((try simp only [h3, atI_0, i0]); walk_at "dl")
      exact ⟨cutle2 _ _ _ _, fun r hr => new_ [b, c] (by simp) (by simp; omega) r _ hr⟩
    · iterate 10 ((try simp only [h3, atI_1, i1]); walk_at "dl")
      exact ⟨cutle2 _ _ _ _, fun r hr => new_ [a, c] (by simp) (by simp; omega) r _ hr⟩
    · iterate 10 ((try simp only [h3, atI_2, i2]); walk_at "dl")
      exact ⟨cutle2 _ _ _ _, fun r hr => new_ [a, b] (by simp) (by simp; omega) r _ hr⟩
  rw [if_neg c1]
  by_cases c1 : kd = 3
  · rw [if_pos c1]
    rcases ha with rfl | rfl | rfl
    · iterate 10 ((try simp only [h3, atI_0, i0]); walk_at "dl")
      exact ⟨by decide, by decide, by decide, put_ [a, a, b, c] (by simp) (by simp; omega) _⟩
    · iterate 10 ((try simp only [h3, atI_1, i1]); walk_at "dl")
      exact ⟨by decide, by decide, by decide, put_ [a, b, b, c] (by simp) (by simp; omega) _⟩
    · iterate 10 ((try simp only [h3, atI_2, i2]); walk_at "dl")
      exact ⟨by decide, by decide, by decide, put_ [a, b, c, c] (by simp) (by simp; omega) _⟩
  rw [if_neg c1]
  by_cases c1 : kd = 4
  · rw [if_pos c1]
    rcases ha with rfl | rfl | rfl
    · iterate 10 ((try simp only [h3, atI_0, i0]); walk_at "dl")
      exact ⟨by omega, by simp; omega, put_ [a ++ [44] ++ o, b, c] (by simp) (by simp; omega) _⟩
    · iterate 10 ((try simp only [h3, atI_1, i1]); walk_at "dl")
      exact ⟨by omega, by simp; omega, put_ [a, b ++ [44] ++ o, c] (by simp) (by simp; omega) _⟩
    · iterate 10 ((try simp only [h3, atI_2, i2]); walk_at "dl")
      exact ⟨by omega, by simp; omega, put_ [a, b, c ++ [44] ++ o] (by simp) (by simp; omega) _⟩
  rw [if_neg c1]
  by_cases c1 : kd = 5
  · rw [if_pos c1]
    refine ⟨by omega, ?_⟩
    rcases ha with rfl | rfl | rfl
    · iterate 10 ((try simp only [h3, atI_0, i0]); walk_at "dl")
      exact ⟨by simp; omega, put_ [o ++ [44] ++ a, b, c] (by simp) (by simp; omega) _⟩
    · iterate 10 ((try simp only [h3, atI_1, i1]); walk_at "dl")
      exact ⟨by simp; omega, put_ [a, o ++ [44] ++ b, c] (by simp) (by simp; omega) _⟩
    · iterate 10 ((try simp only [h3, atI_2, i2]); walk_at "dl")
      exact ⟨by simp; omega, put_ [a, b, o ++ [44] ++ c] (by simp) (by simp; omega) _⟩
  rw [if_neg c1]
  by_cases c1 : kd = 6
  · rw [if_pos c1]
    rcases ha with rfl | rfl | rfl
    · iterate 10 ((try simp only [h3, atI_0, i0]); walk_at "dl")
      exact ⟨by decide, by decide, by decide, put_ [[], a, b, c] (by simp) (by simp; omega) _⟩
    · iterate 10 ((try simp only [h3, atI_1, i1]); walk_at "dl")
      exact ⟨by decide, by decide, by decide, put_ [a, [], b, c] (by simp) (by simp; omega) _⟩
    · iterate 10 ((try simp only [h3, atI_2, i2]); walk_at "dl")
      exact ⟨by decide, by decide, by decide, put_ [a, b, [], c] (by simp) (by simp; omega) _⟩
  rw [if_neg c1]
  by_cases c1 : kd = 7
  · rw [if_pos c1]
    iterate 10 ((try simp only [h3]); walk_at "dl")
    exact ⟨by decide, put_ [a, b, c, []] (by simp) (by simp; omega) _⟩
  rw [if_neg c1]
  by_cases c1 : kd = 8
  · rw [if_pos c1]
    rcases ha with rfl | rfl | rfl
    · iterate 10 ((try simp only [h3, atI_0, i0]); walk_at "dl")
      exact ⟨by omega, put_ [T (PySem.Txt.upper (sx a)), b, c] (by simp) (by simp; omega) _⟩
    · iterate 10 ((try simp only [h3, atI_1, i1]); walk_at "dl")
      exact ⟨by omega, put_ [a, T (PySem.Txt.upper (sx b)), c] (by simp) (by simp; omega) _⟩
    · iterate 10 ((try simp only [h3, atI_2, i2]); walk_at "dl")
      exact ⟨by omega, put_ [a, b, T (PySem.Txt.upper (sx c))] (by simp) (by simp; omega) _⟩
  rw [if_neg c1]
  by_cases c1 : kd = 9
  · rw [if_pos c1]
    iterate 10 ((try simp only [h3]); walk_at "dl")
    exact ⟨cutle2 _ _ _ _, fun r hr => new_ [b, c, a] (by simp) (by simp; omega) r _ hr⟩
  rw [if_neg c1]
  have k3 : Src M3 p := s3.1
  have cl := fun lo hi => cut_le t lo hi
  by_cases c1 : kd = 10
  · rw [if_pos c1]
    refine ⟨by omega, ?_⟩
    refine draw_ k3 (by omega) (by omega) fun k M4 _ _ s4 => ?_
    walk_at "dl"
    refine ⟨by omega, p, rfl, s4.1, fun ch M5 s5 => ?_⟩
    have l1 := cl none (some k)
    have l2 := cl (some k) none
    walk_at "dl"
    refine ⟨by omega, by omega, by simp; omega, hQ _ M5 (by simp; omega) s5.1 fun x m n e => by rw [s5.2 x n, s4.2 x n]; exact x3 x m n e⟩
  rw [if_neg c1]
  by_cases c1 : kd = 11
  · rw [if_pos c1]
    refine ⟨by omega, ?_⟩
    refine draw_ k3 (by omega) (by omega) fun k M4 _ _ s4 => ?_
    have l1 := cl none (some k)
    have l2 := cl (some (k + 1)) none
    walk_at "dl"
    refine ⟨by omega, by omega, by omega, hQ _ M4 (by simp; omega) s4.1 fun x m n e => by rw [s4.2 x n]; exact x3 x m n e⟩
  rw [if_neg c1]
  by_cases c1 : kd = 12
  · rw [if_pos c1]
    refine ⟨by omega, by omega, by omega, by simp; omega, by omega, by simp; omega, by decide, ?_⟩
    refine pick_ k3 (xs := _) rfl (by simp) (by simp) fun d M4 hd s4 => ?_
    have ho : ∃ o : Tx, d = .str o ∧ o.length ≤ 25000 := by
      simp only [List.mem_cons, List.not_mem_nil, or_false] at hd
      rcases hd with rfl | rfl | rfl | rfl <;> exact ⟨_, rfl, by simp; omega⟩
    obtain ⟨u, rfl, lu⟩ := ho
    exact hQ u M4 (by omega) s4.1 fun x m n e => by rw [s4.2 x n]; exact x3 x m n e
  rw [if_neg c1]
  by_cases c1 : kd = 13
  · rw [if_pos c1]
    refine ⟨by decide, ?_⟩
    refine pick_ k3 (xs := _) rfl (by decide) (by decide) fun d M4 hd s4 => ?_
    have ho : ∃ o : Tx, d = .str o ∧ o.length ≤ 25000 := by
      simp only [List.mem_cons, List.not_mem_nil, or_false] at hd
      rcases hd with rfl | rfl | rfl | rfl | rfl | rfl | rfl | rfl <;> exact ⟨_, rfl, by decide +kernel⟩
    obtain ⟨u, rfl, lu⟩ := ho
    exact hQ u M4 (by omega) s4.1 fun x m n e => by rw [s4.2 x n]; exact x3 x m n e
  rw [if_neg c1]
  try simp only [dLcM]
  walk_at "dl"
  try simp only [dLcM]
  walk_at "dl"
  refine draw_ k3 (by decide) (by decide) fun n M4 n0 n1 s4 => ?_
  walk_at "dl"
  refine ⟨by omega, by omega, fun r hr => ?_⟩
  have nr : r ≠ p := fun z => by
    obtain ⟨ns, t, r2, d, e, _⟩ := s4.1
    rw [← z, hr] at e
    cases e
  refine lc_by (fun i acc M' => i ≤ 25 ∧ ∃ cs : List Nat, acc = cs.map (fun c => D.str [c]) ∧ cs.length = i ∧ Src M' p ∧ ∀ x, x ≠ p → x ≠ r → M' x = M4 x) ⟨by decide, [], rfl, rfl, src_puts s4.1 nr, fun b _ hb => put_ne hb⟩ put_same ?_ ?_
  · rintro i d acc M' hd ha ⟨hi5, cs, rfl, hl, hs, hb⟩ N hy hn
    obtain ⟨rfl, hi⟩ := upTo_at hd
    walk_at "dl"
    refine ⟨p, rfl, hs, fun ch M5 s5 => ?_⟩
    have h5 : M5 r = some (.lst (cs.map fun c => D.str [c])) := by rw [s5.2 r nr]; exact ha
    exact ⟨_, h5, by rw [List.length_map, hl, line24]; omega, hy _ M5 h5 ⟨by omega, cs ++ [ch], by simp, by rw [List.length_append, hl]; rfl, src_puts s5.1 nr, fun b h1 h2 => by rw [put_ne h2, s5.2 b h1, hb b h1 h2]⟩⟩
  · rintro acc M' ha ⟨_, cs, rfl, hl, hs, hb⟩
    iterate 10 ((try simp only [ha]); walk_at "dl")
    rw [upTo_len] at hl
    have lw : ∀ y ∈ cs.map (fun c => ([c] : Tx)), y.length ≤ 1 := fun y hy => by obtain ⟨c, _, rfl⟩ := List.mem_map.mp hy; exact Nat.le_refl _
    have jl := join_len (s := []) lw
    have go : ∀ ls : List Tx, (∀ l ∈ ls, l.length ≤ 1) → (ls.map (·.length)).sum ≤ ls.length * 1 := by
      intro ls
      induction ls with
      | nil => intro _; simp
      | cons x r ih =>
        intro hx
        have := ih fun l hl => hx l (List.mem_cons_of_mem _ hl)
        have := hx x List.mem_cons_self
        simp
        omega
    have g := go _ lw
    rw [List.length_map] at jl g
    simp at jl
    refine ⟨cs.map fun c => [c], by rw [List.map_map]; rfl, by rw [List.length_map]; omega, hQ _ _ (by omega) ?_ fun x m n e => ?_⟩
    · obtain ⟨ns, t, r2, d, e, z⟩ := hs
      exact ⟨ns, t, r2, d, by rw [del_ne (Ne.symm nr)]; exact e, z⟩
    · have e3 := x3 x m n e
      have e4 : M4 x = some m := by rw [s4.2 x n]; exact e3
      have nx : x ≠ r := fun z => by rw [z, hr] at e4; cases e4
      rw [del_ne nx, hb x n nx]; exact e4
end DL
namespace DL
open PySem L2
local macro_rules | `(tactic| walk_at "dl") => `(tactic| try simp (config := { proj := false }) only [↓ex_mk, ↓nx_mk, ↓rt_mk, ↓bk_mk, ↓ct_mk, ↓xc_mk, ↓u_c, ↓u_op, ↓u_un, ↓u_and, ↓u_or, ↓u_not, ↓u_if, ↓u_anil, ↓u_acons, ↓u_lst, ↓u_lstM, ↓u_tup, ↓u_call, ↓u_sl, ↓u_onone, ↓u_cb, ↓u_mt, ↓u_mt0, ↓u_pass, ↓u_seq, ↓u_set, ↓u_asg, ↓u_drop, ↓u_ret, ↓u_retN, ↓u_ifs, ↓u_brk, ↓u_cnt, ↓u_for, ↓u_gname, ↓u_gsub, ↓u_fs, ↓u_fmt, ↓u_js0, ↓u_js, ↓u_em, ↓u_yes, ↓u_never, ↓u_ref, ↓u_forR, ↓u_star, ↓u_dict, ↓u_dict0, ↓u_dp0, ↓u_dp1, ↓u_forK, ↓u_lock, ↓u_kd, ↓u_fld, ↓u_setF, ↓u_make, ↓u_binL, ↓u_binR, ↓u_inO, ↓u_getO, ↓u_setO, ↓u_augO, ↓u_prp, ↓u_inv, ↓u_meth, ↓u_keys, ↓u_try, ↓u_cm, ↓u_makeV, ↓r_enum, ↓r_own, ↓u_raise, ↓u_tryas, ↓u_ca, ↓u_xf, ↓u_idxC, su_mk,
  ↓r_var, ↓r_test, ↓r_andV, ↓r_orV, ↓r_notV, ↓r_tru, ↓r_frz, ↓r_osome, ↓r_any, ↓r_scr, scr_c, ↓r_rng1, ↓r_rng2, ↓r_fz, wipeD,
  onSome_s, onBl_b, onInt_i, onStr_s, onVar_s, onML_l, onML2_l, onML2_d, onDK_d, fmt_s, fmt_i, tru_n, tru_b, tru_i, tru_s, tru_l, tru_t, tru_r, frz_r, sl_s, sl_l, sl_t, sl_r, add_i, add_s, add_l, add_t, add_rl, add_lr, sub_i, mul_i, div_i, mod_i, pow_i, neg_i, cmp_i, eq_i, eq_s, eq_b, eq_n, eq_l, eq_t, eq_rl, eq_lr, eq_ni, eq_in, eq_ns, eq_sn, eq_nb, eq_bn, eq_is, eq_si,
  ix_l, ix_t, ix_s, ix_ri, ix_rs, in_ss, in_l, in_t, in_ir, in_sr, isB_t, isB_f, ltS_s, gtS_s, sorted_l, keyK_s, keyK_i, u_dget, lenOR_r, listOR_r, isn_n, isn_b, isn_i, isn_s, isn_r, isn_l, isn_t, len_s, len_c, len_l, len_t, len_r, int_i, int_b, min_ii, max_ii, list_l, list_t, list_r, list_c, listM_l, listM_c, listM_t, listM_r, isi_, isi_k, ty_n, ty_b, ty_i, ty_s, ty_l, ty_t, it_s, it_l, it_r, itM_l, itM_d, app_r, rev_r, ends_s, ins_r, set_rs, str_i, str_s, ext_l, pop_r, clr_r, star_l, star_t, star_r, onRef_r, onML3_l, onML3_d, onML3_f, onDR_d, onDR_f, onFK_f, join_l, join_t, join_r, starts_s, r_gtup, r_glst, r_gnil, r_gcons, set_r, items_s, items_l, items_t, rng1_i, rng2_i, fz_r, addM_l, addM_rl, onIns_i, onLst_l, isIns_r, isInsM_i, noF_r, noFM_i, rows_r, lenO_r, listO_r, listOM_r, isCK_i, isCK_l, isC_r, isC_s, isC_i, isC_b, isC_n, isC_l, isC_t, putG_0, putG_1, lk_1, onCl_c, onEnum_l, index_l, strO_r, cmpO_r, pop1_r, tuple_l, tuple_t, divmod_i, upper_s, indexT_t, onExc_e, isE_t, isE_c, isE_v, zip_1,
  List.map_cons, List.map_nil, List.cons_append, List.nil_append, List.length_cons, List.length_nil, List.replicate, List.getElem?_cons_zero, List.getElem?_cons_succ, List.set_cons_zero, List.set_cons_succ, id, decide_eq_true_eq, if_true, if_false, Bool.false_eq_true, reduceIte, Bool.not_true, Bool.not_false, true_and, Nat.reduceAdd, Nat.reduceSub, Int.reduceToNat, Int.toNat_natCast, put_same, put_put, atI_0, atI_1, atI_2, atI_3, atI_4, ixN_40, ixN_41, ixN_42, ixN_43])
def matchT (t : Tx) : List Tx := match cutAt 32 t with
  | [a, b, c] => patE a b c
  | _ => []
def GoodP (t : Tx) : Prop := ∃ a b c, Pat t a b c
theorem matchT_of {t a b c : Tx} (P : Pat t a b c) : matchT t = patE a b c := by unfold matchT; rw [P.cut]
theorem ents_nd : ents.Nodup := by decide +kernel
theorem ents_105 : ents.length = 105 := by decide +kernel
theorem matchT_tab {t : Tx} (h : GoodP t) : matchT t = ents.filter fun e => decide (e ∈ matchT t) := by
  obtain ⟨a, b, c, P⟩ := h
  rw [matchT_of P, ← patE_hit P.ga P.gb P.gc]
  refine List.filter_congr fun e he => ?_
  rw [Bool.eq_iff_iff, decide_eq_true_iff, List.mem_filter]
  exact ⟨fun z => ⟨he, z⟩, fun z => z.2⟩
theorem matchT_all : ents.all (fun e => decide (matchT e = [e])) = true := by decide +kernel
theorem matchT_ent {e : Tx} (h : e ∈ ents) : matchT e = [e] := of_decide_eq_true (List.all_eq_true.mp matchT_all e h)
theorem good_ent {t : Tx} (h : t ∈ ents) : GoodP t := by
  obtain ⟨s, d, r, hs, hd, hr, rfl, _⟩ := ent_cut h
  exact ⟨s, d, r, pat_of (part_word shortS cleanS hs) (part_word shortD cleanD hd) (part_word shortR cleanR hr)⟩
theorem matchT_len {t : Tx} (h : GoodP t) : (matchT t).length ≤ 105 := by
  rw [matchT_tab h, ← ents_105]
  exact List.length_filter_le _ _
def Tab (es : List Tx) : Prop := es = ents.filter fun e => decide (e ∈ es)
theorem Tab.len {es : List Tx} (h : Tab es) : es.length ≤ 105 := by
  unfold Tab at h
  rw [h, ← ents_105]
  exact List.length_filter_le _ _
theorem Tab.mem {es : List Tx} (h : Tab es) {e : Tx} (he : e ∈ es) : e ∈ ents := by
  rw [h] at he
  exact (List.mem_filter.mp he).1
theorem Tab.of (p : Tx → Bool) : Tab (ents.filter p) := by
  unfold Tab
  refine List.filter_congr fun e he => ?_
  rw [Bool.eq_iff_iff, decide_eq_true_iff, List.mem_filter]
  exact ⟨fun z => ⟨he, z⟩, fun z => z.2⟩
theorem Tab.filter {es : List Tx} (h : Tab es) (p : Tx → Bool) : Tab (es.filter p) := by
  rw [h, List.filter_filter]
  exact Tab.of _
theorem Tab.ext {es fs : List Tx} (h : Tab es) (h2 : Tab fs) (he : ∀ e ∈ ents, e ∈ es ↔ e ∈ fs) : es = fs := by
  rw [h, h2]
  refine List.filter_congr fun e m => ?_
  exact decide_eq_decide.mpr (he e m)
theorem Tab.match_ {t : Tx} (h : GoodP t) : Tab (matchT t) := matchT_tab h
theorem Tab.nil : Tab [] := by unfold Tab; simp
def gath (ps : List Tx) : List Tx := ents.filter fun e => ps.any fun t => decide (e ∈ matchT t)
theorem gath_tab (ps : List Tx) : Tab (gath ps) := Tab.of _
abbrev Rl (es : List Tx) : MO := .ins "Rule" [("_rows", .lst (txs es))]
def sp_all_entries : DSp := fun ds M Q _ => ds = [] ∧ ∀ p, M p = none → Q (.ref p) (put M p (.lst (txs ents)))
def w_all_entries : DTS := dRet (dCall sp_written_entries (daCons (dC k_STANDINGS) (daCons (dC k_DEEDS) (daCons (dC k_RELATIONS) (daNil)))))
theorem p_all_entries : ∀ ds M Q E, sp_all_entries ds M Q E → w_all_entries (Ret Q E) (ds.map some ++ List.replicate (0 - 0) none) M := by
  rintro ds M Q E ⟨rfl, hQ⟩
  unfold w_all_entries
  walk_at "dl"
  exact ⟨_, _, _, L_S, L_D, L_R, rfl, rfl, rfl, rfl, shortS, shortD, shortR, hQ⟩
theorem expand_ {t : Tx} {M : Mu} {Q : DK} {E : DX} (h : GoodP t) (k : ∀ p, M p = none → Q (.ref p) (put M p (.lst (txs (matchT t))))) : sp_expand [.str t] M Q E := by
  obtain ⟨a, b, c, P⟩ := h
  refine spG_in ⟨t, a, b, c, rfl, P, ?_⟩
  rw [← matchT_of P]
  exact k
def orS (a b : DSp) : DSp := fun ds M Q E => a ds M Q E ∨ b ds M Q E
theorem bad_expand {t : Tx} {M : Mu} {Q : DK} {E : DX} (B : BadP t) (h : E (errI t) M) : sp_expand [.str t] M Q E := .inr ⟨t, rfl, B, h⟩
theorem bad_ent {t : Tx} (B : BadP t) : t ∉ ents := fun h => by
  obtain ⟨a, b, c, P⟩ := good_ent h
  have e := B.no
  unfold patB at e
  rw [P.cut] at e
  have e : (gpB a L_S && gpB b L_D && gpB c L_R) = false := e
  rw [gpB_ok.mpr P.ga, gpB_ok.mpr P.gb, gpB_ok.mpr P.gc] at e
  cases e
def sp_in_order : DSp := fun ds M Q _ => ∃ p kvs, ds = [.ref p] ∧ M p = some (.dK kvs) ∧ Q (.lst (txs (ents.filter (hasK kvs)))) M
def w_in_order : DTS := dRet (dFrz (dLcM (diAny (dFrz (dCall sp_all_entries (daNil)))) (dgName 1) (dTest (dOp gIn (dVar 1) (dVar 0))) [1] [] (dVar 1)))
theorem p_in_order : ∀ ds M Q E, sp_in_order ds M Q E → w_in_order (Ret Q E) (ds.map some ++ List.replicate (2 - 1) none) M := by
  rintro ds M Q E ⟨p, kvs, rfl, hp, hQ⟩
  unfold w_in_order
  walk_at "dl"
  try simp only [dLcM]
  walk_at "dl"
  try simp only [dLcM]
  walk_at "dl"
  refine ⟨rfl, fun q hq => ?_⟩
  walk_at "dl"
  try simp only [put_same, del_put_new hq]
  walk_at "dl"
  try simp only [put_same, del_put_new hq]
  walk_at "dl"
  intro r hr
  have hpr : p ≠ r := fun z => by rw [z, hr] at hp; cases hp
  refine lc_txs (g := hasK kvs) (by rw [ents_105]; decide) (fun t ht acc N h => ?_) (fun t ht hg acc N h => ?_) ?_
  · walk_at "dl"
    try simp only [put_ne hpr, hp]
    walk_at "dl"
    try simp only [put_ne hpr, hp]
    walk_at "dl"
    exact h
  · walk_at "dl"
    exact h
  · try simp only [put_same, del_put_new hr]
    walk_at "dl"
    try simp only [put_same, del_put_new hr]
    walk_at "dl"
    exact hQ
def sp_with_both : DSp := fun ds M Q _ => ∃ a b, ds = [.lst (txs a), .lst (txs b)] ∧ a.length ≤ 1000 ∧ b.length ≤ 1000 ∧ ∀ M', Xt M M' → Q (.lst (txs (ents.filter fun e => decide (e ∈ a ++ b)))) M'
def w_with_both : DTS := dSeq (dSet 2 (dDc (diAny (dOp gAdd (dVar 0) (dVar 1))) (dgName 3) (dYes) [3] (dVar 3) (dC (.bl true)))) (dRet (dCall sp_in_order (daCons (dVar 2) (daNil))))
theorem p_with_both : ∀ ds M Q E, sp_with_both ds M Q E → w_with_both (Ret Q E) (ds.map some ++ List.replicate (4 - 2) none) M := by
  rintro ds M Q E ⟨a, b, rfl, la, lb, hQ⟩
  unfold w_with_both
  walk_at "dl"
  try simp only [dDc]
  walk_at "dl"
  try simp only [dDc]
  walk_at "dl"
  walk_at "dl"
  refine ⟨by rw [txs, txs, List.length_map, List.length_map]; omega, fun p hp => ?_⟩
  rw [show txs a ++ txs b = txs (a ++ b) from (txs_app a b).symm]
  refine dc_txs (ts := a ++ b) [] (by rw [List.length_append]; simp; omega) (fun t ht kvs N h => ?_) (fun t ht kvs N h => ?_) ?_
  · walk_at "dl"
    exact h
  · walk_at "dl"
    exact h
  · walk_at "dl"
    refine ⟨p, _, rfl, put_same, ?_⟩
    have q := hQ _ (Xt.new (o := .dK (keysT ([] ++ (a ++ b)))) hp)
    rw [show hasK (keysT (a ++ b)) = fun e => decide (e ∈ a ++ b) from funext fun e => hasK_keys _ e]
    exact q
def spG_gathered_entries : DSp := fun ds M Q _ => ∃ ps, ds = [.tup (txs ps)] ∧ ps.length ≤ 1000 ∧ (∀ t ∈ ps, GoodP t) ∧ ∀ M', Xt M M' → Q (.lst (txs (gath ps))) M'
def spB_gathered_entries : DSp := fun ds M Q E => ∃ ps pre t post, ds = [.tup (txs ps)] ∧ ps = pre ++ t :: post ∧ ps.length ≤ 1000 ∧ (∀ u ∈ pre, GoodP u) ∧ BadP t ∧ ∀ M', Xt M M' → E (errI t) M'
def sp_gathered_entries : DSp := orS spG_gathered_entries spB_gathered_entries
theorem gathered_ {ps : List Tx} {M : Mu} {Q : DK} {E : DX} (hl : ps.length ≤ 1000) (hg : ∀ t ∈ ps, GoodP t) (k : ∀ M', Xt M M' → Q (.lst (txs (gath ps))) M') : sp_gathered_entries [.tup (txs ps)] M Q E := .inl ⟨ps, rfl, hl, hg, k⟩
def w_gathered_entries_b1 : DTS := dAsg (dC (.bl true)) (dgSub (dVar 3) (dVar 2) gSetA)
def w_gathered_entries_b2 : DTS := dFor (diAny (dIf (dTest (dOp gIn (dVar 4) (dVar 1))) (dLst (daCons (dVar 4) (daNil))) (dFrz (dCall sp_expand (daCons (dVar 4) (daNil)))))) (dgName 2) (w_gathered_entries_b1)
def w_gathered_entries_c3 : DTS := dLock 1 (dRet (dFrz (dLcP (diKeys (dVar 1)) (dgName 2) (dTest (dOp gIn (dVar 2) (dVar 3))) [2] (dVar 2))))
def w_gathered_entries : DTS := dSeq (dSet 1 (dDc (diAny (dFrz (dCall sp_all_entries (daNil)))) (dgName 2) (dYes) [2] (dVar 2) (dC (.bl true)))) (dSeq (dSet 3 (dDict0)) (dSeq (dFor (diAny (dVar 0)) (dgName 4) (w_gathered_entries_b2)) (w_gathered_entries_c3)))
theorem gath_b2 {x0 x2 : Option D} {a d : Addr} {t : Tx} {kvs : List (DKey × D)} {M : Mu} {D0 : DEnds} (hne : a ≠ d) (ha : M a = some (.dK (keysT ents))) (hd : M d = some (.dK kvs)) (hg : GoodP t) (hl : kvs.length ≤ 1000000)
    (hn : ∀ x2' kvs' M', (∀ e, hasK kvs' e = (hasK kvs e || decide (e ∈ matchT t))) → kvs'.length ≤ kvs.length + 105 → (∀ b, b ≠ d → M' b = M b) → M' d = some (.dK kvs') → D0.nx [x0, some (.ref a), x2', some (.ref d), some (.str t)] M') :
    w_gathered_entries_b2 D0 [x0, some (.ref a), x2, some (.ref d), some (.str t)] M := by
  have loop : ∀ (es : List Tx) (x : Option D) (M0 : Mu), es.length ≤ 105 → (∀ e, decide (e ∈ es) = decide (e ∈ matchT t)) → (∀ b, b ≠ d → M0 b = M b) → M0 d = some (.dK kvs) → wFor (dgName 2) w_gathered_entries_b1 D0 (txs es) [x0, some (.ref a), x, some (.ref d), some (.str t)] M0 := by
    intro es x M0 hle hes hoth hd0
    refine wFor_by (fun i τ M' => ∃ x' kvs', τ = [x0, some (.ref a), x', some (.ref d), some (.str t)] ∧ (∀ e, hasK kvs' e = (hasK kvs e || decide (e ∈ es.take i))) ∧ kvs'.length ≤ kvs.length + i ∧ (∀ b, b ≠ d → M' b = M b) ∧ M' d = some (.dK kvs')) ⟨x, kvs, rfl, by simp, Nat.le_refl _, hoth, hd0⟩ ?_ ?_
    · rintro i e τ M' he ⟨x', kvs', rfl, h1, h2, h3, h4⟩ nxt hnx
      obtain ⟨u, hu, rfl⟩ := map_at he
      have hi := (List.getElem?_eq_some_iff.mp hu).1
      unfold w_gathered_entries_b1
      walk_at "dl"
      try simp only [h4]
      walk_at "dl"
      try simp only [h4]
      walk_at "dl"
      refine ⟨by omega, hnx _ _ ⟨_, addK kvs' u, rfl, fun e => ?_, ?_, fun b hb => by rw [put_ne hb]; exact h3 b hb, put_same⟩⟩
      · rw [hasK_add, h1, List.take_succ, hu]
        rw [Bool.eq_iff_iff]
        simp only [Bool.or_eq_true, decide_eq_true_eq, List.mem_append, Option.toList_some, List.mem_singleton]
        constructor
        · rintro (z | z | z)
          · exact .inr (.inr z)
          · exact .inl z
          · exact .inr (.inl z)
        · rintro (z | z | z)
          · exact .inr (.inl z)
          · exact .inr (.inr z)
          · exact .inl z
      · have := addK_len kvs' u; omega
    · rintro τ M' ⟨x', kvs', rfl, h1, h2, h3, h4⟩
      rw [txs, List.length_map] at h2
      rw [txs, List.length_map, List.take_length] at h1
      exact hn _ kvs' M' (fun e => by rw [h1, hes]) (by omega) h3 h4
  unfold w_gathered_entries_b2
  walk_at "dl"
  try simp only [ha]
  walk_at "dl"
  try simp only [ha]
  walk_at "dl"
  have ek : (lookK (keysT ents) (.inr t)).isSome = decide (t ∈ ents) := hasK_keys ents t
  rw [ek]
  by_cases m : t ∈ ents
  · rw [decide_eq_true m]
    walk_at "dl"
    refine ⟨by decide, loop [t] _ _ (by simp) (fun e => by rw [matchT_ent m]) (fun b _ => rfl) hd⟩
  · rw [decide_eq_false m]
    walk_at "dl"
    refine expand_ hg fun p hp => ?_
    try simp only [put_same, del_put_new hp]
    walk_at "dl"
    try simp only [put_same, del_put_new hp]
    walk_at "dl"
    exact loop (matchT t) _ _ (matchT_len hg) (fun e => rfl) (fun b _ => rfl) hd
theorem pG_gathered_entries : ∀ ds M Q E, spG_gathered_entries ds M Q E → w_gathered_entries (Ret Q E) (ds.map some ++ List.replicate (5 - 1) none) M := by
  rintro ds M Q E ⟨ps, rfl, hl, hg, hQ⟩
  unfold w_gathered_entries
  walk_at "dl"
  try simp only [dDc]
  walk_at "dl"
  try simp only [dDc]
  walk_at "dl"
  refine ⟨rfl, fun q hq => ?_⟩
  walk_at "dl"
  try simp only [put_same, del_put_new hq]
  walk_at "dl"
  try simp only [put_same, del_put_new hq]
  walk_at "dl"
  intro a ha
  refine dc_txs (ts := ents) [] (by rw [ents_105]; decide) (fun t ht kvs N h => ?_) (fun t ht kvs N h => ?_) ?_
  · walk_at "dl"
    exact h
  · walk_at "dl"
    exact h
  · walk_at "dl"
    intro d hd
    have hne : a ≠ d := fun z => by rw [z, put_same] at hd; cases hd
    refine wFor_by (fun i τ M' => ∃ x2 x4 kvs, τ = [some (.tup (txs ps)), some (.ref a), x2, some (.ref d), x4] ∧ (∀ e, hasK kvs e = (ps.take i).any fun t => decide (e ∈ matchT t)) ∧ kvs.length ≤ 105 * i ∧ (∀ b, b ≠ d → M' b = put M a (.dK (keysT ents)) b) ∧ M' d = some (.dK kvs))
      ⟨_, _, [], rfl, fun e => by simp [hasK, lookK], Nat.le_refl _, fun b hb => put_ne hb, put_same⟩ ?_ ?_
    · rintro i e τ M' he ⟨x2, x4, kvs, rfl, h1, h2, h3, h4⟩ nxt hnx
      obtain ⟨t, ht, rfl⟩ := map_at he
      have hi := (List.getElem?_eq_some_iff.mp ht).1
      walk_at "dl"
      refine gath_b2 hne (by rw [h3 a hne, put_same]) h4 (hg t (List.mem_of_getElem? ht)) (by omega) fun x2' kvs' M2 g1 g2 g3 g4 => hnx _ _ ⟨x2', _, kvs', rfl, fun e => ?_, by omega, fun b hb => (g3 b hb).trans (h3 b hb), g4⟩
      rw [g1, h1, List.take_succ, ht, List.any_append]
      simp
    · rintro τ M' ⟨x2, x4, kvs, rfl, h1, h2, h3, h4⟩
      rw [txs, List.length_map, List.take_length] at h1
      have hda : M' a = some (.dK (keysT ents)) := by rw [h3 a hne, put_same]
      unfold w_gathered_entries_c3
      walk_at "dl"
      try simp only [hda]
      walk_at "dl"
      try simp only [hda]
      walk_at "dl"
      intro u
      try simp only [dLcP, put_same]
      walk_at "dl"
      try simp only [dLcP, put_same]
      walk_at "dl"
      intro r hr
      have hra : a ≠ r := fun z => by rw [z, put_same] at hr; cases hr
      have hrd : d ≠ r := fun z => by rw [← z, put_ne (Ne.symm hne), h4] at hr; cases hr
      rw [keysT_keys ents_nd]
      refine lcP_txs (g := fun e => ps.any fun t => decide (e ∈ matchT t)) (fun acc => by rw [put_ne hra]; exact put_same) [] (by rw [ents_105]; decide) (fun t ht acc N h => ?_) (fun t ht hg acc N h => ?_) ?_
      · walk_at "dl"
        try simp only [put_ne hrd, put_ne (Ne.symm hne), h4]
        walk_at "dl"
        try simp only [put_ne hrd, put_ne (Ne.symm hne), h4]
        walk_at "dl"
        have ek : (lookK kvs (.inr t)).isSome = ps.any fun u => decide (t ∈ matchT u) := h1 t
        rw [ek]
        exact h
      · walk_at "dl"
        exact h
      · try simp only [put_same, del_put_new hr]
        walk_at "dl"
        try simp only [put_same, del_put_new hr]
        walk_at "dl"
        refine hQ _ fun b o hb => ?_
        have b1 : b ≠ a := fun z => by rw [z, ha] at hb; cases hb
        have hd2 : M d = none := by rw [← put_ne (M := M) (o := .dK (keysT ents)) (Ne.symm hne)]; exact hd
        have b2 : b ≠ d := fun z => by rw [z, hd2] at hb; cases hb
        rw [put_ne b1, h3 b b2, put_ne b1]
        exact hb
theorem p_gathered_entries : ∀ ds M Q E, sp_gathered_entries ds M Q E → w_gathered_entries (Ret Q E) (ds.map some ++ List.replicate (5 - 1) none) M := by
  rintro ds M Q E (h | ⟨ps, pre, t0, post, rfl, eps, hl, hg, B, hE⟩)
  · exact pG_gathered_entries ds M Q E h
  have lpre : pre.length ≤ 1000 := by rw [eps, List.length_append] at hl; omega
  unfold w_gathered_entries
  walk_at "dl"
  try simp only [dDc]
  walk_at "dl"
  try simp only [dDc]
  walk_at "dl"
  refine ⟨rfl, fun q hq => ?_⟩
  walk_at "dl"
  try simp only [put_same, del_put_new hq]
  walk_at "dl"
  try simp only [put_same, del_put_new hq]
  walk_at "dl"
  intro a ha
  refine dc_txs (ts := ents) [] (by rw [ents_105]; decide) (fun t ht kvs N h => ?_) (fun t ht kvs N h => ?_) ?_
  · walk_at "dl"
    exact h
  · walk_at "dl"
    exact h
  · walk_at "dl"
    intro d hd
    have hne : a ≠ d := fun z => by rw [z, put_same] at hd; cases hd
    have xt : ∀ M', (∀ b, b ≠ d → M' b = put M a (.dK (keysT ents)) b) → Xt M M' := fun M' h b o hb => by
      have b1 : b ≠ a := fun z => by rw [z, ha] at hb; cases hb
      have hd2 : M d = none := by rw [← put_ne (M := M) (o := .dK (keysT ents)) (Ne.symm hne)]; exact hd
      have b2 : b ≠ d := fun z => by rw [z, hd2] at hb; cases hb
      rw [h b b2, put_ne b1]; exact hb
    refine wFor_by (fun i τ M' => i ≤ pre.length ∧ ∃ x2 x4 kvs, τ = [some (.tup (txs ps)), some (.ref a), x2, some (.ref d), x4] ∧ kvs.length ≤ 105 * i ∧ (∀ b, b ≠ d → M' b = put M a (.dK (keysT ents)) b) ∧ M' d = some (.dK kvs))
      ⟨Nat.zero_le _, _, _, [], rfl, Nat.le_refl _, fun b hb => put_ne hb, put_same⟩ ?_ ?_
    · rintro i e τ M' he ⟨hi, x2, x4, kvs, rfl, h2, h3, h4⟩ nxt hnx
      obtain ⟨t, ht, rfl⟩ := map_at he
      have hda : M' a = some (.dK (keysT ents)) := by rw [h3 a hne, put_same]
      rw [eps, List.getElem?_append] at ht
      walk_at "dl"
      by_cases hlt : i < pre.length
      · rw [if_pos hlt] at ht
        refine gath_b2 hne hda h4 (hg t (List.mem_of_getElem? ht)) (by omega) fun x2' kvs' M2 g1 g2 g3 g4 => hnx _ _ ⟨hlt, x2', _, kvs', rfl, by omega, fun b hb => (g3 b hb).trans (h3 b hb), g4⟩
      · rw [if_neg hlt] at ht
        have e0 : i - pre.length = 0 := by omega
        rw [e0] at ht
        cases ht
        unfold w_gathered_entries_b2
        walk_at "dl"
        try simp only [hda]
        walk_at "dl"
        try simp only [hda]
        walk_at "dl"
        have ek : (lookK (keysT ents) (.inr t0)).isSome = decide (t0 ∈ ents) := hasK_keys ents t0
        rw [ek, decide_eq_false (bad_ent B)]
        walk_at "dl"
        exact bad_expand B (hE M' (xt M' h3))
    · rintro τ M' ⟨hi, x2, x4, kvs, rfl, h2, h3, h4⟩
      rw [txs, List.length_map, eps, List.length_append, List.length_cons] at hi
      omega
def spG_Rule_init : DSp := fun ds M Q _ => ∃ a ps, ds = [.ref a, .tup (txs ps)] ∧ M a = some (.ins "Rule" []) ∧ ps.length ≤ 1000 ∧ (∀ t ∈ ps, GoodP t) ∧ ∀ M', Xt M M' → Q .non (put M' a (Rl (gath ps)))
def spB_Rule_init : DSp := fun ds M Q E => ∃ a ps pre t post, ds = [.ref a, .tup (txs ps)] ∧ M a = some (.ins "Rule" []) ∧ ps = pre ++ t :: post ∧ ps.length ≤ 1000 ∧ (∀ u ∈ pre, GoodP u) ∧ BadP t ∧ ∀ M', Xt M M' → E (errI t) M'
def sp_Rule_init : DSp := orS spG_Rule_init spB_Rule_init
theorem init_in {ds : List D} {M : Mu} {Q : DK} {E : DX} (h : spG_Rule_init ds M Q E) : sp_Rule_init ds M Q E := .inl h
def w_Rule_init : DTS := dSetF "Rule" "_rows" (dVar 0) (dCall sp_gathered_entries (daCons (dVar 1) (daNil)))
theorem pG_Rule_init : ∀ ds M Q E, spG_Rule_init ds M Q E → w_Rule_init (Ret Q E) (ds.map some ++ List.replicate (2 - 2) none) M := by
  rintro ds M Q E ⟨a, ps, rfl, ha, hl, hg, hQ⟩
  unfold w_Rule_init
  walk_at "dl"
  refine gathered_ hl hg fun M' x => ?_
  walk_at "dl"
  try simp only [x a _ ha]
  walk_at "dl"
  try simp only [x a _ ha]
  walk_at "dl"
  exact ⟨by decide, hQ M' x⟩
theorem p_Rule_init : ∀ ds M Q E, sp_Rule_init ds M Q E → w_Rule_init (Ret Q E) (ds.map some ++ List.replicate (2 - 2) none) M := by
  rintro ds M Q E (h | ⟨a, ps, pre, t, post, rfl, ha, eps, hl, hg, B, hE⟩)
  · exact pG_Rule_init ds M Q E h
  unfold w_Rule_init
  walk_at "dl"
  exact .inr ⟨ps, pre, t, post, rfl, eps, hl, hg, B, hE⟩
theorem rule_make {ps : List Tx} {M : Mu} {R : Addr → Mu → Prop} {E : DX} (hl : ps.length ≤ 1000) (hg : ∀ t ∈ ps, GoodP t) (h : ∀ p M', M p = none → Xt M M' → M' p = some (Rl (gath ps)) → R p M') (p : Addr) (hp : M p = none) :
    starSp 1 sp_Rule_init (.ref p :: txs ps) (put M p (.ins "Rule" [])) (fun d M2 => d = .non ∧ R p M2) E := by
  refine ⟨by simp, by simp [txs]; omega, init_in ⟨p, ps, ?_, put_same, hl, hg, fun M' x => ⟨rfl, h p _ hp (x.set hp) put_same⟩⟩⟩
  rfl
structure RuleAt (M : Mu) (a : Addr) (es : List Tx) : Prop where
  at_ : M a = some (Rl es)
  tab : Tab es
theorem RuleAt.xt {M M' : Mu} {a : Addr} {es : List Tx} (h : RuleAt M a es) (x : Xt M M') : RuleAt M' a es := ⟨x a _ h.at_, h.tab⟩
theorem RuleAt.src {M M' : Mu} {a p : Addr} {es : List Tx} (h : RuleAt M a es) (s : SrcTo p M M') (hp : Src M p) : RuleAt M' a es := ⟨by
  have n : a ≠ p := fun z => by
    obtain ⟨ns, t, r, d, e, _⟩ := hp
    rw [← z, h.at_] at e
    cases e
  rw [s.2 a n]; exact h.at_, h.tab⟩
def spB1 : DSp := fun ds M Q E => ∃ t, ds = [.str t] ∧ BadP t ∧ ∀ M', Xt M M' → E (errI t) M'
def spB2 : DSp := fun ds M Q E => ∃ a t es, ds = [.ref a, .str t] ∧ RuleAt M a es ∧ BadP t ∧ ∀ M', Xt M M' → E (errI t) M'
end DL
namespace DL
open PySem L2
local macro_rules | `(tactic| walk_at "dl") => `(tactic| try simp (config := { proj := false }) only [↓ex_mk, ↓nx_mk, ↓rt_mk, ↓bk_mk, ↓ct_mk, ↓xc_mk, ↓u_c, ↓u_op, ↓u_un, ↓u_and, ↓u_or, ↓u_not, ↓u_if, ↓u_anil, ↓u_acons, ↓u_lst, ↓u_lstM, ↓u_tup, ↓u_call, ↓u_sl, ↓u_onone, ↓u_cb, ↓u_mt, ↓u_mt0, ↓u_pass, ↓u_seq, ↓u_set, ↓u_asg, ↓u_drop, ↓u_ret, ↓u_retN, ↓u_ifs, ↓u_brk, ↓u_cnt, ↓u_for, ↓u_gname, ↓u_gsub, ↓u_fs, ↓u_fmt, ↓u_js0, ↓u_js, ↓u_em, ↓u_yes, ↓u_never, ↓u_ref, ↓u_forR, ↓u_star, ↓u_dict, ↓u_dict0, ↓u_dp0, ↓u_dp1, ↓u_forK, ↓u_lock, ↓u_kd, ↓u_fld, ↓u_setF, ↓u_make, ↓u_binL, ↓u_binR, ↓u_inO, ↓u_getO, ↓u_setO, ↓u_augO, ↓u_prp, ↓u_inv, ↓u_meth, ↓u_keys, ↓u_try, ↓u_cm, ↓u_makeV, ↓r_enum, ↓r_own, ↓u_raise, ↓u_tryas, ↓u_ca, ↓u_xf, ↓u_idxC, su_mk,
  ↓r_var, ↓r_test, ↓r_andV, ↓r_orV, ↓r_notV, ↓r_tru, ↓r_frz, ↓r_osome, ↓r_any, ↓r_scr, scr_c, ↓r_rng1, ↓r_rng2, ↓r_fz, wipeD,
  onSome_s, onBl_b, onInt_i, onStr_s, onVar_s, onML_l, onML2_l, onML2_d, onDK_d, fmt_s, fmt_i, tru_n, tru_b, tru_i, tru_s, tru_l, tru_t, tru_r, frz_r, sl_s, sl_l, sl_t, sl_r, add_i, add_s, add_l, add_t, add_rl, add_lr, sub_i, mul_i, div_i, mod_i, pow_i, neg_i, cmp_i, eq_i, eq_s, eq_b, eq_n, eq_l, eq_t, eq_rl, eq_lr, eq_ni, eq_in, eq_ns, eq_sn, eq_nb, eq_bn, eq_is, eq_si,
  ix_l, ix_t, ix_s, ix_ri, ix_rs, in_ss, in_l, in_t, in_ir, in_sr, isB_t, isB_f, ltS_s, gtS_s, sorted_l, keyK_s, keyK_i, u_dget, lenOR_r, listOR_r, isn_n, isn_b, isn_i, isn_s, isn_r, isn_l, isn_t, len_s, len_c, len_l, len_t, len_r, int_i, int_b, min_ii, max_ii, list_l, list_t, list_r, list_c, listM_l, listM_c, listM_t, listM_r, isi_, isi_k, ty_n, ty_b, ty_i, ty_s, ty_l, ty_t, it_s, it_l, it_r, itM_l, itM_d, app_r, rev_r, ends_s, ins_r, set_rs, str_i, str_s, ext_l, pop_r, clr_r, star_l, star_t, star_r, onRef_r, onML3_l, onML3_d, onML3_f, onDR_d, onDR_f, onFK_f, join_l, join_t, join_r, starts_s, r_gtup, r_glst, r_gnil, r_gcons, set_r, items_s, items_l, items_t, rng1_i, rng2_i, fz_r, addM_l, addM_rl, onIns_i, onLst_l, isIns_r, isInsM_i, noF_r, noFM_i, rows_r, lenO_r, listO_r, listOM_r, isCK_i, isCK_l, isC_r, isC_s, isC_i, isC_b, isC_n, isC_l, isC_t, putG_0, putG_1, lk_1, onCl_c, onEnum_l, index_l, strO_r, cmpO_r, pop1_r, tuple_l, tuple_t, divmod_i, upper_s, indexT_t, onExc_e, isE_t, isE_c, isE_v, zip_1,
  List.map_cons, List.map_nil, List.cons_append, List.nil_append, List.length_cons, List.length_nil, List.replicate, List.getElem?_cons_zero, List.getElem?_cons_succ, List.set_cons_zero, List.set_cons_succ, id, decide_eq_true_eq, if_true, if_false, Bool.false_eq_true, reduceIte, Bool.not_true, Bool.not_false, true_and, Nat.reduceAdd, Nat.reduceSub, Int.reduceToNat, Int.toNat_natCast, put_same, put_put, atI_0, atI_1, atI_2, atI_3, atI_4, ixN_40, ixN_41, ixN_42, ixN_43])
def PatX (t : Tx) : Prop := ∃ a b c, Pat t a b c ∧ okT a ∧ okT b ∧ okT c
theorem PatX.good {t : Tx} (h : PatX t) : GoodP t := by obtain ⟨a, b, c, P, _⟩ := h; exact ⟨a, b, c, P⟩
theorem star_ok : okT [42] := by unfold okT; decide
theorem cut_join_id {c : Nat} : ∀ t : Tx, joinT [c] (cutAt c t) = t
  | [] => rfl
  | x :: r => by
    have ih := cut_join_id (c := c) r
    by_cases e : x = c
    · rw [show cutAt c (x :: r) = [] :: cutAt c r from if_pos e]
      cases q : cutAt c r with
      | nil => exact absurd q (cutAt_ne c r)
      | cons y ys =>
        rw [q] at ih
        show [] ++ ([c] ++ joinT [c] (y :: ys)) = _
        rw [ih, e]
        rfl
    · rw [show cutAt c (x :: r) = (match cutAt c r with
        | y :: ys => (x :: y) :: ys
        | [] => [[x]]) from if_neg e]
      cases q : cutAt c r with
      | nil => exact absurd q (cutAt_ne c r)
      | cons y ys =>
        rw [q] at ih
        show joinT [c] ((x :: y) :: ys) = _
        rw [← ih]
        cases ys with
        | nil => rfl
        | cons z zs => rfl
theorem PatX.len {t : Tx} (h : PatX t) : t.length ≤ 100000 := by obtain ⟨a, b, c, P, _⟩ := h; exact P.lt
theorem matched_ {t : Tx} {M : Mu} {Q : DK} {E : DX} (h : PatX t) (k : Q (.lst (txs (matchT t))) M) : sp_l_matched [.str t] M Q E := by
  obtain ⟨a, b, c, P, oa, ob, oc⟩ := h
  refine ⟨t, a, b, c, rfl, P, oa, ob, oc, ?_⟩
  rw [← matchT_of P]
  exact k
theorem pattern_b {p : Addr} {M : Mu} {Q : DK} {E : DX} (hs : Src M p) (k : ∀ t a b c M', cutAt 32 t = [a, b, c] → a.length ≤ 1000 → b.length ≤ 1000 → c.length ≤ 1000 → t.length ≤ 902 → 0 < t.length → SrcTo p M M' → Q (.str t) M') : sp_l_pattern [.ref p] M Q E :=
  ⟨p, rfl, hs, fun t a b c M' P oa ob oc l1 l2 l3 l4 s => k t a b c M' P.cut l1 l2 l3 l4 (List.length_pos_iff.mpr fun z => by
    have := P.cut
    rw [z] at this
    simp [cutAt] at this) s⟩
structure SX (p : Addr) (M M' : Mu) : Prop where
  src : Src M' p
  st : ∀ b o, b ≠ p → M b = some o → M' b = some o
theorem SrcTo.sx {p : Addr} {M M' : Mu} (h : SrcTo p M M') : SX p M M' := ⟨h.1, fun b o hb e => by rw [h.2 b hb]; exact e⟩
theorem SX.trans {p : Addr} {M M1 M2 : Mu} (a : SX p M M1) (b : SX p M1 M2) : SX p M M2 := ⟨b.src, fun c o hc e => b.st c o hc (a.st c o hc e)⟩
theorem Xt.src {p : Addr} {M M' : Mu} (x : Xt M M') (h : Src M p) : Src M' p := by
  obtain ⟨ns, t, r, d, e, z⟩ := h
  exact ⟨ns, t, r, d, x p _ e, z⟩
theorem Xt.sx {p : Addr} {M M' : Mu} (x : Xt M M') (h : Src M p) : SX p M M' := ⟨x.src h, fun b o _ e => x b o e⟩
theorem RuleAt.sx {M M' : Mu} {a p : Addr} {es : List Tx} (h : RuleAt M a es) (s : SX p M M') (hp : Src M p) : RuleAt M' a es := ⟨by
  have n : a ≠ p := fun z => by
    obtain ⟨ns, t, r, d, e, _⟩ := hp
    rw [← z, h.at_] at e
    cases e
  exact s.st a _ n h.at_, h.tab⟩
theorem same_d {d : D} {M : Mu} {Q : DK} {E : DX} (h : pln 8 d = true) (q : Q (.bl true) M) : sp_l_same 8 [d, d] M Q E := by
  refine ⟨_, _, rfl, by rw [vw_pln _ h]; exact h, by rw [vw_pln _ h]; exact h, ?_⟩
  rw [vw_pln _ h, eqD_refl]
  exact q
theorem pln_txs {ts : List Tx} (h : ts.length ≤ 1000000) : pln 8 (.lst (txs ts)) = true := by
  unfold pln plnIn
  rw [txs, List.length_map, decide_eq_true h, Bool.true_and]
  refine plns_of fun d hd => ?_
  obtain ⟨t, _, rfl⟩ := List.mem_map.mp hd
  unfold pln
  rfl
theorem same_txs {ts : List Tx} {M : Mu} {Q : DK} {E : DX} (h : ts.length ≤ 1000000) (q : Q (.bl true) M) : sp_l_same 8 [.lst (txs ts), .lst (txs ts)] M Q E := same_d (pln_txs h) q
end DL
namespace DL
open PySem L2
local macro_rules | `(tactic| walk_at "dl") => `(tactic| try simp (config := { proj := false }) only [↓ex_mk, ↓nx_mk, ↓rt_mk, ↓bk_mk, ↓ct_mk, ↓xc_mk, ↓u_c, ↓u_op, ↓u_un, ↓u_and, ↓u_or, ↓u_not, ↓u_if, ↓u_anil, ↓u_acons, ↓u_lst, ↓u_lstM, ↓u_tup, ↓u_call, ↓u_sl, ↓u_onone, ↓u_cb, ↓u_mt, ↓u_mt0, ↓u_pass, ↓u_seq, ↓u_set, ↓u_asg, ↓u_drop, ↓u_ret, ↓u_retN, ↓u_ifs, ↓u_brk, ↓u_cnt, ↓u_for, ↓u_gname, ↓u_gsub, ↓u_fs, ↓u_fmt, ↓u_js0, ↓u_js, ↓u_em, ↓u_yes, ↓u_never, ↓u_ref, ↓u_forR, ↓u_star, ↓u_dict, ↓u_dict0, ↓u_dp0, ↓u_dp1, ↓u_forK, ↓u_lock, ↓u_kd, ↓u_fld, ↓u_setF, ↓u_make, ↓u_binL, ↓u_binR, ↓u_inO, ↓u_getO, ↓u_setO, ↓u_augO, ↓u_prp, ↓u_inv, ↓u_meth, ↓u_keys, ↓u_try, ↓u_cm, ↓u_makeV, ↓r_enum, ↓r_own, ↓u_raise, ↓u_tryas, ↓u_ca, ↓u_xf, ↓u_idxC, su_mk,
  ↓r_var, ↓r_test, ↓r_andV, ↓r_orV, ↓r_notV, ↓r_tru, ↓r_frz, ↓r_osome, ↓r_any, ↓r_scr, scr_c, ↓r_rng1, ↓r_rng2, ↓r_fz, wipeD,
  onSome_s, onBl_b, onInt_i, onStr_s, onVar_s, onML_l, onML2_l, onML2_d, onDK_d, fmt_s, fmt_i, tru_n, tru_b, tru_i, tru_s, tru_l, tru_t, tru_r, frz_r, sl_s, sl_l, sl_t, sl_r, add_i, add_s, add_l, add_t, add_rl, add_lr, sub_i, mul_i, div_i, mod_i, pow_i, neg_i, cmp_i, eq_i, eq_s, eq_b, eq_n, eq_l, eq_t, eq_rl, eq_lr, eq_ni, eq_in, eq_ns, eq_sn, eq_nb, eq_bn, eq_is, eq_si,
  ix_l, ix_t, ix_s, ix_ri, ix_rs, in_ss, in_l, in_t, in_ir, in_sr, isB_t, isB_f, ltS_s, gtS_s, sorted_l, keyK_s, keyK_i, u_dget, lenOR_r, listOR_r, isn_n, isn_b, isn_i, isn_s, isn_r, isn_l, isn_t, len_s, len_c, len_l, len_t, len_r, int_i, int_b, min_ii, max_ii, list_l, list_t, list_r, list_c, listM_l, listM_c, listM_t, listM_r, isi_, isi_k, ty_n, ty_b, ty_i, ty_s, ty_l, ty_t, it_s, it_l, it_r, itM_l, itM_d, app_r, rev_r, ends_s, ins_r, set_rs, str_i, str_s, ext_l, pop_r, clr_r, star_l, star_t, star_r, onRef_r, onML3_l, onML3_d, onML3_f, onDR_d, onDR_f, onFK_f, join_l, join_t, join_r, starts_s, r_gtup, r_glst, r_gnil, r_gcons, set_r, items_s, items_l, items_t, rng1_i, rng2_i, fz_r, addM_l, addM_rl, onIns_i, onLst_l, isIns_r, isInsM_i, noF_r, noFM_i, rows_r, lenO_r, listO_r, listOM_r, isCK_i, isCK_l, isC_r, isC_s, isC_i, isC_b, isC_n, isC_l, isC_t, putG_0, putG_1, lk_1, onCl_c, onEnum_l, index_l, strO_r, cmpO_r, pop1_r, tuple_l, tuple_t, divmod_i, upper_s, indexT_t, onExc_e, isE_t, isE_c, isE_v, zip_1,
  List.map_cons, List.map_nil, List.cons_append, List.nil_append, List.length_cons, List.length_nil, List.replicate, List.getElem?_cons_zero, List.getElem?_cons_succ, List.set_cons_zero, List.set_cons_succ, id, decide_eq_true_eq, if_true, if_false, Bool.false_eq_true, reduceIte, Bool.not_true, Bool.not_false, true_and, Nat.reduceAdd, Nat.reduceSub, Int.reduceToNat, Int.toNat_natCast, put_same, put_put, atI_0, atI_1, atI_2, atI_3, atI_4, ixN_40, ixN_41, ixN_42, ixN_43])
def Opn (M : Mu) (d : D) (rs : List Tx) : Prop := (∃ a, d = .ref a ∧ RuleAt M a rs) ∨ ∃ t, d = .str t ∧ GoodP t ∧ rs = matchT t
theorem Opn.tab {M : Mu} {d : D} {rs : List Tx} (h : Opn M d rs) : Tab rs := by
  rcases h with ⟨a, _, h⟩ | ⟨t, _, g, rfl⟩
  · exact h.tab
  · exact Tab.match_ g
theorem Opn.xt {M M' : Mu} {d : D} {rs : List Tx} (h : Opn M d rs) (x : Xt M M') : Opn M' d rs := by
  rcases h with ⟨a, e, h⟩ | h
  · exact .inl ⟨a, e, h.xt x⟩
  · exact .inr h
def spG_entries_of : DSp := fun ds M Q _ => ∃ d rs, ds = [d] ∧ Opn M d rs ∧ ∀ M', Xt M M' → Q (.lst (txs rs)) M'
def sp_entries_of : DSp := orS spG_entries_of spB1
theorem entries_of_in {ds : List D} {M : Mu} {Q : DK} {E : DX} (h : spG_entries_of ds M Q E) : sp_entries_of ds M Q E := .inl h
def w_entries_of : DTS := dSeq (dIfS (dTru (dCB (gIsC "Rule") (daCons (dVar 0) (daCons (dC (.cl "Rule")) (daNil))))) (dRet (dCB (gListO "Rule" "_rows") (daCons (dVar 0) (daNil)))) (dPass)) (dSeq (dIfS (dTru (dCB gIsi (daCons (dVar 0) (daCons (dC (.ty "str")) (daNil))))) (dRet (dFrz (dCall sp_expand (daCons (dVar 0) (daNil))))) (dPass)) (dRet (dC .non)))
theorem entries_of_ {d : D} {rs : List Tx} {M : Mu} {Q : DK} {E : DX} (h : Opn M d rs) (k : ∀ M', Xt M M' → Q (.lst (txs rs)) M') : sp_entries_of [d] M Q E := entries_of_in ⟨d, rs, rfl, h, k⟩
theorem pG_entries_of : ∀ ds M Q E, spG_entries_of ds M Q E → w_entries_of (Ret Q E) (ds.map some ++ List.replicate (1 - 1) none) M := by
  rintro ds M Q E ⟨d, rs, rfl, h, hQ⟩
  rcases h with ⟨a, rfl, h⟩ | ⟨t, rfl, g, rfl⟩
  · have hA := h.at_
    unfold w_entries_of
    iterate 10 ((try simp only [hA]); walk_at "dl")
    exact hQ M (Xt.refl M)
  · unfold w_entries_of
    iterate 10 ((try simp only [isi_k]); walk_at "dl")
    refine ⟨by decide, ?_⟩
    have e : isaB "str" "str" = true := by decide
    rw [e]
    walk_at "dl"
    refine expand_ g fun p hp => ?_
    iterate 10 ((try simp only [put_same, del_put_new hp]); walk_at "dl")
    exact hQ M (Xt.refl M)
theorem p_entries_of : ∀ ds M Q E, sp_entries_of ds M Q E → w_entries_of (Ret Q E) (ds.map some ++ List.replicate (1 - 1) none) M := by
  rintro ds M Q E (h | ⟨t, rfl, B, hE⟩)
  · exact pG_entries_of ds M Q E h
  unfold w_entries_of
  iterate 10 ((try simp only [isi_k]); walk_at "dl")
  refine ⟨by decide, ?_⟩
  have e : isaB "str" "str" = true := by decide
  rw [e]
  walk_at "dl"
  exact bad_expand B (hE M (Xt.refl M))
theorem bad_entries_of {t : Tx} {M : Mu} {Q : DK} {E : DX} (B : BadP t) (h : ∀ M', Xt M M' → E (errI t) M') : sp_entries_of [.str t] M Q E := .inr ⟨t, rfl, B, h⟩
def orE (es rs : List Tx) : List Tx := ents.filter fun e => decide (e ∈ es ++ rs)
theorem tab1000 {es : List Tx} (h : Tab es) : es.length ≤ 1000 := Nat.le_trans h.len (by decide)
def spAug (f : List Tx → List Tx → List Tx) : DSp := fun ds M Q _ => ∃ a d es rs, ds = [.ref a, d] ∧ RuleAt M a es ∧ Opn M d rs ∧ ∀ M', Xt M M' → Q (.ref a) (put M' a (Rl (f es rs)))
abbrev spG_Rule_ior : DSp := spAug orE
def sp_Rule_ior : DSp := orS spG_Rule_ior spB2
theorem Rule_ior_in {ds : List D} {M : Mu} {Q : DK} {E : DX} (h : spG_Rule_ior ds M Q E) : sp_Rule_ior ds M Q E := .inl h
def w_Rule_ior : DTS := dSeq (dSet 2 (dCall sp_entries_of (daCons (dVar 1) (daNil)))) (dSeq (dIfS (dTest (dOp gIsN (dVar 2) (dC .non))) (dNever) (dPass)) (dSeq (dSetF "Rule" "_rows" (dVar 0) (dCall sp_with_both (daCons (dFld "Rule" "_rows" (dVar 0)) (daCons (dVar 2) (daNil))))) (dRet (dVar 0))))
theorem pG_Rule_ior : ∀ ds M Q E, spG_Rule_ior ds M Q E → w_Rule_ior (Ret Q E) (ds.map some ++ List.replicate (3 - 2) none) M := by
  rintro ds M Q E ⟨a, d, es, rs, rfl, ha, hd, hQ⟩
  unfold w_Rule_ior
  walk_at "dl"
  refine entries_of_ hd fun M1 x1 => ?_
  have hA := (ha.xt x1).at_
  iterate 10 ((try simp only [hA]); walk_at "dl")
  refine ⟨es, rs, rfl, tab1000 ha.tab, tab1000 hd.tab, fun M2 x2 => ?_⟩
  iterate 10 ((try simp only [((ha.xt x1).xt x2).at_]); walk_at "dl")
  exact ⟨by decide, hQ M2 (x1.trans x2)⟩
theorem p_Rule_ior : ∀ ds M Q E, sp_Rule_ior ds M Q E → w_Rule_ior (Ret Q E) (ds.map some ++ List.replicate (3 - 2) none) M := by
  rintro ds M Q E (h | ⟨a, t, es, rfl, ha, B, hE⟩)
  · exact pG_Rule_ior ds M Q E h
  have hA := ha.at_
  unfold w_Rule_ior
  iterate 10 ((try simp only [hA]); walk_at "dl")
  exact bad_entries_of B hE
theorem gath_snoc (ls : List Tx) {t : Tx} (h : GoodP t) : gath (ls ++ [t]) = orE (gath ls) (matchT t) := by
  unfold gath orE
  refine List.filter_congr fun e he => ?_
  rw [List.any_append, Bool.eq_iff_iff, Bool.or_eq_true, decide_eq_true_iff, List.mem_append, List.mem_filter]
  simp [he]
end DL
namespace DL
open PySem L2
local macro_rules | `(tactic| walk_at "dl") => `(tactic| try simp (config := { proj := false }) only [↓ex_mk, ↓nx_mk, ↓rt_mk, ↓bk_mk, ↓ct_mk, ↓xc_mk, ↓u_c, ↓u_op, ↓u_un, ↓u_and, ↓u_or, ↓u_not, ↓u_if, ↓u_anil, ↓u_acons, ↓u_lst, ↓u_lstM, ↓u_tup, ↓u_call, ↓u_sl, ↓u_onone, ↓u_cb, ↓u_mt, ↓u_mt0, ↓u_pass, ↓u_seq, ↓u_set, ↓u_asg, ↓u_drop, ↓u_ret, ↓u_retN, ↓u_ifs, ↓u_brk, ↓u_cnt, ↓u_for, ↓u_gname, ↓u_gsub, ↓u_fs, ↓u_fmt, ↓u_js0, ↓u_js, ↓u_em, ↓u_yes, ↓u_never, ↓u_ref, ↓u_forR, ↓u_star, ↓u_dict, ↓u_dict0, ↓u_dp0, ↓u_dp1, ↓u_forK, ↓u_lock, ↓u_kd, ↓u_fld, ↓u_setF, ↓u_make, ↓u_binL, ↓u_binR, ↓u_inO, ↓u_getO, ↓u_setO, ↓u_augO, ↓u_prp, ↓u_inv, ↓u_meth, ↓u_keys, ↓u_try, ↓u_cm, ↓u_makeV, ↓r_enum, ↓r_own, ↓u_raise, ↓u_tryas, ↓u_ca, ↓u_xf, ↓u_idxC, su_mk,
  ↓r_var, ↓r_test, ↓r_andV, ↓r_orV, ↓r_notV, ↓r_tru, ↓r_frz, ↓r_osome, ↓r_any, ↓r_scr, scr_c, ↓r_rng1, ↓r_rng2, ↓r_fz, wipeD,
  onSome_s, onBl_b, onInt_i, onStr_s, onVar_s, onML_l, onML2_l, onML2_d, onDK_d, fmt_s, fmt_i, tru_n, tru_b, tru_i, tru_s, tru_l, tru_t, tru_r, frz_r, sl_s, sl_l, sl_t, sl_r, add_i, add_s, add_l, add_t, add_rl, add_lr, sub_i, mul_i, div_i, mod_i, pow_i, neg_i, cmp_i, eq_i, eq_s, eq_b, eq_n, eq_l, eq_t, eq_rl, eq_lr, eq_ni, eq_in, eq_ns, eq_sn, eq_nb, eq_bn, eq_is, eq_si,
  ix_l, ix_t, ix_s, ix_ri, ix_rs, in_ss, in_l, in_t, in_ir, in_sr, isB_t, isB_f, ltS_s, gtS_s, sorted_l, keyK_s, keyK_i, u_dget, lenOR_r, listOR_r, isn_n, isn_b, isn_i, isn_s, isn_r, isn_l, isn_t, len_s, len_c, len_l, len_t, len_r, int_i, int_b, min_ii, max_ii, list_l, list_t, list_r, list_c, listM_l, listM_c, listM_t, listM_r, isi_, isi_k, ty_n, ty_b, ty_i, ty_s, ty_l, ty_t, it_s, it_l, it_r, itM_l, itM_d, app_r, rev_r, ends_s, ins_r, set_rs, str_i, str_s, ext_l, pop_r, clr_r, star_l, star_t, star_r, onRef_r, onML3_l, onML3_d, onML3_f, onDR_d, onDR_f, onFK_f, join_l, join_t, join_r, starts_s, r_gtup, r_glst, r_gnil, r_gcons, set_r, items_s, items_l, items_t, rng1_i, rng2_i, fz_r, addM_l, addM_rl, onIns_i, onLst_l, isIns_r, isInsM_i, noF_r, noFM_i, rows_r, lenO_r, listO_r, listOM_r, isCK_i, isCK_l, isC_r, isC_s, isC_i, isC_b, isC_n, isC_l, isC_t, putG_0, putG_1, lk_1, onCl_c, onEnum_l, index_l, strO_r, cmpO_r, pop1_r, tuple_l, tuple_t, divmod_i, upper_s, indexT_t, onExc_e, isE_t, isE_c, isE_v, zip_1,
  List.map_cons, List.map_nil, List.cons_append, List.nil_append, List.length_cons, List.length_nil, List.replicate, List.getElem?_cons_zero, List.getElem?_cons_succ, List.set_cons_zero, List.set_cons_succ, id, decide_eq_true_eq, if_true, if_false, Bool.false_eq_true, reduceIte, Bool.not_true, Bool.not_false, true_and, Nat.reduceAdd, Nat.reduceSub, Int.reduceToNat, Int.toNat_natCast, put_same, put_put, atI_0, atI_1, atI_2, atI_3, atI_4, ixN_40, ixN_41, ixN_42, ixN_43])
def sp_l_is_pattern : DSp := fun ds M Q _ => ∃ t, ds = [.str t] ∧ t.length ≤ 100000 ∧ Q (.bl (patB t)) M
def w_l_is_pattern_b1 : DTS := dSeq (dSet 3 (dOp gIx (dLst (daCons (dCall sp_l_standings (daNil)) (daCons (dCall sp_l_deeds (daNil)) (daCons (dCall sp_l_relations (daNil)) (daNil))))) (dVar 2))) (dIfS (dAnd (dTest (dOp gNe (dOp gIx (dVar 1) (dVar 2)) (dC (.str [42])))) (dNot (dTru (dCB gAll (daCons (dFrz (dLcM (diAny (dMt "str" gSplit (dOp gIx (dVar 1) (dVar 2)) (daCons (dC (.str [44])) (daNil)))) (dgName 4) (dYes) [4] [] (dOp gIn (dVar 4) (dVar 3)))) (daNil)))))) (dRet (dC (.bl false))) (dPass))
def w_l_is_pattern : DTS := dSeq (dSet 1 (dMt "str" gSplit (dVar 0) (daCons (dC (.str [32])) (daNil)))) (dSeq (dIfS (dTest (dOp gNe (dCB gLen (daCons (dVar 1) (daNil))) (dC (.int 3)))) (dRet (dC (.bl false))) (dPass)) (dSeq (dFor (diRng1 (daCons (dC (.int 3)) (daNil))) (dgName 2) (w_l_is_pattern_b1)) (dRet (dC (.bl true)))))
theorem ispat_b1 {t a b c u : Tx} {ws : List Tx} {k : Int} {x3 x4 : Option D} {M : Mu} {D0 : DEnds} (hu : atI [D.str a, D.str b, D.str c] k = some (.str u)) (hw : atI [D.lst (txs L_S), D.lst (txs L_D), D.lst (txs L_R)] k = some (.lst (txs ws))) (lu : u.length ≤ 100000)
    (h1 : gpB u ws = true → ∀ x3 x4, D0.nx [some (.str t), some (.lst [.str a, .str b, .str c]), some (.int k), x3, x4] M) (h2 : gpB u ws = false → D0.rt (.bl false) M) :
    w_l_is_pattern_b1 D0 [some (.str t), some (.lst [.str a, .str b, .str c]), some (.int k), x3, x4] M := by
  unfold w_l_is_pattern_b1
  walk_at "dl"
  refine ⟨rfl, ?_⟩
  walk_at "dl"
  refine ⟨rfl, ?_⟩
  walk_at "dl"
  refine ⟨rfl, ?_⟩
  have hw2 : atI [D.lst (L_S.map D.str), D.lst (L_D.map D.str), D.lst (L_R.map D.str)] k = some (.lst (txs ws)) := hw
  iterate 10 ((try simp only [hw2, hu]); walk_at "dl")
  refine ⟨by decide, ?_⟩
  by_cases e : u = [42]
  · rw [if_neg (by rw [e]; decide)]
    exact h1 (by unfold gpB; rw [decide_eq_true e]; rfl) _ _
  · rw [if_pos (by simpa using e)]
    try simp only [dLcM]
    walk_at "dl"
    try simp only [dLcM]
    walk_at "dl"
    iterate 10 ((try simp only [hu]); walk_at "dl")
    refine ⟨by decide, by omega, fun p hp => ?_⟩
    refine lc_map (f := fun d => match d with
      | .str w => .bl (decide (w ∈ ws))
      | _ => .non) ?_ ?_ ?_
    · have := cut_len 44 u
      rw [List.length_map]; omega
    · intro d hd acc N h
      obtain ⟨w, hw2, rfl⟩ := List.mem_map.mp hd
      walk_at "dl"
      exact ⟨rfl, flat_txs, by rw [inD_txs]; exact h⟩
    · try simp only [put_same, del_put_new hp]
      walk_at "dl"
      try simp only [put_same, del_put_new hp]
      walk_at "dl"
      refine ⟨(cutAt 44 u).map fun w => decide (w ∈ ws), by rw [List.map_map, List.map_map]; rfl, ?_⟩
      have gp : ((cutAt 44 u).map fun w => decide (w ∈ ws)).all id = gpB u ws := by
        unfold gpB
        rw [List.all_map, decide_eq_false e]; rfl
      walk_at "dl"
      rw [gp]
      cases g : gpB u ws with
      | true =>
        walk_at "dl"
        exact h1 g _ _
      | false =>
        walk_at "dl"
        exact h2 g
theorem p_l_is_pattern : ∀ ds M Q E, sp_l_is_pattern ds M Q E → w_l_is_pattern (Ret Q E) (ds.map some ++ List.replicate (5 - 1) none) M := by
  rintro ds M Q E ⟨t, rfl, lt, hQ⟩
  have ln := fun p hp => cutAt_lenE (c := 32) (t := t) p hp
  unfold w_l_is_pattern
  walk_at "dl"
  refine ⟨by decide, by omega, ?_⟩
  unfold patB at hQ
  have len3 : ∀ l : List Tx, l.length = 3 → ∃ a b c, l = [a, b, c] := fun l hl => by
    match l, hl with
    | [a, b, c], _ => exact ⟨a, b, c, rfl⟩
  by_cases h3 : (cutAt 32 t).length = 3
  · obtain ⟨a, b, c, e⟩ := len3 _ h3
    rw [e] at hQ ln ⊢
    have la := Nat.le_trans (ln a (by simp)) lt
    have lb := Nat.le_trans (ln b (by simp)) lt
    have lc := Nat.le_trans (ln c (by simp)) lt
    have hQ : Q (.bl (gpB a L_S && gpB b L_D && gpB c L_R)) M := hQ
    walk_at "dl"
    rw [if_neg (by decide)]
    refine ⟨by decide, by decide, ?_⟩
    have eu : upTo 0 ((3 : Int) - 0).toNat = [D.int 0, D.int 1, D.int 2] := rfl
    have no : (gpB a L_S && gpB b L_D && gpB c L_R) = false → Q (.bl false) M := fun h => by rw [h] at hQ; exact hQ
    refine wFor_cons ?_
    walk_at "dl"
    refine ispat_b1 (u := a) (ws := L_S) rfl rfl la (fun g1 x3 x4 => ?_) (fun g => ?_)
    · walk_at "dl"
      refine wFor_cons ?_
      walk_at "dl"
      refine ispat_b1 (u := b) (ws := L_D) rfl rfl lb (fun g2 x3 x4 => ?_) (fun g => ?_)
      · walk_at "dl"
        refine wFor_cons ?_
        walk_at "dl"
        refine ispat_b1 (u := c) (ws := L_R) rfl rfl lc (fun g3 x3 x4 => ?_) (fun g => ?_)
        · walk_at "dl"
          refine wFor_nil ?_
          walk_at "dl"
          rw [g1, g2, g3] at hQ
          exact hQ
        · exact no (by rw [g, Bool.and_false])
      · exact no (by rw [g, Bool.and_false, Bool.false_and])
    · exact no (by rw [g, Bool.false_and, Bool.false_and])
  · have hQ2 : Q (.bl false) M := by
      match cutAt 32 t, h3, hQ with
      | [], _, h => exact h
      | [_], _, h => exact h
      | [_, _], _, h => exact h
      | [_, _, _], h3, h => exact absurd rfl h3
      | _ :: _ :: _ :: _ :: _, _, h => exact h
    walk_at "dl"
    rw [List.length_map, decide_eq_false (by omega), if_pos (by decide)]
    exact hQ2
theorem okT_part {a : Tx} {ws : List Tx} (hc : clean ws) (g : goodPart a ws) : okT a := by
  rcases g with rfl | g
  · exact star_ok
  · intro x hx
    rw [← cut_join_id (c := 44) a] at hx
    rcases join_mem hx with h | ⟨y, hy, h⟩
    · rw [List.mem_singleton.mp h]; decide
    · exact (hc y (g y hy) x h).1
theorem patx_of {t : Tx} (h : patB t = true) (l : t.length ≤ 100000) : PatX t := by
  have ln := fun p hp => Nat.le_trans (cutAt_lenE (c := 32) (t := t) p hp) l
  unfold patB at h
  split at h
  · rename_i a b c e
    obtain ⟨h1, h3⟩ := ba h
    obtain ⟨h1, h2⟩ := ba h1
    have g1 := gpB_ok.mp h1
    have g2 := gpB_ok.mp h2
    have g3 := gpB_ok.mp h3
    rw [e] at ln
    exact ⟨a, b, c, ⟨e, ln a (by simp), ln b (by simp), ln c (by simp), l, g1, g2, g3⟩, okT_part cleanS g1, okT_part cleanD g2, okT_part cleanR g3⟩
  · cases h
def linesOf (t : Tx) : List Tx := if t = [] then [] else cutAt 10 t
structure TxtOk (t : Tx) : Prop where
  len : t.length ≤ 8000000
  ln : ∀ l ∈ cutAt 10 t, l.length ≤ 100000
  few : (cutAt 10 t).length ≤ 150000
def AllG (t : Tx) : Prop := ∀ l ∈ linesOf t, patB l = true
def BadAt (t : Tx) (k : Nat) : Prop := ∃ l, (linesOf t)[k]? = some l ∧ patB l = false ∧ ∀ j l', j < k → (linesOf t)[j]? = some l' → patB l' = true
theorem good_or (t : Tx) : AllG t ∨ ∃ k, BadAt t k := by
  unfold AllG BadAt
  generalize linesOf t = ls
  induction ls with
  | nil => exact .inl fun l h => nomatch h
  | cons a r ih =>
    cases h : patB a with
    | false => exact .inr ⟨0, a, rfl, h, fun j _ hj => by omega⟩
    | true =>
      rcases ih with ih | ⟨k, l, h1, h2, h3⟩
      · left
        intro l hl
        rcases List.mem_cons.mp hl with rfl | hl
        · exact h
        · exact ih l hl
      · right
        refine ⟨k + 1, l, h1, h2, fun j l' hj hl => ?_⟩
        cases j with
        | zero =>
          injection hl with hl
          rw [← hl]; exact h
        | succ j => exact h3 j l' (by omega) hl
def errR (k : Nat) : XD := ⟨"InvalidRule", [("line", .int ((k : Int) + 1))]⟩
def sp_Rule_read : DSp := fun ds M Q E => ∃ t, ds = [.cl "Rule", .str t] ∧ TxtOk t ∧ (AllG t → ∀ p M', M p = none → Xt M M' → RuleAt M' p (gath (linesOf t)) → Q (.ref p) M') ∧ (∀ k, BadAt t k → ∀ M', Xt M M' → E (errR k) M')
def w_Rule_read_t1 : DTS := dAugO "Rule" sp_Rule_ior 2 (dVar 4)
def w_Rule_read_b2 : DTS := dTryF "InvalidEntry" 5 (w_Rule_read_t1) (dRaise "InvalidRule" "line" (dOp gAdd (dVar 3) (dC (.int 1))))
def w_Rule_read : DTS := dSeq (dSet 2 (dMakeV 0 "Rule" (starSp 1 sp_Rule_init) daNil)) (dSeq (dIfS (dTest (dOp gEq (dVar 1) (dC (.str [])))) (dRet (dVar 2)) (dPass)) (dSeq (dFor (diEnum (daCons (dMt "str" gSplit (dVar 1) (daCons (dC (.str [10])) (daNil))) (daNil))) (dgTup 2 (dgCons 3 (dgCons 4 (dgNil)))) (w_Rule_read_b2)) (dRet (dVar 2))))
theorem p_Rule_read : ∀ ds M Q E, sp_Rule_read ds M Q E → w_Rule_read (Ret Q E) (ds.map some ++ List.replicate (6 - 2) none) M := by
  rintro ds M Q E ⟨t, rfl, O, hQ, hE⟩
  unfold w_Rule_read
  walk_at "dl"
  refine rule_make (ps := []) (by simp) (fun t ht => nomatch ht) fun a M1 ha x1 ra => ?_
  have ra : RuleAt M1 a [] := ⟨by rw [ra]; rfl, Tab.nil⟩
  walk_at "dl"
  by_cases h0 : t = []
  · rw [if_pos h0]
    refine hQ (fun l hl => ?_) a M1 ha x1 ?_
    · unfold linesOf at hl
      rw [if_pos h0] at hl
      cases hl
    · unfold linesOf
      rw [if_pos h0]
      exact ra
  · rw [if_neg h0]
    walk_at "dl"
    have ll := O.len
    have el : linesOf t = cutAt 10 t := if_neg h0
    refine ⟨by decide, by omega, ?_⟩
    rw [← el]
    have ln : ∀ l ∈ linesOf t, l.length ≤ 100000 := by rw [el]; exact O.ln
    refine wFor_by (fun i τ M' => (∃ x3 x4 x5, τ = [some (.cl "Rule"), some (.str t), some (.ref a), x3, x4, x5]) ∧ Xt M M' ∧ RuleAt M' a (gath ((linesOf t).take i)) ∧ ∀ j l', j < i → (linesOf t)[j]? = some l' → patB l' = true) ⟨⟨_, _, _, rfl⟩, x1, ra, fun j _ hj => by omega⟩ ?_ ?_
    · rintro i d τ M' hd ⟨⟨x3, x4, x5, rfl⟩, x, r, g⟩ nxt hn
      obtain ⟨y, hy, rfl⟩ := enumF_get hd
      obtain ⟨l, hl, rfl⟩ := map_at hy
      have lnl := ln l (List.mem_of_getElem? hl)
      unfold w_Rule_read_b2
      walk_at "dl"
      rw [u_tryf]
      unfold w_Rule_read_t1
      iterate 10 ((try simp only [r.at_]); walk_at "dl")
      cases hp : patB l with
      | true =>
        have px := patx_of hp lnl
        refine Rule_ior_in ⟨a, _, _, _, rfl, r, .inr ⟨l, rfl, px.good, rfl⟩, fun M2 x2 => ?_⟩
        walk_at "dl"
        refine hn _ _ ⟨⟨_, _, _, rfl⟩, ?_, ?_, fun j l' hj hl' => ?_⟩
        · intro b o hb
          have ne : b ≠ a := fun z => by rw [z, ha] at hb; cases hb
          rw [put_ne ne]
          exact x2 b o (x b o hb)
        · refine ⟨?_, gath_tab _⟩
          rw [put_same]
          have e : (linesOf t).take (i + 1) = (linesOf t).take i ++ [l] := by rw [List.take_succ, hl]; rfl
          rw [e, gath_snoc _ px.good]
        · by_cases e : j = i
          · subst e
            rw [hl] at hl'
            cases hl'
            exact hp
          · exact g j l' (by omega) hl'
      | false =>
        refine .inr ⟨a, l, _, rfl, r, ⟨hp, lnl⟩, fun M2 x2 => ?_⟩
        unfold errI
        iterate 10 ((try simp only [u_caf, suf_mk]); walk_at "dl")
        intro a2 dd _
        rw [Nat.zero_add]
        exact hE i ⟨l, hl, hp, g⟩ M2 (x.trans x2)
    · rintro τ M' ⟨⟨x3, x4, x5, rfl⟩, x, r, g⟩
      walk_at "dl"
      rw [enumF_len, List.length_map, List.take_length] at r
      rw [enumF_len, List.length_map] at g
      refine hQ (fun l hl => ?_) a M' ha x r
      obtain ⟨j, hj⟩ := List.mem_iff_getElem?.mp hl
      exact g j l (List.getElem?_eq_some_iff.mp hj).1 hj
def readD (p : Addr) : D := .tup [.str (T "read"), .ref p]
def ruleD (k : Nat) : D := .tup [.str (T "InvalidRule"), .int ((k : Int) + 1)]
def sp_l_told : DSp := fun ds M Q _ => ∃ t, ds = [.str t] ∧ TxtOk t ∧ (AllG t → ∀ p M', M p = none → Xt M M' → RuleAt M' p (gath (linesOf t)) → Q (readD p) M') ∧ (∀ k, BadAt t k → ∀ M', Xt M M' → Q (ruleD k) M')
def w_l_told_t1 : DTS := dRet (dTup (daCons (dC (.str (T "read"))) (daCons (dCM "Rule" sp_Rule_read (daCons (dVar 0) (daNil))) (daNil))))
def w_l_told_x2 (a dd : Addr) (C : Str) : DTS := dSeq (dIfS (dTru (dCB (gIsE a dd C ["InvalidPlace", "NotBeneath", "InvalidEntry", "InvalidRule", "InvalidPromise", "InvalidProgram", "InvalidName", "OverPower", "Stale", "NotSharing", "NotMendable", "Unsound", "TooMany", "LentError"]) (daCons (dVar 1) (daCons (dTup (daCons (dC (.cl "InvalidPlace")) (daCons (dC (.cl "NotBeneath")) (daCons (dC (.cl "InvalidEntry")) (daCons (dC (.cl "InvalidPromise")) (daCons (dC (.cl "InvalidProgram")) (daCons (dC (.cl "InvalidName")) (daNil)))))))) (daNil))))) (dRet (dTup (daCons (dC (.str (T "other"))) (daCons (dC (.int 0)) (daNil))))) (dPass)) (dSeq (dIfS (dTru (dCB (gIsE a dd C ["InvalidPlace", "NotBeneath", "InvalidEntry", "InvalidRule", "InvalidPromise", "InvalidProgram", "InvalidName", "OverPower", "Stale", "NotSharing", "NotMendable", "Unsound", "TooMany", "LentError"]) (daCons (dVar 1) (daCons (dTup (daCons (dC (.cl "OverPower")) (daCons (dC (.cl "Stale")) (daCons (dC (.cl "NotSharing")) (daCons (dC (.cl "NotMendable")) (daCons (dC (.cl "Unsound")) (daCons (dC (.cl "TooMany")) (daNil)))))))) (daNil))))) (dRet (dTup (daCons (dC (.str (T "other"))) (daCons (dC (.int 0)) (daNil))))) (dPass)) (dIfS (dAnd (dTru (dCB (gIsE a dd C ["InvalidPlace", "NotBeneath", "InvalidEntry", "InvalidRule", "InvalidPromise", "InvalidProgram", "InvalidName", "OverPower", "Stale", "NotSharing", "NotMendable", "Unsound", "TooMany", "LentError"]) (daCons (dVar 1) (daCons (dC (.cl "InvalidRule")) (daNil))))) (dTru (dCB (gIsE a dd C ["InvalidPlace", "NotBeneath", "InvalidEntry", "InvalidRule", "InvalidPromise", "InvalidProgram", "InvalidName", "OverPower", "Stale", "NotSharing", "NotMendable", "Unsound", "TooMany", "LentError"]) (daCons (dVar 1) (daCons (dC (.ty "ValueError")) (daNil)))))) (dRet (dTup (daCons (dC (.str (T "InvalidRule"))) (daCons (dXF a dd C "line" (dVar 1)) (daNil))))) (dPass)))
def w_l_told_c3 : DTS := dRet (dTup (daCons (dC (.str (T "other"))) (daCons (dC (.int 0)) (daNil))))
def w_l_told : DTS := dSeq (dTryAs ["InvalidEntry", "InvalidRule"] 1 (w_l_told_t1) w_l_told_x2) (w_l_told_c3)
theorem p_l_told : ∀ ds M Q E, sp_l_told ds M Q E → w_l_told (Ret Q E) (ds.map some ++ List.replicate (2 - 1) none) M := by
  rintro ds M Q E ⟨t, rfl, O, hQ, hE⟩
  unfold w_l_told
  walk_at "dl"
  unfold w_l_told_t1
  walk_at "dl"
  refine ⟨t, rfl, O, fun g p M' hp x r => ?_, fun k b M' x => ?_⟩
  · walk_at "dl"
    exact ⟨by decide, hQ g p M' hp x r⟩
  · unfold errR
    walk_at "dl"
    refine ⟨by decide, fun a dd ha => ?_⟩
    unfold w_l_told_x2
    walk_at "dl"
    refine ⟨by decide, by decide +kernel, ?_⟩
    rw [if_neg (by decide +kernel)]
    refine ⟨by decide, by decide +kernel, ?_⟩
    rw [if_neg (by decide +kernel)]
    refine ⟨by decide +kernel, ?_⟩
    rw [if_pos (by decide +kernel)]
    exact ⟨by decide, hE k b M' x⟩
def sp_l_judged : DSp := fun ds M Q _ => ∃ t, ds = [.str t] ∧ TxtOk t ∧ ∀ M', Xt M M' → Q (.bl true) M'
def w_l_judged_b1 : DTS := dAsg (dC (.bl true)) (dgSub (dVar 2) (dVar 5) gSetA)
def w_l_judged_b2 : DTS := dSeq (dIfS (dNot (dTru (dCall sp_l_is_pattern (daCons (dOp gIx (dVar 3) (dVar 4)) (daNil))))) (dRet (dCall (sp_l_same 8) (daCons (dVar 1) (daCons (dTup (daCons (dC (.str (T "InvalidRule"))) (daCons (dOp gAdd (dVar 4) (dC (.int 1))) (daNil)))) (daNil))))) (dPass)) (dFor (diAny (dCall sp_l_matched (daCons (dOp gIx (dVar 3) (dVar 4)) (daNil)))) (dgName 5) (w_l_judged_b1))
def w_l_judged_c3 : DTS := dRet (dCall (sp_l_same 8) (daCons (dCB (gListO "Rule" "_rows") (daCons (dOp gIx (dVar 1) (dC (.int 1))) (daNil))) (daCons (dFrz (dLcM (diAny (dCall sp_l_entries (daNil))) (dgName 5) (dTest (dOp gIn (dVar 5) (dVar 2))) [5] [] (dVar 5))) (daNil))))
def w_l_judged_c4 : DTS := dSeq (dIfS (dOr (dTest (dOp gNe (dOp gIx (dVar 1) (dC (.int 0))) (dC (.str (T "read"))))) (dNot (dTru (dCB (gIsC "Rule") (daCons (dOp gIx (dVar 1) (dC (.int 1))) (daCons (dC (.cl "Rule")) (daNil))))))) (dRet (dC (.bl false))) (dPass)) (w_l_judged_c3)
def w_l_judged : DTS := dSeq (dSet 1 (dCall sp_l_told (daCons (dVar 0) (daNil)))) (dSeq (dSet 2 (dDict0)) (dSeq (dIfS (dTest (dOp gNe (dVar 0) (dC (.str [])))) (dSeq (dSet 3 (dMt "str" gSplit (dVar 0) (daCons (dC (.str [10])) (daNil)))) (dFor (diRng1 (daCons (dCB gLen (daCons (dVar 3) (daNil))) (daNil))) (dgName 4) (w_l_judged_b2))) (dPass)) (w_l_judged_c4)))
section
variable {t : Tx} {x1 : D} {q : Addr} {x5 : Option D} {M : Mu} {Q : DK} {E : DX} {D0 : DEnds}
theorem judged_b2 {i : Nat} {l : Tx} {ls : List Tx} {kvs : List (DKey × D)} (hl : ls[i]? = some l) (lnl : l.length ≤ 100000) (hk : kvs.length ≤ 15760000) (hq : M q = some (.dK kvs))
    (hg : patB l = true → ∀ x5' kvs' M', (∀ e, hasK kvs' e = (hasK kvs e || decide (e ∈ matchT l))) → kvs'.length ≤ kvs.length + 105 → (∀ b, b ≠ q → M' b = M b) → M' q = some (.dK kvs') → D0.nx [some (.str t), some x1, some (.ref q), some (.lst (txs ls)), some (.int (i : Nat)), x5'] M')
    (hb : patB l = false → sp_l_same 8 [x1, ruleD i] M D0.rt (D0.ex [some (.str t), some x1, some (.ref q), some (.lst (txs ls)), some (.int (i : Nat)), x5])) :
    w_l_judged_b2 D0 [some (.str t), some x1, some (.ref q), some (.lst (txs ls)), some (.int (i : Nat)), x5] M := by
  have hi := (List.getElem?_eq_some_iff.mp hl).1
  have ea : atI (txs ls) (i : Int) = some (.str l) := by
    have h2 : i < (txs ls).length := by rw [txs, List.length_map]; exact hi
    rw [atI_nat h2]
    have := (List.getElem?_eq_some_iff.mp hl).2
    simp [txs, this]
  unfold w_l_judged_b2
  iterate 10 ((try simp only [ea]); walk_at "dl")
  refine ⟨l, rfl, lnl, ?_⟩
  cases h : patB l with
  | false =>
    walk_at "dl"
    exact ⟨by decide, hb h⟩
  | true =>
    have px := patx_of h lnl
    iterate 10 ((try simp only [ea]); walk_at "dl")
    refine matched_ px ?_
    have lm := matchT_len px.good
    walk_at "dl"
    refine wFor_by (fun j τ M' => ∃ x' kvs', τ = [some (.str t), some x1, some (.ref q), some (.lst (txs ls)), some (.int (i : Nat)), x'] ∧ (∀ e, hasK kvs' e = (hasK kvs e || decide (e ∈ (matchT l).take j))) ∧ kvs'.length ≤ kvs.length + j ∧ (∀ b, b ≠ q → M' b = M b) ∧ M' q = some (.dK kvs')) ⟨_, kvs, rfl, by simp, Nat.le_refl _, fun _ _ => rfl, hq⟩ ?_ ?_
    · rintro j e τ M' he ⟨x', kvs', rfl, h1, h2, h3, h4⟩ nxt hnx
      obtain ⟨u, hu, rfl⟩ := map_at he
      have hj := (List.getElem?_eq_some_iff.mp hu).1
      walk_at "dl"
      unfold w_l_judged_b1
      iterate 10 ((try simp only [h4]); walk_at "dl")
      refine ⟨by omega, hnx _ _ ⟨_, addK kvs' u, rfl, fun e => ?_, ?_, fun b hb => by rw [put_ne hb]; exact h3 b hb, put_same⟩⟩
      · rw [hasK_add, h1, List.take_succ, hu]
        rw [Bool.eq_iff_iff]
        simp only [Bool.or_eq_true, decide_eq_true_eq, List.mem_append, Option.toList_some, List.mem_singleton]
        constructor
        · rintro (z | z | z)
          · exact .inr (.inr z)
          · exact .inl z
          · exact .inr (.inl z)
        · rintro (z | z | z)
          · exact .inr (.inl z)
          · exact .inr (.inr z)
          · exact .inl z
      · have := addK_len kvs' u; omega
    · rintro τ M' ⟨x', kvs', rfl, h1, h2, h3, h4⟩
      rw [txs, List.length_map] at h2
      rw [txs, List.length_map, List.take_length] at h1
      exact hg h x' kvs' M' h1 (by omega) h3 h4
end
theorem p_l_judged : ∀ ds M Q E, sp_l_judged ds M Q E → w_l_judged (Ret Q E) (ds.map some ++ List.replicate (6 - 1) none) M := by
  rintro ds M Q E ⟨t, rfl, O, hQ⟩
  have ll := O.len
  have lln := O.few
  have ln : ∀ l ∈ linesOf t, l.length ≤ 100000 := fun l hl => by
    unfold linesOf at hl
    split at hl
    · cases hl
    · exact O.ln l hl
  have main : ∀ (x1 : D) (M1 : Mu), Xt M M1 → (∀ k, BadAt t k → x1 = ruleD k) → (AllG t → ∃ p, x1 = readD p ∧ RuleAt M1 p (gath (linesOf t))) →
      dSet 2 dDict0 { (Ret Q E) with nx := dIfS (dTest (dOp gNe (dVar 0) (dC (.str [])))) (dSeq (dSet 3 (dMt "str" gSplit (dVar 0) (daCons (dC (.str [10])) (daNil)))) (dFor (diRng1 (daCons (dCB gLen (daCons (dVar 3) (daNil))) (daNil))) (dgName 4) (w_l_judged_b2))) (dPass) { (Ret Q E) with nx := w_l_judged_c4 (Ret Q E) } } [some (.str t), some x1, none, none, none, none] M1 := fun x1 M1 x hb hg => by
    walk_at "dl"
    intro q hq
    have fin : ∀ (x3 x4 x5 : Option D) (kvs : List (DKey × D)) (M' : Mu), AllG t → Xt M1 M' → (∀ e, hasK kvs e = (linesOf t).any fun l => decide (e ∈ matchT l)) → M' q = some (.dK kvs) → w_l_judged_c4 (Ret Q E) [some (.str t), some x1, some (.ref q), x3, x4, x5] M' := fun x3 x4 x5 kvs M' g x2 hk hq2 => by
      obtain ⟨p, rfl, R⟩ := hg g
      have R := R.xt x2
      have A := R.at_
      unfold w_l_judged_c4 readD
      iterate 10 ((try simp only [A]); walk_at "dl")
      rw [if_neg (by simp)]
      unfold w_l_judged_c3
      iterate 10 ((try simp only [A]); walk_at "dl")
      try simp only [dLcM]
      walk_at "dl"
      try simp only [dLcM]
      walk_at "dl"
      refine ⟨rfl, ?_⟩
      walk_at "dl"
      intro r hr
      have hqr : q ≠ r := fun z => by rw [z, hr] at hq2; cases hq2
      have eg : gath (linesOf t) = ents.filter (hasK kvs) := by
        unfold gath
        exact List.filter_congr fun e _ => (hk e).symm
      refine lc_txs (g := hasK kvs) (by rw [ents_105]; decide) (fun e he acc N h => ?_) (fun e he hg acc N h => ?_) ?_
      · walk_at "dl"
        try simp only [put_ne hqr, hq2]
        walk_at "dl"
        try simp only [put_ne hqr, hq2]
        walk_at "dl"
        exact h
      · walk_at "dl"
        exact h
      · iterate 10 ((try simp only [put_same, del_put_new hr]); walk_at "dl")
        rw [eg]
        have le : (ents.filter (hasK kvs)).length ≤ 105 := by rw [← ents_105]; exact List.length_filter_le _ _
        exact same_txs (by omega) (hQ M' (x.trans x2))
    have xq : Xt M1 (put M1 q (.dK [])) := Xt.new hq
    by_cases h0 : t = []
    · have el : linesOf t = [] := if_pos h0
      have g : AllG t := fun l hl => by rw [el] at hl; cases hl
      have := fin none none none [] _ g xq (fun e => by rw [el]; rfl) put_same
      rw [h0] at this
      iterate 10 ((try simp only [h0]); walk_at "dl")
      rw [if_neg (by simp)]
      exact this
    · have el : linesOf t = cutAt 10 t := if_neg h0
      iterate 10 ((try simp only [h0]); walk_at "dl")
      rw [if_pos (by simp)]
      walk_at "dl"
      refine ⟨by decide, by omega, ?_⟩
      rw [← el] at lln ⊢
      iterate 10 ((try simp only [List.length_map]); walk_at "dl")
      refine ⟨by omega, by omega, ?_⟩
      refine wFor_by (fun i τ M' => ∃ x4 x5 kvs, τ = [some (.str t), some x1, some (.ref q), some (.lst (txs (linesOf t))), x4, x5] ∧ (∀ e, hasK kvs e = ((linesOf t).take i).any fun l => decide (e ∈ matchT l)) ∧ kvs.length ≤ 105 * i ∧ (∀ b, b ≠ q → M' b = M1 b) ∧ M' q = some (.dK kvs) ∧ ∀ j l', j < i → (linesOf t)[j]? = some l' → patB l' = true) ⟨_, _, [], rfl, fun e => rfl, Nat.le_refl _, fun b hb => put_ne hb, put_same, fun j _ hj => by omega⟩ ?_ ?_
      · rintro i d τ M' hd ⟨x4, x5, kvs, rfl, h1, h2, h3, h4, h5⟩ nxt hnx
        obtain ⟨rfl, hi⟩ := upTo_at hd
        have hi : i < (linesOf t).length := by omega
        have hl := List.getElem?_eq_getElem hi
        rw [Int.zero_add]
        walk_at "dl"
        refine judged_b2 hl (ln _ (List.getElem_mem hi)) ?_ h4 (fun hp x5' kvs' M2 g1 g2 g3 g4 => hnx _ _ ⟨_, _, kvs', rfl, fun e => ?_, by omega, fun b hb => (g3 b hb).trans (h3 b hb), g4, fun j l' hj hl' => ?_⟩) fun hp => ?_
        · omega
        · rw [g1, h1, List.take_succ, hl, List.any_append]
          simp
        · by_cases e : j = i
          · subst e
            rw [hl] at hl'
            cases hl'
            exact hp
          · exact h5 j l' (by omega) hl'
        · rw [hb i ⟨_, hl, hp, h5⟩]
          refine same_d (by unfold ruleD pln plnIn plns plns plns pln; rfl) ?_
          have x3 : Xt M1 M' := fun b o e => by
            have ne : b ≠ q := fun z => by rw [z, hq] at e; cases e
            rw [h3 b ne]; exact e
          exact hQ M' (x.trans x3)
      · rintro τ M' ⟨x4, x5, kvs, rfl, h1, h2, h3, h4, h5⟩
        rw [upTo_len] at h1 h5
        have x3 : Xt M1 M' := fun b o e => by
          have ne : b ≠ q := fun z => by rw [z, hq] at e; cases e
          rw [h3 b ne]; exact e
        refine fin _ _ _ kvs M' (fun l hl => ?_) x3 (fun e => ?_) h4
        · obtain ⟨j, hj⟩ := List.mem_iff_getElem?.mp hl
          exact h5 j l (List.getElem?_eq_some_iff.mp hj).1 hj
        · rw [h1, List.take_length]
  unfold w_l_judged
  walk_at "dl"
  rcases good_or t with g | ⟨k, b⟩
  · refine ⟨t, rfl, O, fun _ p M1 hp x r => ?_, fun k ⟨l, h1, h2, _⟩ => ?_⟩
    · exact main (readD p) M1 x (fun k ⟨l, h1, h2, _⟩ => absurd (g l (List.mem_of_getElem? h1)) (by rw [h2]; decide)) fun _ => ⟨p, rfl, r⟩
    · exact absurd (g l (List.mem_of_getElem? h1)) (by rw [h2]; decide)
  · refine ⟨t, rfl, O, fun g => ?_, fun k b M1 x => ?_⟩
    · obtain ⟨l, h1, h2, _⟩ := b
      exact absurd (g l (List.mem_of_getElem? h1)) (by rw [h2]; decide)
    · refine main (ruleD k) M1 x (fun j c => ?_) fun g => ?_
      · have : j = k := by
          obtain ⟨l1, a1, a2, a3⟩ := b
          obtain ⟨l2, b1, b2, b3⟩ := c
          rcases Nat.lt_trichotomy j k with h | h | h
          · have := a3 j l2 h b1
            rw [b2] at this; cases this
          · exact h
          · have := b3 k l1 h a1
            rw [a2] at this; cases this
        rw [this]
      · obtain ⟨l, h1, h2, _⟩ := b
        exact absurd (g l (List.mem_of_getElem? h1)) (by rw [h2]; decide)
def sumL (ws : List Tx) : Nat := (ws.map (·.length)).sum
theorem join_sum : ∀ ws : List Tx, (joinT [10] ws).length ≤ sumL ws + ws.length
  | [] => Nat.zero_le _
  | [y] => by show y.length ≤ _; simp [sumL]
  | y :: z :: r => by
    have ih := join_sum (z :: r)
    show (y ++ ([10] ++ joinT [10] (z :: r))).length ≤ _
    simp only [sumL, List.length_append, List.length_cons, List.length_nil, List.map_cons, List.sum_cons] at ih ⊢
    omega
theorem sum_set {u : Tx} : ∀ {ws : List Tx} {i : Nat}, sumL (ws.set i u) ≤ sumL ws + u.length
  | [], _ => Nat.zero_le _
  | y :: r, 0 => by simp only [sumL, List.set_cons_zero, List.map_cons, List.sum_cons]; omega
  | y :: r, i + 1 => by
    have ih := sum_set (u := u) (ws := r) (i := i)
    simp only [sumL, List.set_cons_succ, List.map_cons, List.sum_cons] at ih ⊢
    omega
theorem rep_len {ts : List Tx} (ht : ∀ t ∈ ts, t.length ≤ 902) : ∀ k : Nat, (List.replicate k ts).flatten.length = k * ts.length ∧ sumL (List.replicate k ts).flatten ≤ k * (902 * ts.length)
  | 0 => by simp [sumL]
  | k + 1 => by
    obtain ⟨h1, h2⟩ := rep_len ht k
    have h3 : ∀ l : List Tx, (∀ t ∈ l, t.length ≤ 902) → sumL l ≤ 902 * l.length := fun l => by
      induction l with
      | nil => intro _; simp [sumL]
      | cons a r ih =>
        intro h
        have := ih fun t ht => h t (List.mem_cons_of_mem _ ht)
        have := h a List.mem_cons_self
        simp only [sumL, List.map_cons, List.sum_cons, List.length_cons] at *
        omega
    have h4 := h3 ts ht
    rw [List.replicate_succ, List.flatten_cons]
    refine ⟨by rw [List.length_append, h1, Nat.succ_mul]; omega, ?_⟩
    unfold sumL at h2 h4 ⊢
    rw [List.map_append, List.sum_append, Nat.succ_mul]
    omega
theorem txt_ok {t : Tx} (h : t.length ≤ 100000) : TxtOk t := ⟨by omega, fun l hl => Nat.le_trans (cutAt_lenE l hl) h, by have := cut_len 10 t; omega⟩
def sp_law : DSp := fun ds M Q _ => ∃ ns, ds = [.scr ns] ∧ ∀ M', Q (.bl true) M'
def w_law_b1 : DTS := dSeq (dSet 9 (dCall sp_l_draw (daCons (dVar 1) (daCons (dOp gMul (dVar 2) (dVar 3)) (daNil))))) (dDrop (dMt "list" gAppend (dVar 7) (daCons (dTup (daCons (dVar 9) (daCons (dCall sp_l_spoilt (daCons (dVar 1) (daCons (dCall sp_l_pattern (daCons (dVar 1) (daNil))) (daNil)))) (daNil)))) (daNil))))
def w_law_b2 : DTS := dAsg (dVar 12) (dgSub (dVar 11) (dVar 9) gSetA)
def w_law_b3 : DTS := dIfS (dNot (dTru (dCall sp_l_judged (daCons (dVar 13) (daNil))))) (dRet (dC (.bl false))) (dPass)
def w_law_f4 : DTS := dSeq (dFor (diAny (dLst (daCons (dMt "str" gJoin (dC (.str [10])) (daCons (dVar 11) (daNil))) (daCons (dMt "str" gJoin (dC (.str [10])) (daCons (dVar 10) (daNil))) (daCons (dC (.str [])) (daCons (dMt "str" gJoin (dC (.str [10])) (daCons (dVar 11) (daNil))) (daNil))))))) (dgName 13) (w_law_b3)) (dRet (dC (.bl true)))
def w_law_c5 : DTS := dSeq (dIfS (dTest (dOp gEq (dVar 5) (dC (.int 0)))) (dDrop (dMt "list" gInsert (dVar 11) (daCons (dVar 6) (daCons (dC (.str [])) (daNil))))) (dIfS (dTest (dOp gEq (dVar 5) (dC (.int 1)))) (dDrop (dMt "list" gAppend (dVar 11) (daCons (dC (.str [])) (daNil)))) (dPass))) (w_law_f4)
def w_law_f6 : DTS := dFz 7 (dSeq (dFor (diAny (dVar 7)) (dgTup 2 (dgCons 9 (dgCons 12 (dgNil)))) (w_law_b2)) (w_law_c5))
def w_law_c7 : DTS := dSeq (dSet 10 (dOp gRepL (dFrz (dLcM (diRng1 (daCons (dVar 2) (daNil))) (dgName 8) (dYes) [8] [] (dCall sp_l_pattern (daCons (dVar 1) (daNil))))) (dVar 3))) (dSeq (dSet 11 (dCB gListM (daCons (dVar 10) (daNil)))) (w_law_f6))
def w_law_f8 : DTS := dSeq (dFor (diRng1 (daCons (dVar 4) (daNil))) (dgName 8) (w_law_b1)) (w_law_c7)
def w_law : DTS := dSeq (dSet 1 (dCall sp_l_begin (daCons (dVar 0) (daNil)))) (dSeq (dSet 2 (dOp gAdd (dC (.int 1)) (dCall sp_l_draw (daCons (dVar 1) (daCons (dC (.int 12)) (daNil)))))) (dSeq (dSet 3 (dCall sp_l_pick (daCons (dVar 1) (daCons (dLst (daCons (dC (.int 1)) (daCons (dC (.int 1)) (daCons (dC (.int 1)) (daCons (dC (.int 1)) (daCons (dC (.int 1)) (daCons (dC (.int 1)) (daCons (dC (.int 1)) (daCons (dC (.int 4)) (daNil)))))))))) (daNil))))) (dSeq (dSet 4 (dCall sp_l_pick (daCons (dVar 1) (daCons (dLst (daCons (dC (.int 0)) (daCons (dC (.int 1)) (daCons (dC (.int 0)) (daCons (dC (.int 2)) (daNil)))))) (daNil))))) (dSeq (dSet 5 (dCall sp_l_draw (daCons (dVar 1) (daCons (dC (.int 6)) (daNil))))) (dSeq (dSet 6 (dCall sp_l_draw (daCons (dVar 1) (daCons (dOp gAdd (dOp gMul (dVar 2) (dVar 3)) (dC (.int 1))) (daNil))))) (dSeq (dSet 7 (dLstM (daNil))) (w_law_f8)))))))
section
variable {p : Addr} {M : Mu} {Q : DK} {E : DX} {x0 x2 x3 x4 x5 x6 x7 x8 x9 x12 x13 : Option D}
theorem law_f4 {b : Addr} {ws good : List Tx} (hb : M b = some (.lst (txs ws))) (h1 : sumL ws + ws.length ≤ 100000) (h2 : sumL good + good.length ≤ 100000) (hQ : ∀ M', Q (.bl true) M') :
    w_law_f4 (Ret Q E) [x0, some (.ref p), x2, x3, x4, x5, x6, x7, x8, x9, some (.lst (txs good)), some (.ref b), x12, x13] M := by
  have j1 := join_sum ws
  have j2 := join_sum good
  unfold w_law_f4
  iterate 10 ((try simp only [hb]); walk_at "dl")
  have e1 : (List.map (fun x => List.length x) ws).sum = sumL ws := rfl
  have e2 : (List.map (fun x => List.length x) good).sum = sumL good := rfl
  refine ⟨ws, rfl, (by show sumL ws + ws.length * 1 ≤ 16777216; omega), good, rfl, (by show sumL good + good.length * 1 ≤ 16777216; omega), ws, rfl, (by show sumL ws + ws.length * 1 ≤ 16777216; omega), by decide, ?_⟩
  refine wFor_by (fun i τ M' => ∃ x13, τ = [x0, some (.ref p), x2, x3, x4, x5, x6, x7, x8, x9, some (.lst (txs good)), some (.ref b), x12, x13]) ⟨_, rfl⟩ ?_ ?_
  · rintro i d τ M' hd ⟨x13, rfl⟩ nxt hnx
    obtain ⟨t, rfl, lt⟩ : ∃ t : Tx, d = .str t ∧ t.length ≤ 100000 := by
      have := List.mem_of_getElem? hd
      simp only [List.mem_cons, List.not_mem_nil, or_false] at this
      rcases this with rfl | rfl | rfl | rfl
      · exact ⟨_, rfl, by omega⟩
      · exact ⟨_, rfl, by omega⟩
      · exact ⟨_, rfl, by decide⟩
      · exact ⟨_, rfl, by omega⟩
    walk_at "dl"
    unfold w_law_b3
    walk_at "dl"
    refine ⟨t, rfl, txt_ok lt, fun M2 x2 => ?_⟩
    walk_at "dl"
    exact hnx _ _ ⟨_, rfl⟩
  · rintro τ M' ⟨x13, rfl⟩
    walk_at "dl"
    exact hQ M'
theorem law_c5 {b : Addr} {ws good : List Tx} {kd wh : Int} (hb : M b = some (.lst (txs ws))) (h1 : sumL ws + ws.length ≤ 99999) (h2 : sumL good + good.length ≤ 100000) (w0 : 0 ≤ wh) (w1 : wh ≤ 48) (hQ : ∀ M', Q (.bl true) M') :
    w_law_c5 (Ret Q E) [x0, some (.ref p), x2, x3, x4, some (.int kd), some (.int wh), x7, x8, x9, some (.lst (txs good)), some (.ref b), x12, x13] M := by
  unfold w_law_c5
  iterate 10 ((try simp only [hb]); walk_at "dl")
  have lw : (txs ws).length = ws.length := by rw [txs, List.length_map]
  split
  · refine ⟨by omega, w0, by omega, ?_⟩
    have e : List.take wh.toNat (txs ws) ++ [D.str []] ++ List.drop wh.toNat (txs ws) = txs (ws.take wh.toNat ++ [[]] ++ ws.drop wh.toNat) := by
      unfold txs
      rw [List.map_append, List.map_append, List.map_take, List.map_drop]
      rfl
    rw [e]
    refine law_f4 put_same ?_ h2 hQ
    have e1 : sumL (ws.take wh.toNat ++ [[]] ++ ws.drop wh.toNat) = sumL ws := by
      unfold sumL
      rw [List.map_append, List.map_append, List.sum_append, List.sum_append]
      conv => rhs; rw [← List.take_append_drop wh.toNat ws, List.map_append, List.sum_append]
      simp
    have e2 : (ws.take wh.toNat ++ [[]] ++ ws.drop wh.toNat).length = ws.length + 1 := by
      simp only [List.length_append, List.length_cons, List.length_nil, List.length_take, List.length_drop]
      omega
    omega
  · split
    · refine ⟨by omega, ?_⟩
      have e : txs ws ++ [D.str []] = txs (ws ++ [[]]) := by rw [txs_app]; rfl
      rw [e]
      refine law_f4 put_same ?_ h2 hQ
      have e1 : sumL (ws ++ [[]]) = sumL ws := by
        unfold sumL
        rw [List.map_append, List.sum_append]
        simp
      rw [e1, List.length_append, List.length_singleton]
      omega
    · exact law_f4 hb (by omega) h2 hQ
theorem law_f6 {b v : Addr} {good : List Tx} {kd wh : Int} {os : List (Int × Tx)} (nbv : b ≠ v) (hb : M b = some (.lst (txs good))) (hv : M v = some (.lst (os.map fun o => .tup [.int o.1, .str o.2]))) (h2 : sumL good + good.length ≤ 43500) (lo : os.length ≤ 2) (ho : ∀ o ∈ os, 0 ≤ o.1 ∧ o.1 < good.length ∧ o.2.length ≤ 28010) (w0 : 0 ≤ wh) (w1 : wh ≤ 48) (hQ : ∀ M', Q (.bl true) M') :
    w_law_f6 (Ret Q E) [x0, some (.ref p), x2, x3, x4, some (.int kd), some (.int wh), some (.ref v), x8, x9, some (.lst (txs good)), some (.ref b), x12, x13] M := by
  unfold w_law_f6
  iterate 10 ((try simp only [hv]); walk_at "dl")
  refine wFor_by (fun i τ M' => ∃ x9 x12 ws, τ = [x0, some (.ref p), x2, x3, x4, some (.int kd), some (.int wh), some (.lst (os.map fun o => .tup [.int o.1, .str o.2])), x8, x9, some (.lst (txs good)), some (.ref b), x12, x13] ∧ M' b = some (.lst (txs ws)) ∧ ws.length = good.length ∧ sumL ws ≤ sumL good + 28010 * i) ⟨_, _, good, rfl, by rw [del_ne nbv]; exact hb, rfl, Nat.le_refl _⟩ ?_ ?_
  · rintro i d τ M' hd ⟨x9, x12, ws, rfl, h3, h4, h5⟩ nxt hnx
    obtain ⟨o, ho1, rfl⟩ := map_at hd
    obtain ⟨o1, o2, o3⟩ := ho o (List.mem_of_getElem? ho1)
    walk_at "dl"
    unfold w_law_b2
    iterate 10 ((try simp only [h3]); walk_at "dl")
    have ei : ixN (txs ws).length o.1 = some o.1.toNat := by
      rw [txs, List.length_map, h4]
      unfold ixN
      rw [if_pos o1, if_pos (by omega)]
    rw [ei]
    refine hnx _ _ ⟨_, _, ws.set o.1.toNat o.2, rfl, ?_, by rw [List.length_set]; exact h4, ?_⟩
    · rw [put_same, txs, txs, List.map_set]
    · have := sum_set (u := o.2) (ws := ws) (i := o.1.toNat)
      omega
  · rintro τ M' ⟨x9, x12, ws, rfl, h3, h4, h5⟩
    rw [List.length_map] at h5
    exact law_c5 h3 (by omega) (by omega) w0 w1 hQ
end
section
variable {p : Addr} {M : Mu} {Q : DK} {E : DX} {x0 x2 x3 x4 x5 x6 x7 x8 x9 x10 x11 x12 x13 : Option D}
theorem law_c7 {v : Addr} {n m kd wh fa : Int} {os : List (Int × Tx)} (hs : Src M p) (nvp : v ≠ p) (hv : M v = some (.lst (os.map fun o => .tup [.int o.1, .str o.2]))) (n0 : 0 ≤ n) (n1 : n < 12) (m0 : 1 ≤ m) (m1 : m ≤ 4) (lo : os.length ≤ 2) (ho : ∀ o ∈ os, 0 ≤ o.1 ∧ o.1 < (1 + n) * m ∧ o.2.length ≤ 28010) (w0 : 0 ≤ wh) (w1 : wh ≤ 48) (hQ : ∀ M', Q (.bl true) M') :
    w_law_c7 (Ret Q E) [x0, some (.ref p), some (.int (1 + n)), some (.int m), some (.int fa), some (.int kd), some (.int wh), some (.ref v), x8, x9, x10, x11, x12, x13] M := by
  unfold w_law_c7
  try simp only [dLcM]
  walk_at "dl"
  try simp only [dLcM]
  walk_at "dl"
  refine ⟨by omega, by omega, fun r hr => ?_⟩
  have nrp : r ≠ p := fun z => by
    obtain ⟨ns, t, r2, d, e, _⟩ := hs
    rw [← z, hr] at e
    cases e
  have nrv : v ≠ r := fun z => by rw [z, hr] at hv; cases hv
  refine lc_by (fun i acc M' => ∃ ts : List Tx, acc = txs ts ∧ ts.length = i ∧ (∀ t ∈ ts, t.length ≤ 902) ∧ Src M' p ∧ M' v = M v) ⟨[], rfl, rfl, (fun _ h => nomatch h), src_puts hs nrp, put_ne nrv⟩ put_same ?_ ?_
  · rintro i d acc M' hd ha ⟨ts, rfl, hl, ht, hs', hv'⟩ N hy hn
    obtain ⟨rfl, hi⟩ := upTo_at hd
    walk_at "dl"
    refine pattern_b hs' fun t a b c M2 _ _ _ _ lt _ s2 => ?_
    have h2 : M2 r = some (.lst (txs ts)) := by rw [s2.2 r nrp]; exact ha
    exact ⟨_, h2, by rw [txs, List.length_map, hl, line24]; omega, hy _ M2 h2 ⟨ts ++ [t], by rw [txs_app]; rfl, by rw [List.length_append, hl]; rfl, fun y hy2 => (List.mem_append.mp hy2).elim (ht y) fun z => by rw [List.mem_singleton.mp z]; exact lt, src_puts s2.1 nrp, by rw [put_ne nrv, s2.2 v nvp]; exact hv'⟩⟩
  · rintro acc M' ha ⟨ts, rfl, hl, ht, hs', hv'⟩
    rw [upTo_len] at hl
    obtain ⟨r1, r2⟩ := rep_len ht m.toNat
    have e : (List.replicate m.toNat (txs ts)).flatten = txs (List.replicate m.toNat ts).flatten := by unfold txs; rw [List.map_flatten, List.map_replicate]
    iterate 10 ((try simp only [ha, repL_l]); walk_at "dl")
    rw [e]
    have lN : ((List.replicate m.toNat ts).flatten.length : Int) = (1 + n) * m ∧ sumL (List.replicate m.toNat ts).flatten + (List.replicate m.toNat ts).flatten.length ≤ 43344 ∧ (txs ts).length * m.toNat ≤ 48 := by
      rw [r1, txs, List.length_map]
      rcases (by omega : m = 1 ∨ m = 2 ∨ m = 3 ∨ m = 4) with rfl | rfl | rfl | rfl
      · have e : (1 : Int).toNat = 1 := rfl
        rw [e] at r2 ⊢
        omega
      · have e : (2 : Int).toNat = 2 := rfl
        rw [e] at r2 ⊢
        omega
      · have e : (3 : Int).toNat = 3 := rfl
        rw [e] at r2 ⊢
        omega
      · have e : (4 : Int).toNat = 4 := rfl
        rw [e] at r2 ⊢
        omega
    obtain ⟨l1, l2, l3⟩ := lN
    refine ⟨by omega, by omega, by omega, fun b hb => ?_⟩
    have hv2 : del M' r v = some (.lst (os.map fun o => .tup [.int o.1, .str o.2])) := by rw [del_ne nrv, hv']; exact hv
    have nbv : b ≠ v := fun z => by rw [z, hv2] at hb; cases hb
    exact law_f6 nbv put_same (by rw [put_ne (Ne.symm nbv)]; exact hv2) (by omega) lo (fun o ho2 => by rw [l1]; exact ho o ho2) w0 w1 hQ
theorem law_f8 {v : Addr} {n m kd wh fa : Int} (hs : Src M p) (nvp : v ≠ p) (hv : M v = some (.lst [])) (n0 : 0 ≤ n) (n1 : n < 12) (m0 : 1 ≤ m) (m1 : m ≤ 4) (N0 : 1 ≤ (1 + n) * m) (N1 : (1 + n) * m ≤ 48) (f0 : 0 ≤ fa) (f1 : fa ≤ 2) (w0 : 0 ≤ wh) (w1 : wh ≤ 48) (hQ : ∀ M', Q (.bl true) M') :
    w_law_f8 (Ret Q E) [x0, some (.ref p), some (.int (1 + n)), some (.int m), some (.int fa), some (.int kd), some (.int wh), some (.ref v), x8, x9, x10, x11, x12, x13] M := by
  unfold w_law_f8
  walk_at "dl"
  refine ⟨by omega, by omega, ?_⟩
  refine wFor_by (fun i τ M' => ∃ x8 x9 os, τ = [x0, some (.ref p), some (.int (1 + n)), some (.int m), some (.int fa), some (.int kd), some (.int wh), some (.ref v), x8, x9, x10, x11, x12, x13] ∧ Src M' p ∧ M' v = some (.lst (os.map fun o : Int × Tx => .tup [.int o.1, .str o.2])) ∧ os.length = i ∧ ∀ o ∈ os, 0 ≤ o.1 ∧ o.1 < (1 + n) * m ∧ o.2.length ≤ 28010) ⟨_, _, [], rfl, hs, hv, rfl, fun _ h => nomatch h⟩ ?_ ?_
  · rintro i d τ M' hd ⟨x8, x9, os, rfl, hs', hv', hl, ho⟩ nxt hnx
    obtain ⟨rfl, hi⟩ := upTo_at hd
    walk_at "dl"
    unfold w_law_b1
    walk_at "dl"
    refine ⟨.inr ⟨by omega, by omega⟩, draw_ hs' (by omega) (by omega) fun at_ M2 a0 a1 s2 => ?_⟩
    have hv2 : M2 v = _ := (s2.2 v nvp).trans hv'
    iterate 10 ((try simp only [hv2]); walk_at "dl")
    refine pattern_b s2.1 fun t a b c M3 hc la lb lc lt l0 s3 => ?_
    walk_at "dl"
    refine ⟨p, t, a, b, c, rfl, s3.1, hc, l0, by omega, la, lb, lc, fun u M4 lu hs4 keep => ?_⟩
    have hv4 := keep v _ nvp ((s3.2 v nvp).trans hv2)
    iterate 10 ((try simp only [hv4]); walk_at "dl")
    rw [List.length_map]
    refine ⟨by decide, by omega, hnx _ _ ⟨_, _, os ++ [(at_, u)], rfl, src_puts hs4 nvp, ?_, by rw [List.length_append, hl]; rfl, fun o ho2 => ?_⟩⟩
    · rw [put_same, List.map_append]
      rfl
    · rcases List.mem_append.mp ho2 with h | h
      · exact ho o h
      · rw [List.mem_singleton.mp h]; exact ⟨a0, a1, lu⟩
  · rintro τ M' ⟨x8, x9, os, rfl, hs', hv', hl, ho⟩
    rw [upTo_len] at hl
    exact law_c7 hs' nvp hv' n0 n1 m0 m1 (by omega) ho w0 w1 hQ
end
theorem p_law : ∀ ds M Q E, sp_law ds M Q E → w_law (Ret Q E) (ds.map some ++ List.replicate (14 - 1) none) M := by
  rintro ds M Q E ⟨ns, rfl, hQ⟩
  unfold w_law
  walk_at "dl"
  refine ⟨ns, rfl, fun p M1 hp s1 => ?_⟩
  walk_at "dl"
  refine draw_ s1.1 (by decide) (by decide) fun n M2 n0 n1 s2 => ?_
  walk_at "dl"
  refine ⟨by decide, pick_ s2.1 (row := .lst [.int 1, .int 1, .int 1, .int 1, .int 1, .int 1, .int 1, .int 4]) rfl (by decide) (by decide) fun d M3 hd s3 => ?_⟩
  obtain ⟨m, rfl, m0, m1⟩ : ∃ m : Int, d = .int m ∧ 1 ≤ m ∧ m ≤ 4 := by
    simp only [List.mem_cons, List.not_mem_nil, or_false] at hd
    rcases hd with rfl | rfl | rfl | rfl | rfl | rfl | rfl | rfl <;> exact ⟨_, rfl, by decide, by decide⟩
  clear hd
  walk_at "dl"
  refine ⟨by decide, pick_ s3.1 (row := .lst [.int 0, .int 1, .int 0, .int 2]) rfl (by decide) (by decide) fun d M4 hd s4 => ?_⟩
  obtain ⟨fa, rfl, f0, f1⟩ : ∃ m : Int, d = .int m ∧ 0 ≤ m ∧ m ≤ 2 := by
    simp only [List.mem_cons, List.not_mem_nil, or_false] at hd
    rcases hd with rfl | rfl | rfl | rfl <;> exact ⟨_, rfl, by decide, by decide⟩
  clear hd
  walk_at "dl"
  refine draw_ s4.1 (by decide) (by decide) fun kd M5 k0 k1 s5 => ?_
  walk_at "dl"
  obtain ⟨N, hN, N0, N1⟩ : ∃ N : Int, (1 + n) * m = N ∧ 1 ≤ N ∧ N ≤ 48 := by
    rcases (by omega : m = 1 ∨ m = 2 ∨ m = 3 ∨ m = 4) with rfl | rfl | rfl | rfl <;> exact ⟨_, rfl, by omega, by omega⟩
  have cm : CMul (1 + n) m := .inr ⟨by omega, by omega⟩
  refine ⟨cm, ?_⟩
  rw [hN]
  refine draw_ s5.1 (by omega) (by omega) fun wh M6 w0 w1 s6 => ?_
  walk_at "dl"
  refine ⟨by decide, fun v hv => ?_⟩
  have nvp : v ≠ p := fun z => by
    obtain ⟨ns, t, r2, d, e, _⟩ := s6.1
    rw [← z, hv] at e
    cases e
  exact law_f8 (src_puts s6.1 nvp) nvp put_same n0 n1 m0 m1 (by omega) (by omega) f0 f1 w0 (by omega) hQ
end DL
namespace Lw
open PySem L2 DL
local macro_rules | `(tactic| walk_at "sl") => `(tactic| (intro ds M Q E h; first | (obtain ⟨g, _⟩ := h; subst g; rfl) | (obtain ⟨_, g, _⟩ := h; subst g; rfl) | (obtain ⟨_, _, g, _⟩ := h; subst g; rfl) | (obtain ⟨_, _, _, g, _⟩ := h; subst g; rfl) | (obtain ⟨_, _, _, _, g, _⟩ := h; subst g; rfl) | (obtain ⟨_, _, _, _, _, g, _⟩ := h; subst g; rfl) | (obtain ⟨_, _, _, _, _, _, g, _⟩ := h; subst g; rfl) | (obtain ⟨_, _, _, _, _, _, _, g, _⟩ := h; subst g; rfl) | (obtain ⟨_, _, _, _, _, _, _, _, g, _⟩ := h; subst g; rfl) | (obtain ⟨_, _, _, _, _, _, _, _, _, g, _⟩ := h; subst g; rfl) | (obtain ⟨_, _, _, _, _, _, _, _, _, _, g, _⟩ := h; subst g; rfl) | (obtain ⟨_, _, _, _, _, _, _, _, _, _, _, g, _⟩ := h; subst g; rfl) | (obtain ⟨_, _, _, _, _, _, _, _, _, _, _, _, g, _⟩ := h; subst g; rfl) | (obtain ⟨_, _, _, _, _, _, _, _, _, _, _, _, _, g, _⟩ := h; subst g; rfl) | (obtain ⟨_, _, _, _, _, _, _, _, _, _, _, _, _, _, g, _⟩ := h; subst g; rfl) | (obtain ⟨_, _, _, _, _, _, _, _, _, _, _, _, _, _, _, g, _⟩ := h; subst g; rfl) | (obtain ⟨_, _, _, _, _, _, _, _, _, _, _, _, _, _, _, _, g, _⟩ := h; subst g; rfl) | (obtain ⟨_, _, _, _, _, _, _, _, _, _, _, _, _, _, _, _, _, g, _⟩ := h; subst g; rfl) | (obtain ⟨_, _, _, _, _, _, _, _, _, _, _, _, _, _, _, _, _, _, g, _⟩ := h; subst g; rfl) | (obtain ⟨_, _, _, _, _, _, _, _, _, _, _, _, _, _, _, _, _, _, _, g, _⟩ := h; subst g; rfl) | (obtain ⟨_, _, _, _, _, _, _, _, _, _, _, _, _, _, _, _, _, _, _, _, g, _⟩ := h; subst g; rfl) | (obtain ⟨_, _, _, _, _, _, _, _, _, _, _, _, _, _, _, _, _, _, _, _, _, g, _⟩ := h; subst g; rfl)))
local macro_rules | `(tactic| walk_at "sz") => `(tactic| (intro ds M tn dn g E bd h; first | (obtain ⟨g, _⟩ := h; subst g; rfl) | (obtain ⟨_, g, _⟩ := h; subst g; rfl) | (obtain ⟨_, _, g, _⟩ := h; subst g; rfl) | (obtain ⟨_, _, _, g, _⟩ := h; subst g; rfl) | (obtain ⟨_, _, _, _, g, _⟩ := h; subst g; rfl) | (obtain ⟨_, _, _, _, _, g, _⟩ := h; subst g; rfl) | (obtain ⟨_, _, _, _, _, _, g, _⟩ := h; subst g; rfl) | (obtain ⟨_, _, _, _, _, _, _, g, _⟩ := h; subst g; rfl) | (obtain ⟨_, _, _, _, _, _, _, _, g, _⟩ := h; subst g; rfl) | (obtain ⟨_, _, _, _, _, _, _, _, _, g, _⟩ := h; subst g; rfl) | (obtain ⟨_, _, _, _, _, _, _, _, _, _, g, _⟩ := h; subst g; rfl) | (obtain ⟨_, _, _, _, _, _, _, _, _, _, _, g, _⟩ := h; subst g; rfl) | (obtain ⟨_, _, _, _, _, _, _, _, _, _, _, _, g, _⟩ := h; subst g; rfl) | (obtain ⟨_, _, _, _, _, _, _, _, _, _, _, _, _, g, _⟩ := h; subst g; rfl) | (obtain ⟨_, _, _, _, _, _, _, _, _, _, _, _, _, _, g, _⟩ := h; subst g; rfl) | (obtain ⟨_, _, _, _, _, _, _, _, _, _, _, _, _, _, _, g, _⟩ := h; subst g; rfl) | (obtain ⟨_, _, _, _, _, _, _, _, _, _, _, _, _, _, _, _, g, _⟩ := h; subst g; rfl) | (obtain ⟨_, _, _, _, _, _, _, _, _, _, _, _, _, _, _, _, _, g, _⟩ := h; subst g; rfl) | (obtain ⟨_, _, _, _, _, _, _, _, _, _, _, _, _, _, _, _, _, _, g, _⟩ := h; subst g; rfl) | (obtain ⟨_, _, _, _, _, _, _, _, _, _, _, _, _, _, _, _, _, _, _, g, _⟩ := h; subst g; rfl) | (obtain ⟨_, _, _, _, _, _, _, _, _, _, _, _, _, _, _, _, _, _, _, _, g, _⟩ := h; subst g; rfl) | (obtain ⟨_, _, _, _, _, _, _, _, _, _, _, _, _, _, _, _, _, _, _, _, _, g, _⟩ := h; subst g; rfl)))
local macro_rules | `(tactic| walk_at "hm") => `(tactic| first | exact nomark _ | rfl | with_unfolding_all rfl)
local macro_rules | `(tactic| walk_at "sc") => `(tactic| exact ⟨rfl, rfl, rfl, by decide +kernel, rfl, by decide +kernel, by decide +kernel⟩)
structure Md (w : World) (K : PySem.W.Frag) (mg : Str → Option Value) : Prop where
  n_ValueError : mg "ValueError" = none
  n_all : mg "all" = none
  n_bool : mg "bool" = none
  n_enumerate : mg "enumerate" = none
  n_int : mg "int" = none
  n_isinstance : mg "isinstance" = none
  n_iter : mg "iter" = none
  n_len : mg "len" = none
  n_list : mg "list" = none
  n_range : mg "range" = none
  n_str : mg "str" = none
  n_super : mg "super" = none
  n_tuple : mg "tuple" = none
  g_DEEDS : mg "DEEDS" = some (.ref (He.ga K "DEEDS"))
  c_DEEDS : ∃ f, mg "DEEDS" = some (.ref f) ∧ DL.WrT K f ((["see", "lend", "reserve", "mark", "fill", "pack", "work"] : List Str).map V.str)
  g_RELATIONS : mg "RELATIONS" = some (.ref (He.ga K "RELATIONS"))
  c_RELATIONS : ∃ f, mg "RELATIONS" = some (.ref f) ∧ DL.WrT K f ((["same", "over", "overbox", "under", "underbox"] : List Str).map V.str)
  g_STANDINGS : mg "STANDINGS" = some (.ref (He.ga K "STANDINGS"))
  c_STANDINGS : ∃ f, mg "STANDINGS" = some (.ref f) ∧ DL.WrT K f ((["look", "peek", "reserved"] : List Str).map V.str)
  k_Rule : mg "Rule" = some (.ref (He.ga K "Rule"))
  is_Rule : DL.IsC K "Rule"
  rd_Rule : ClX.CRead K (He.ga K "Rule") (.type "type")
  k_InvalidPlace : mg "InvalidPlace" = some (.ref (He.ga K "InvalidPlace"))
  k_NotBeneath : mg "NotBeneath" = some (.ref (He.ga K "NotBeneath"))
  k_InvalidEntry : mg "InvalidEntry" = some (.ref (He.ga K "InvalidEntry"))
  k_InvalidPromise : mg "InvalidPromise" = some (.ref (He.ga K "InvalidPromise"))
  k_InvalidProgram : mg "InvalidProgram" = some (.ref (He.ga K "InvalidProgram"))
  k_InvalidName : mg "InvalidName" = some (.ref (He.ga K "InvalidName"))
  errT_all : DL.ErrT K ["InvalidEntry", "InvalidRule"] ["InvalidPlace", "NotBeneath", "InvalidEntry", "InvalidRule", "InvalidPromise", "InvalidProgram", "InvalidName", "OverPower", "Stale", "NotSharing", "NotMendable", "Unsound", "TooMany", "LentError"]
  k_OverPower : mg "OverPower" = some (.ref (He.ga K "OverPower"))
  k_Stale : mg "Stale" = some (.ref (He.ga K "Stale"))
  k_NotSharing : mg "NotSharing" = some (.ref (He.ga K "NotSharing"))
  k_NotMendable : mg "NotMendable" = some (.ref (He.ga K "NotMendable"))
  k_Unsound : mg "Unsound" = some (.ref (He.ga K "Unsound"))
  k_TooMany : mg "TooMany" = some (.ref (He.ga K "TooMany"))
  k_InvalidRule : mg "InvalidRule" = some (.ref (He.ga K "InvalidRule"))
  errno_line : ∀ C ∈ (["InvalidEntry", "InvalidRule"] : List Str), PySem.W.findIn K (.ref (He.ga K C)) "line" = some none
  k_LentError : mg "LentError" = some (.ref (He.ga K "LentError"))
  mk_Rule : Mk K (He.ga K "Rule") (He.ma K (He.ga K "Rule") "__init__")
  sf_Rule : PySem.W.selfFirst K (He.ga K "Rule") = true
  exs_InvalidEntry : PySem.W.exmOne K (.ref (He.ga K "InvalidEntry")) (.ref (He.ga K "InvalidEntry")) = some true
  cls_Rule : Cls K (He.ga K "Rule")
  na_Rulerows : NoAttr K (He.ga K "Rule") "_rows"
section
variable {P : Program} {w : World} {K : PySem.W.Frag} {mg : Str → Option Value} {base : Heap}
theorem sc_l_begin : FnScope ["_law_script"] ["_law_script"] (defScope s_l_begin) := by walk_at "sc"
theorem ok_l_begin {f : Addr} {fd : FuncData} (F : FunD K "_law_begin" "_law_begin" (defArgs s_l_begin) (defBody s_l_begin) (defScope s_l_begin) [] [] f fd) (B : Md w K mg)  : FnOk P w K mg base (L2N.CX P w) (1) f fd ["_law_script"] (lsp K sp_l_begin) :=
  def_ok (N := ["_law_script"]) (k := 0) (t := w_l_begin) F sc_l_begin (by walk_at "sl")
    (fun cdv A outer s H E G hr => by exact dss_one (ds_ret (de_lstM (da_cons (de_callTy cb_list call_list_of B.n_list PyProof.Rows.boot_list (da_cons (de_var 0) (da_nil))) (da_cons (de_int) (da_cons (de_un un_neg ud_neg (de_int)) (da_cons (de_int) (da_nil)))))))) p_l_begin
theorem sc_l_draw : FnScope ["_law_source", "_law_size", "_law_number", "_law_drawn", "_law_mixed"] ["_law_source", "_law_size"] (defScope s_l_draw) := by walk_at "sc"
theorem ok_l_draw {f : Addr} {fd : FuncData} (F : FunD K "_law_draw" "_law_draw" (defArgs s_l_draw) (defBody s_l_draw) (defScope s_l_draw) [] [] f fd) (B : Md w K mg)  : FnOk P w K mg base (L2N.CX P w) (1) f fd ["_law_source", "_law_size"] (lsp K sp_l_draw) :=
  def_ok (N := ["_law_source", "_law_size", "_law_number", "_law_drawn", "_law_mixed"]) (k := 0) (t := w_l_draw) F sc_l_draw (by walk_at "sl")
    (fun cdv A outer s H E G hr => by exact dss_cons (ds_if (dt_cmp op_ge od_b (de_ix G (de_var 0) (de_int)) (de_callB cb_len call_lenA B.n_len PySem.boot_len (da_cons (de_ix G (de_var 0) (de_int)) (da_nil))) (by walk_at "hm")) (dss_one (ds_ret (de_int))) (dss_nil)) (dss_cons (ds_set 2 G (de_ix G (de_ix G (de_var 0) (de_int)) (de_ix G (de_var 0) (de_int)))) (dss_cons (ds_if (dt_cmp op_lt od_b (de_var 2) (de_int) (by walk_at "hm")) (dss_one (ds_set 2 G (de_op op_sub od_sub (de_un un_neg ud_neg (de_int)) (de_var 2)))) (dss_nil)) (dss_cons (ds_if (dt_cmp op_lt od_b (de_ix G (de_var 0) (de_int)) (de_int) (by walk_at "hm")) (dss_cons (ds_asg (de_var 2) (dg_setA G (de_var 0) (de_int))) (dss_one (ds_asg (de_int) (dg_setA G (de_var 0) (de_int))))) (dss_nil)) (dss_cons (ds_asg (de_op op_addA od_add (de_ix G (de_var 0) (de_int)) (de_int)) (dg_setA G (de_var 0) (de_int))) (dss_cons (ds_if (dt_cmp op_ge od_b (de_var 2) (de_op op_pow od_pow (de_int) (de_int)) (by walk_at "hm")) (dss_cons (ds_set 3 G (de_op op_mod od_mod (de_callTy cb_int call_int1 B.n_int PyProof.Rows.boot_int (da_cons (de_ix G (de_var 0) (de_int)) (da_nil))) (de_var 1))) (dss_cons (ds_asg (de_op op_fdiv od_div (de_ix G (de_var 0) (de_int)) (de_var 1)) (dg_setA G (de_var 0) (de_int))) (dss_one (ds_if (dt_w (dw_and (dt_cmp op_gt od_b (de_ix G (de_var 0) (de_int)) (de_int) (by walk_at "hm")) (dw_and1 (dt_cmp op_lt od_b (de_ix G (de_var 0) (de_int)) (de_int) (by walk_at "hm"))))) (dss_one (ds_ret (de_var 3))) (dss_nil))))) (dss_one (ds_if (dt_cmp (op_eqN G) od_eq (de_ix G (de_var 0) (de_int)) (de_int) (by walk_at "hm")) (dss_cons (ds_set 4 G (de_op op_mod od_mod (de_callTy cb_int call_int1 B.n_int PyProof.Rows.boot_int (da_cons (de_op op_addA od_add (de_op op_addA od_add (de_op op_mul od_mul (de_var 2) (de_int)) (de_op op_mul od_mul (de_ix G (de_var 0) (de_int)) (de_int))) (de_int)) (da_nil))) (de_int))) (dss_one (ds_ret (de_op op_mod od_mod (de_callTy cb_int call_int1 B.n_int PyProof.Rows.boot_int (da_cons (de_op op_mod od_mod (de_callTy cb_int call_int1 B.n_int PyProof.Rows.boot_int (da_cons (de_op op_addA od_add (de_op op_mul od_mul (de_var 4) (de_int)) (de_int)) (da_nil))) (de_int)) (da_nil))) (de_var 1))))) (dss_cons (ds_set 4 G (de_op op_mod od_mod (de_callTy cb_int call_int1 B.n_int PyProof.Rows.boot_int (da_cons (de_op op_addA od_add (de_op op_addA od_add (de_op op_mul od_mul (de_var 2) (de_int)) (de_op op_mul od_mul (de_ix G (de_var 0) (de_int)) (de_int))) (de_int)) (da_nil))) (de_int))) (dss_one (ds_set 3 G (de_op op_mod od_mod (de_callTy cb_int call_int1 B.n_int PyProof.Rows.boot_int (da_cons (de_op op_mod od_mod (de_callTy cb_int call_int1 B.n_int PyProof.Rows.boot_int (da_cons (de_op op_addA od_add (de_op op_mul od_mul (de_var 4) (de_int)) (de_int)) (da_nil))) (de_int)) (da_nil))) (de_var 1)))))))) (dss_cons (ds_asg (de_op op_addA od_add (de_ix G (de_var 0) (de_int)) (de_int)) (dg_setA G (de_var 0) (de_int))) (dss_cons (ds_asg (de_un un_neg ud_neg (de_int)) (dg_setA G (de_var 0) (de_int))) (dss_one (ds_ret (de_var 3))))))))))) p_l_draw
theorem sc_l_pick : FnScope ["_law_source", "_law_row"] ["_law_source", "_law_row"] (defScope s_l_pick) := by walk_at "sc"
theorem ok_l_pick {f : Addr} {fd : FuncData} (F : FunD K "_law_pick" "_law_pick" (defArgs s_l_pick) (defBody s_l_pick) (defScope s_l_pick) [] [] f fd) (B : Md w K mg) (F_l_draw : FnM P w K mg base 1 "_law_draw" sp_l_draw) : FnOk P w K mg base (L2N.CX P w) (2) f fd ["_law_source", "_law_row"] (lsp K sp_l_pick) :=
  def_ok (N := ["_law_source", "_law_row"]) (k := 1) (t := w_l_pick) F sc_l_pick (by walk_at "sl")
    (fun cdv A outer s H E G hr => by exact dss_one (ds_ret (de_ix G (de_var 1) (de_call F_l_draw G (hr.mono (by omega)) (da_cons (de_var 0) (da_cons (de_callB cb_len call_lenA B.n_len PySem.boot_len (da_cons (de_var 1) (da_nil))) (da_nil))))))) p_l_pick
theorem sc_l_sign : FnScope ["_law_source", "_law_signs"] ["_law_source"] (defScope s_l_sign) := by walk_at "sc"
theorem ok_l_sign {f : Addr} {fd : FuncData} (F : FunD K "_law_sign" "_law_sign" (defArgs s_l_sign) (defBody s_l_sign) (defScope s_l_sign) [] [] f fd) (B : Md w K mg) (F_l_draw : FnM P w K mg base 1 "_law_draw" sp_l_draw) (F_l_pick : FnM P w K mg base 2 "_law_pick" sp_l_pick) : FnOk P w K mg base (L2N.CX P w) (3) f fd ["_law_source"] (lsp K sp_l_sign) :=
  def_ok (N := ["_law_source", "_law_signs"]) (k := 2) (t := w_l_sign) F sc_l_sign (by walk_at "sl")
    (fun cdv A outer s H E G hr => by exact dss_cons (ds_if (dt_cmp (op_eqN G) od_eq (de_call F_l_draw G (hr.mono (by omega)) (da_cons (de_var 0) (da_cons (de_int) (da_nil)))) (de_int) (by walk_at "hm")) (dss_one (ds_ret (de_call F_l_pick G (hr.mono (by omega)) (da_cons (de_var 0) (da_cons (de_str) (da_nil)))))) (dss_nil)) (dss_cons (ds_set 1 G (de_str)) (dss_one (ds_ret (de_call F_l_pick G (hr.mono (by omega)) (da_cons (de_var 0) (da_cons (de_op op_addA od_add (de_var 1) (de_str)) (da_nil)))))))) p_l_sign
theorem sc_l_spoilt : FnScope ["_law_source", "_law_text", "_law_kind", "_law_at", "_law_words_here", "_law_row", "_law_odd", "_law_k"] ["_law_source", "_law_text"] (defScope s_l_spoilt) := by walk_at "sc"
theorem ok_l_spoilt {f : Addr} {fd : FuncData} (F : FunD K "_law_spoilt" "_law_spoilt" (defArgs s_l_spoilt) (defBody s_l_spoilt) (defScope s_l_spoilt) [] [] f fd) (B : Md w K mg) (F_l_draw : FnM P w K mg base 1 "_law_draw" sp_l_draw) (F_l_pick : FnM P w K mg base 2 "_law_pick" sp_l_pick) (F_l_sign : FnM P w K mg base 3 "_law_sign" sp_l_sign) : FnOk P w K mg base (L2N.CX P w) (4) f fd ["_law_source", "_law_text"] (lsp K sp_l_spoilt) :=
  def_ok (N := ["_law_source", "_law_text", "_law_kind", "_law_at", "_law_words_here", "_law_row", "_law_odd", "_law_k"]) (k := 3) (t := w_l_spoilt) F sc_l_spoilt (by walk_at "sl")
    (fun cdv A outer s H E G hr => by exact dss_cons (ds_set 2 G (de_call F_l_draw G (hr.mono (by omega)) (da_cons (de_var 0) (da_cons (de_int) (da_nil))))) (dss_cons (ds_set 3 G (de_call F_l_draw G (hr.mono (by omega)) (da_cons (de_var 0) (da_cons (de_int) (da_nil))))) (dss_cons (ds_set 4 G (de_mt PySem.F.plainAttrs_str PySem.F.slot_str_split PySem.F.type_str_split md_splitM mt_split (de_var 1) (da_cons (de_strc (by decide +kernel)) (da_nil)))) (dss_cons (ds_set 5 G (de_lst (da_cons (de_str) (da_cons (de_str) (da_cons (de_str) (da_cons (de_str) (da_cons (de_str) (da_cons (de_strc (by decide +kernel)) (da_cons (de_strc (by decide +kernel)) (da_cons (de_str) (da_cons (de_str) (da_cons (de_str) (da_cons (de_str) (da_cons (de_str) (da_cons (de_str) (da_nil)))))))))))))))) (dss_cons (ds_set 6 G (de_call F_l_pick G (hr.mono (by omega)) (da_cons (de_var 0) (da_cons (de_var 5) (da_nil))))) (dss_cons (ds_if (dt_cmp op_lt od_b (de_var 2) (de_int) (by walk_at "hm")) (dss_one (ds_asg (de_var 6) (dg_setA G (de_var 4) (de_var 3)))) (dss_one (ds_if (dt_cmp (op_eqN G) od_eq (de_var 2) (de_int) (by walk_at "hm")) (dss_one (ds_set 4 G (de_op op_addA od_addM (de_sl (de_var 4) (do_none) (do_some (de_var 3))) (de_sl (de_var 4) (do_some (de_op op_addA od_add (de_var 3) (de_int))) (do_none))))) (dss_one (ds_if (dt_cmp (op_eqN G) od_eq (de_var 2) (de_int) (by walk_at "hm")) (dss_one (ds_expr (de_mt PySem.F.plainAttrs_list PySem.F.slot_list_insert PySem.F.type_list_insert md_insert mt_insert (de_var 4) (da_cons (de_var 3) (da_cons (de_ix G (de_var 4) (de_var 3)) (da_nil)))))) (dss_one (ds_if (dt_cmp (op_eqN G) od_eq (de_var 2) (de_int) (by walk_at "hm")) (dss_one (ds_asg (de_op op_addA od_add (de_op op_addA od_add (de_ix G (de_var 4) (de_var 3)) (de_strc (by decide +kernel))) (de_var 6)) (dg_setA G (de_var 4) (de_var 3)))) (dss_one (ds_if (dt_cmp (op_eqN G) od_eq (de_var 2) (de_int) (by walk_at "hm")) (dss_one (ds_asg (de_op op_addA od_add (de_op op_addA od_add (de_var 6) (de_strc (by decide +kernel))) (de_ix G (de_var 4) (de_var 3))) (dg_setA G (de_var 4) (de_var 3)))) (dss_one (ds_if (dt_cmp (op_eqN G) od_eq (de_var 2) (de_int) (by walk_at "hm")) (dss_one (ds_expr (de_mt PySem.F.plainAttrs_list PySem.F.slot_list_insert PySem.F.type_list_insert md_insert mt_insert (de_var 4) (da_cons (de_var 3) (da_cons (de_strc (by decide +kernel)) (da_nil)))))) (dss_one (ds_if (dt_cmp (op_eqN G) od_eq (de_var 2) (de_int) (by walk_at "hm")) (dss_one (ds_expr (de_mt PySem.F.plainAttrs_list PySem.F.slot_list_append PySem.F.type_list_append md_append mt_append (de_var 4) (da_cons (de_strc (by decide +kernel)) (da_nil))))) (dss_one (ds_if (dt_cmp (op_eqN G) od_eq (de_var 2) (de_int) (by walk_at "hm")) (dss_one (ds_asg (de_mt0 PySem.F.plainAttrs_str PySem.F.slot_str_upper PySem.F.type_str_upper md_upper mt_upper (de_ix G (de_var 4) (de_var 3))) (dg_setA G (de_var 4) (de_var 3)))) (dss_one (ds_if (dt_cmp (op_eqN G) od_eq (de_var 2) (de_int) (by walk_at "hm")) (dss_one (ds_set 4 G (de_op op_addA od_addM (de_sl (de_var 4) (do_some (de_int)) (do_none)) (de_sl (de_var 4) (do_none) (do_some (de_int)))))) (dss_one (ds_if (dt_cmp (op_eqN G) od_eq (de_var 2) (de_int) (by walk_at "hm")) (dss_cons (ds_set 7 G (de_call F_l_draw G (hr.mono (by omega)) (da_cons (de_var 0) (da_cons (de_op op_addA od_add (de_callB cb_len call_lenA B.n_len PySem.boot_len (da_cons (de_var 1) (da_nil))) (de_int)) (da_nil))))) (dss_one (ds_ret (de_op op_addA od_add (de_op op_addA od_add (de_sl (de_var 1) (do_none) (do_some (de_var 7))) (de_call F_l_sign G (hr.mono (by omega)) (da_cons (de_var 0) (da_nil)))) (de_sl (de_var 1) (do_some (de_var 7)) (do_none)))))) (dss_one (ds_if (dt_cmp (op_eqN G) od_eq (de_var 2) (de_int) (by walk_at "hm")) (dss_cons (ds_set 7 G (de_call F_l_draw G (hr.mono (by omega)) (da_cons (de_var 0) (da_cons (de_callB cb_len call_lenA B.n_len PySem.boot_len (da_cons (de_var 1) (da_nil))) (da_nil))))) (dss_one (ds_ret (de_op op_addA od_add (de_sl (de_var 1) (do_none) (do_some (de_var 7))) (de_sl (de_var 1) (do_some (de_op op_addA od_add (de_var 7) (de_int))) (do_none)))))) (dss_one (ds_if (dt_cmp (op_eqN G) od_eq (de_var 2) (de_int) (by walk_at "hm")) (dss_one (ds_ret (de_call F_l_pick G (hr.mono (by omega)) (da_cons (de_var 0) (da_cons (de_lst (da_cons (de_op op_addA od_add (de_var 1) (de_strc (by decide +kernel))) (da_cons (de_op op_addA od_add (de_strc (by decide +kernel)) (de_var 1)) (da_cons (de_op op_addA od_add (de_op op_addA od_add (de_var 1) (de_strc (by decide +kernel))) (de_var 1)) (da_cons (de_op op_addA od_add (de_op op_addA od_add (de_var 1) (de_strc (by decide +kernel))) (de_var 1)) (da_nil)))))) (da_nil)))))) (dss_one (ds_if (dt_cmp (op_eqN G) od_eq (de_var 2) (de_int) (by walk_at "hm")) (dss_one (ds_ret (de_call F_l_pick G (hr.mono (by omega)) (da_cons (de_var 0) (da_cons (de_lst (da_cons (de_strc (by decide +kernel)) (da_cons (de_strc (by decide +kernel)) (da_cons (de_str) (da_cons (de_str) (da_cons (de_str) (da_cons (de_strc (by decide +kernel)) (da_cons (de_str) (da_cons (de_strc (by decide +kernel)) (da_nil)))))))))) (da_nil)))))) (dss_one (ds_ret (de_mt PySem.F.plainAttrs_str PySem.F.slot_str_join PySem.F.type_str_join md_join mt_join (de_strc (by decide +kernel)) (da_cons (de_frz (de_lc1 [("_law_k", 7)] G (di_rng1 B.n_range (da_cons (de_call F_l_draw G (hr.mono (by omega)) (da_cons (de_var 0) (da_cons (de_int) (da_nil)))) (da_nil))) (fun _ _ _ _ _ G => bk1 (dgw_name 7 G.nd) (dts_nil) (de_call F_l_sign G (hr.mono (by omega)) (da_cons (de_var 0) (da_nil)))))) (da_nil)))))))))))))))))))))))))))))) (dss_one (ds_ret (de_mt PySem.F.plainAttrs_str PySem.F.slot_str_join PySem.F.type_str_join md_join mt_join (de_strc (by decide +kernel)) (da_cons (de_var 4) (da_nil))))))))))) p_l_spoilt
theorem sc_l_words : FnScope ["_law_source", "_law_words_here", "_law_kind", "_law_k"] ["_law_source", "_law_words_here"] (defScope s_l_words) := by walk_at "sc"
theorem ok_l_words {f : Addr} {fd : FuncData} (F : FunD K "_law_words" "_law_words" (defArgs s_l_words) (defBody s_l_words) (defScope s_l_words) [] [] f fd) (B : Md w K mg) (F_l_draw : FnM P w K mg base 1 "_law_draw" sp_l_draw) (F_l_pick : FnM P w K mg base 2 "_law_pick" sp_l_pick) : FnOk P w K mg base (L2N.CX P w) (3) f fd ["_law_source", "_law_words_here"] (lsp K sp_l_words) :=
  def_ok (N := ["_law_source", "_law_words_here", "_law_kind", "_law_k"]) (k := 2) (t := w_l_words) F sc_l_words (by walk_at "sl")
    (fun cdv A outer s H E G hr => by exact dss_cons (ds_set 2 G (de_call F_l_draw G (hr.mono (by omega)) (da_cons (de_var 0) (da_cons (de_int) (da_nil))))) (dss_cons (ds_if (dt_cmp (op_eqN G) od_eq (de_var 2) (de_int) (by walk_at "hm")) (dss_one (ds_ret (de_call F_l_pick G (hr.mono (by omega)) (da_cons (de_var 0) (da_cons (de_var 1) (da_nil)))))) (dss_nil)) (dss_cons (ds_if (dt_cmp (op_eqN G) od_eq (de_var 2) (de_int) (by walk_at "hm")) (dss_one (ds_ret (de_strc (by decide +kernel)))) (dss_nil)) (dss_one (ds_ret (de_mt PySem.F.plainAttrs_str PySem.F.slot_str_join PySem.F.type_str_join md_join mt_join (de_strc (by decide +kernel)) (da_cons (de_frz (de_lc1 [("_law_k", 3)] G (di_rng1 B.n_range (da_cons (de_op op_addA od_add (de_int) (de_call F_l_draw G (hr.mono (by omega)) (da_cons (de_var 0) (da_cons (de_int) (da_nil))))) (da_nil))) (fun _ _ _ _ _ G => bk1 (dgw_name 3 G.nd) (dts_nil) (de_call F_l_pick G (hr.mono (by omega)) (da_cons (de_var 0) (da_cons (de_var 1) (da_nil))))))) (da_nil)))))))) p_l_words
theorem sc_l_standings : FnScope [] [] (defScope s_l_standings) := by walk_at "sc"
theorem ok_l_standings {f : Addr} {fd : FuncData} (F : FunD K "_law_standings" "_law_standings" (defArgs s_l_standings) (defBody s_l_standings) (defScope s_l_standings) [] [] f fd) (B : Md w K mg)  : FnOk P w K mg base (L2N.CX P w) (1) f fd [] (lsp K sp_l_standings) :=
  def_ok (N := []) (k := 0) (t := w_l_standings) F sc_l_standings (by walk_at "sl")
    (fun cdv A outer s H E G hr => by exact dss_one (ds_ret (de_lst (da_cons (de_str) (da_cons (de_str) (da_cons (de_str) (da_nil))))))) p_l_standings
theorem sc_l_deeds : FnScope [] [] (defScope s_l_deeds) := by walk_at "sc"
theorem ok_l_deeds {f : Addr} {fd : FuncData} (F : FunD K "_law_deeds" "_law_deeds" (defArgs s_l_deeds) (defBody s_l_deeds) (defScope s_l_deeds) [] [] f fd) (B : Md w K mg)  : FnOk P w K mg base (L2N.CX P w) (1) f fd [] (lsp K sp_l_deeds) :=
  def_ok (N := []) (k := 0) (t := w_l_deeds) F sc_l_deeds (by walk_at "sl")
    (fun cdv A outer s H E G hr => by exact dss_one (ds_ret (de_lst (da_cons (de_str) (da_cons (de_str) (da_cons (de_str) (da_cons (de_str) (da_cons (de_str) (da_cons (de_str) (da_cons (de_str) (da_nil))))))))))) p_l_deeds
theorem sc_l_relations : FnScope [] [] (defScope s_l_relations) := by walk_at "sc"
theorem ok_l_relations {f : Addr} {fd : FuncData} (F : FunD K "_law_relations" "_law_relations" (defArgs s_l_relations) (defBody s_l_relations) (defScope s_l_relations) [] [] f fd) (B : Md w K mg)  : FnOk P w K mg base (L2N.CX P w) (1) f fd [] (lsp K sp_l_relations) :=
  def_ok (N := []) (k := 0) (t := w_l_relations) F sc_l_relations (by walk_at "sl")
    (fun cdv A outer s H E G hr => by exact dss_one (ds_ret (de_lst (da_cons (de_str) (da_cons (de_str) (da_cons (de_str) (da_cons (de_str) (da_cons (de_str) (da_nil))))))))) p_l_relations
theorem sc_l_pattern : FnScope ["_law_source", "_law_first", "_law_second"] ["_law_source"] (defScope s_l_pattern) := by walk_at "sc"
theorem ok_l_pattern {f : Addr} {fd : FuncData} (F : FunD K "_law_pattern" "_law_pattern" (defArgs s_l_pattern) (defBody s_l_pattern) (defScope s_l_pattern) [] [] f fd) (B : Md w K mg) (F_l_words : FnM P w K mg base 3 "_law_words" sp_l_words) (F_l_standings : FnM P w K mg base 1 "_law_standings" sp_l_standings) (F_l_deeds : FnM P w K mg base 1 "_law_deeds" sp_l_deeds) (F_l_relations : FnM P w K mg base 1 "_law_relations" sp_l_relations) : FnOk P w K mg base (L2N.CX P w) (4) f fd ["_law_source"] (lsp K sp_l_pattern) :=
  def_ok (N := ["_law_source", "_law_first", "_law_second"]) (k := 3) (t := w_l_pattern) F sc_l_pattern (by walk_at "sl")
    (fun cdv A outer s H E G hr => by exact dss_cons (ds_set 1 G (de_call F_l_words G (hr.mono (by omega)) (da_cons (de_var 0) (da_cons (de_call0 F_l_standings G (hr.mono (by omega)) ) (da_nil))))) (dss_cons (ds_set 2 G (de_call F_l_words G (hr.mono (by omega)) (da_cons (de_var 0) (da_cons (de_call0 F_l_deeds G (hr.mono (by omega)) ) (da_nil))))) (dss_one (ds_ret (de_op op_addA od_add (de_op op_addA od_add (de_op op_addA od_add (de_op op_addA od_add (de_var 1) (de_strc (by decide +kernel))) (de_var 2)) (de_strc (by decide +kernel))) (de_call F_l_words G (hr.mono (by omega)) (da_cons (de_var 0) (da_cons (de_call0 F_l_relations G (hr.mono (by omega)) ) (da_nil))))))))) p_l_pattern
theorem sc_written_entries : FnScope ["standings", "deeds", "relations", "standing", "deed", "word"] ["standings", "deeds", "relations"] (defScope s_written_entries) := by walk_at "sc"
theorem ok_written_entries {f : Addr} {fd : FuncData} (F : FunD K "written_entries" "written_entries" (defArgs s_written_entries) (defBody s_written_entries) (defScope s_written_entries) [] [] f fd) (B : Md w K mg)  : FnOk P w K mg base (L2N.CX P w) (1) f fd ["standings", "deeds", "relations"] (lsp K sp_written_entries) :=
  def_ok (N := ["standings", "deeds", "relations", "standing", "deed", "word"]) (k := 0) (t := w_written_entries) F sc_written_entries (by walk_at "sl")
    (fun cdv A outer s H E G hr => by exact dss_one (ds_ret (de_lc3 [("standing", 3), ("deed", 4), ("word", 5)] [4, 5] [5] G (di_any (de_var 0)) (fun _ _ _ _ _ G => bk3 (dgw_name 3 G.nd) (dts_nil) (di_any (de_var 1)) (dgw_name 4 G.nd) (dts_nil) (di_any (de_var 2)) (dgw_name 5 G.nd) (dts_nil) (de_fs (.cons (de_fmt (de_var 3)) (.cons (de_strc (by decide +kernel)) (.cons (de_fmt (de_var 4)) (.cons (de_strc (by decide +kernel)) (.cons (de_fmt (de_var 5)) (.nil))))))))))) p_written_entries
theorem sc_all_entries : FnScope [] [] (defScope s_all_entries) := by walk_at "sc"
theorem ok_all_entries {f : Addr} {fd : FuncData} (F : FunD K "all_entries" "all_entries" (defArgs s_all_entries) (defBody s_all_entries) (defScope s_all_entries) [] [] f fd) (B : Md w K mg) (F_written_entries : FnM P w K mg base 1 "written_entries" sp_written_entries) : FnOk P w K mg base (L2N.CX P w) (2) f fd [] (lsp K sp_all_entries) :=
  def_ok (N := []) (k := 1) (t := w_all_entries) F sc_all_entries (by walk_at "sl")
    (fun cdv A outer s H E G hr => by exact dss_one (ds_ret (de_call F_written_entries G (hr.mono (by omega)) (da_cons (de_gtx B.c_STANDINGS rfl) (da_cons (de_gtx B.c_DEEDS rfl) (da_cons (de_gtx B.c_RELATIONS rfl) (da_nil))))))) p_all_entries
theorem ok_InvalidEntry_init {cc cda : Addr} {fd : FuncData} (D : ErrD K "__init__" "InvalidEntry.__init__" (defArgs s_InvalidEntry_init) (defBody s_InvalidEntry_init) (defScope s_InvalidEntry_init) (He.ga K "InvalidEntry") (He.ma K (He.ga K "InvalidEntry") "__init__") cc cda PySem.Challenge.pw_lentahead_k13_rules_read_from_lines.main.file fd)
    (c : errCB "InvalidEntry" "text" K = true) (g : mg "InvalidEntry" = some (.ref (He.ga K "InvalidEntry"))) (hs : mg "super" = none) (h1 : (P.main.file == PySem.Challenge.pw_lentahead_k13_rules_read_from_lines.main.file) = true) (h2 : (P.main.scope.names.lookup ("super" : Str)).isSome = false) : FnE P w K mg base 1 "InvalidEntry" "text" :=
  fnE_of D (err_ok (N := ["self", "text", "__class__"]) (k := 0) (self := "self") (par := "text") D (errCB_ok c).1 (errCB_ok c).2.1 (NdefX.nscope_by (by decide +kernel)) (by rfl) (by rfl) (by rfl) rfl rfl h1 hs h2 (by decide +kernel) (fun _ => rfl) (fun _ => rfl) (fun _ => rfl) (fun _ => ⟨_, rfl⟩) (by decide) (by decide) (by decide) (by decide)) c g (fun _ _ _ _ _ us hl => match us, hl with | [_, _], _ => rfl)
theorem sc_words_of : FnScope ["part", "words", "named", "word"] ["part", "words"] (defScope s_words_of) := by walk_at "sc"
theorem ok_words_of {f : Addr} {fd : FuncData} (F : FunD K "words_of" "words_of" (defArgs s_words_of) (defBody s_words_of) (defScope s_words_of) [] [] f fd) (B : Md w K mg)  : FnOk P w K mg base (L2N.CX P w) (1) f fd ["part", "words"] (lsp K sp_words_of) :=
  def_ok (N := ["part", "words", "named", "word"]) (k := 0) (t := w_words_of) F sc_words_of (by walk_at "sl")
    (fun cdv A outer s H E G hr => by exact dss_cons (ds_if (dt_cmp (op_eqN G) od_eq (de_var 0) (de_strc (by decide +kernel)) (by walk_at "hm")) (dss_one (ds_ret (de_callTy cb_list call_list_of B.n_list PyProof.Rows.boot_list (da_cons (de_var 1) (da_nil))))) (dss_nil)) (dss_cons (ds_set 2 G (de_mt PySem.F.plainAttrs_str PySem.F.slot_str_split PySem.F.type_str_split md_split mt_split (de_var 0) (da_cons (de_strc (by decide +kernel)) (da_nil)))) (dss_cons (ds_if (dt_not (dt_tru (de_callB cb_all (cr_all G.calm) B.n_all PyProof.Rows.boot_all (da_cons (de_frz (de_lc1 [("word", 3)] G (di_any (de_var 2)) (fun _ _ _ _ _ G => bk1 (dgw_name 3 G.nd) (dts_nil) (de_cmp (op_inN G) od_in (de_var 3) (de_var 1) (by walk_at "hm"))))) (da_nil))))) (dss_one (ds_ret (de_non))) (dss_nil)) (dss_one (ds_ret (de_frz (de_lc1 [("word", 3)] G (di_any (de_var 1)) (fun _ _ _ _ _ G => bk1 (dgw_name 3 G.nd) (dts_one (dt_cmp (op_inN G) od_in (de_var 3) (de_var 2) (by walk_at "hm"))) (de_var 3))))))))) p_words_of
theorem sc_expand : FnScope ["pattern", "parts", "standings", "deeds", "relations"] ["pattern"] (defScope s_expand) := by walk_at "sc"
theorem ok_expand {f : Addr} {fd : FuncData} (F : FunD K "expand" "expand" (defArgs s_expand) (defBody s_expand) (defScope s_expand) [] [] f fd) (B : Md w K mg) (F_InvalidEntry_init : FnE P w K mg base 1 "InvalidEntry" "text") (F_words_of : FnM P w K mg base 1 "words_of" sp_words_of) (F_written_entries : FnM P w K mg base 1 "written_entries" sp_written_entries) : FnOk P w K mg base (L2N.CX P w) (3) f fd ["pattern"] (lsp K sp_expand) :=
  def_ok (N := ["pattern", "parts", "standings", "deeds", "relations"]) (k := 2) (t := w_expand) F sc_expand (by intro ds M Q E h; unfold sp_expand at h; rcases h with h | h <;> first | (obtain ⟨rfl, _⟩ := h; rfl) | (obtain ⟨_, rfl, _⟩ := h; rfl) | (obtain ⟨_, _, rfl, _⟩ := h; rfl) | (obtain ⟨_, _, _, rfl, _⟩ := h; rfl) | (obtain ⟨_, _, _, _, rfl, _⟩ := h; rfl) | (obtain ⟨_, _, _, _, _, rfl, _⟩ := h; rfl) | (obtain ⟨_, _, _, _, _, _, rfl, _⟩ := h; rfl) | (obtain ⟨_, _, _, _, _, _, _, rfl, _⟩ := h; rfl) | (obtain ⟨_, _, _, _, _, _, _, _, rfl, _⟩ := h; rfl) | (obtain ⟨_, _, _, _, _, _, _, _, _, rfl, _⟩ := h; rfl) | (obtain ⟨_, _, _, _, _, _, _, _, _, _, rfl, _⟩ := h; rfl) | (obtain ⟨_, _, _, _, _, _, _, _, _, _, _, rfl, _⟩ := h; rfl) | (obtain ⟨_, _, _, _, _, _, _, _, _, _, _, _, rfl, _⟩ := h; rfl) | (obtain ⟨_, _, _, _, _, _, _, _, _, _, _, _, _, rfl, _⟩ := h; rfl) | (obtain ⟨_, _, _, _, _, _, _, _, _, _, _, _, _, _, rfl, _⟩ := h; rfl) | (obtain ⟨_, _, _, _, _, _, _, _, _, _, _, _, _, _, _, rfl, _⟩ := h; rfl) | (obtain ⟨_, _, _, _, _, _, _, _, _, _, _, _, _, _, _, _, rfl, _⟩ := h; rfl) | (obtain ⟨_, _, _, _, _, _, _, _, _, _, _, _, _, _, _, _, _, rfl, _⟩ := h; rfl) | (obtain ⟨_, _, _, _, _, _, _, _, _, _, _, _, _, _, _, _, _, _, rfl, _⟩ := h; rfl) | (obtain ⟨_, _, _, _, _, _, _, _, _, _, _, _, _, _, _, _, _, _, _, rfl, _⟩ := h; rfl) | (obtain ⟨_, _, _, _, _, _, _, _, _, _, _, _, _, _, _, _, _, _, _, _, rfl, _⟩ := h; rfl) | (obtain ⟨_, _, _, _, _, _, _, _, _, _, _, _, _, _, _, _, _, _, _, _, _, rfl, _⟩ := h; rfl))
    (fun cdv A outer s H E G hr => by exact dss_cons (ds_set 1 G (de_mt PySem.F.plainAttrs_str PySem.F.slot_str_split PySem.F.type_str_split md_split mt_split (de_var 0) (da_cons (de_strc (by decide +kernel)) (da_nil)))) (dss_cons (ds_if (dt_cmp (op_neN G) od_eq (de_callB cb_len call_lenA B.n_len PySem.boot_len (da_cons (de_var 1) (da_nil))) (de_int) (by walk_at "hm")) (dss_one (ds_raise F_InvalidEntry_init G (hr.mono (by omega)) (de_var 0))) (dss_nil)) (dss_cons (ds_set 2 G (de_call F_words_of G (hr.mono (by omega)) (da_cons (de_ix G (de_var 1) (de_int)) (da_cons (de_gtx B.c_STANDINGS rfl) (da_nil))))) (dss_cons (ds_set 3 G (de_call F_words_of G (hr.mono (by omega)) (da_cons (de_ix G (de_var 1) (de_int)) (da_cons (de_gtx B.c_DEEDS rfl) (da_nil))))) (dss_cons (ds_set 4 G (de_call F_words_of G (hr.mono (by omega)) (da_cons (de_ix G (de_var 1) (de_int)) (da_cons (de_gtx B.c_RELATIONS rfl) (da_nil))))) (dss_cons (ds_if (dt_w (dw_or (dt_cmp op_isN od_isN (de_var 2) (de_non) (by walk_at "hm")) (dw_or (dt_cmp op_isN od_isN (de_var 3) (de_non) (by walk_at "hm")) (dw_or1 (dt_cmp op_isN od_isN (de_var 4) (de_non) (by walk_at "hm")))))) (dss_one (ds_raise F_InvalidEntry_init G (hr.mono (by omega)) (de_var 0))) (dss_nil)) (dss_one (ds_ret (de_call F_written_entries G (hr.mono (by omega)) (da_cons (de_var 2) (da_cons (de_var 3) (da_cons (de_var 4) (da_nil))))))))))))) p_expand
theorem sc_gathered_entries : FnScope ["patterns", "known", "entry", "chosen", "pattern"] ["patterns"] (defScope s_gathered_entries) := by walk_at "sc"
theorem ok_gathered_entries {f : Addr} {fd : FuncData} (F : FunD K "gathered_entries" "gathered_entries" (defArgs s_gathered_entries) (defBody s_gathered_entries) (defScope s_gathered_entries) [] [] f fd) (B : Md w K mg) (F_all_entries : FnM P w K mg base 2 "all_entries" sp_all_entries) (F_expand : FnM P w K mg base 3 "expand" sp_expand) : FnOk P w K mg base (L2N.CX P w) (4) f fd ["patterns"] (lsp K sp_gathered_entries) :=
  def_ok (N := ["patterns", "known", "entry", "chosen", "pattern"]) (k := 3) (t := w_gathered_entries) F sc_gathered_entries (by intro ds M Q E h; unfold sp_gathered_entries at h; rcases h with h | h <;> first | (obtain ⟨rfl, _⟩ := h; rfl) | (obtain ⟨_, rfl, _⟩ := h; rfl) | (obtain ⟨_, _, rfl, _⟩ := h; rfl) | (obtain ⟨_, _, _, rfl, _⟩ := h; rfl) | (obtain ⟨_, _, _, _, rfl, _⟩ := h; rfl) | (obtain ⟨_, _, _, _, _, rfl, _⟩ := h; rfl) | (obtain ⟨_, _, _, _, _, _, rfl, _⟩ := h; rfl) | (obtain ⟨_, _, _, _, _, _, _, rfl, _⟩ := h; rfl) | (obtain ⟨_, _, _, _, _, _, _, _, rfl, _⟩ := h; rfl) | (obtain ⟨_, _, _, _, _, _, _, _, _, rfl, _⟩ := h; rfl) | (obtain ⟨_, _, _, _, _, _, _, _, _, _, rfl, _⟩ := h; rfl) | (obtain ⟨_, _, _, _, _, _, _, _, _, _, _, rfl, _⟩ := h; rfl) | (obtain ⟨_, _, _, _, _, _, _, _, _, _, _, _, rfl, _⟩ := h; rfl) | (obtain ⟨_, _, _, _, _, _, _, _, _, _, _, _, _, rfl, _⟩ := h; rfl) | (obtain ⟨_, _, _, _, _, _, _, _, _, _, _, _, _, _, rfl, _⟩ := h; rfl) | (obtain ⟨_, _, _, _, _, _, _, _, _, _, _, _, _, _, _, rfl, _⟩ := h; rfl) | (obtain ⟨_, _, _, _, _, _, _, _, _, _, _, _, _, _, _, _, rfl, _⟩ := h; rfl) | (obtain ⟨_, _, _, _, _, _, _, _, _, _, _, _, _, _, _, _, _, rfl, _⟩ := h; rfl) | (obtain ⟨_, _, _, _, _, _, _, _, _, _, _, _, _, _, _, _, _, _, rfl, _⟩ := h; rfl) | (obtain ⟨_, _, _, _, _, _, _, _, _, _, _, _, _, _, _, _, _, _, _, rfl, _⟩ := h; rfl) | (obtain ⟨_, _, _, _, _, _, _, _, _, _, _, _, _, _, _, _, _, _, _, _, rfl, _⟩ := h; rfl) | (obtain ⟨_, _, _, _, _, _, _, _, _, _, _, _, _, _, _, _, _, _, _, _, _, rfl, _⟩ := h; rfl))
    (fun cdv A outer s H E G hr => by exact dss_cons (by first | exact ds_setDc 1 [("entry", 2)] G (di_any (de_frz (de_call0 F_all_entries G (hr.mono (by omega)) ))) (fun _ _ _ _ _ G => ⟨dgw_name 2 G.nd, dts_nil, de_var 2, de_bl⟩) | exact ds_set 1 G (de_dc [("entry", 2)] G (di_any (de_frz (de_call0 F_all_entries G (hr.mono (by omega)) ))) (fun _ _ _ _ _ G => ⟨dgw_name 2 G.nd, dts_nil, de_var 2, de_bl⟩))) (dss_cons (ds_set 3 G (de_dict0)) (dss_cons (ds_for G (di_any (de_var 0)) (dg_name 4 G.nd) (dss_one (ds_for G (di_any (de_if (dt_cmp (op_inN G) od_in (de_var 4) (de_var 1) (by walk_at "hm")) (de_lst (da_cons (de_var 4) (da_nil))) (de_frz (de_call F_expand G (hr.mono (by omega)) (da_cons (de_var 4) (da_nil)))))) (dg_name 2 G.nd) (dss_one (ds_asg (de_bl) (dg_setA G (de_var 3) (de_var 2))))))) (dss_one (ds_lock 1 (ds_ret (de_frz (de_lcP [("entry", 2)] G (di_keys (de_var 1)) (fun _ _ _ _ _ G => ⟨dgw_name 2 G.nd, dts_one (dt_cmp (op_inN G) od_in (de_var 2) (de_var 3) (by walk_at "hm")), de_var 2⟩))))))))) p_gathered_entries
theorem sc_Rule_init : FnScope ["self", "patterns"] ["self", "patterns"] (defScope s_Rule_init) := by walk_at "sc"
theorem ok_Rule_init {f : Addr} {fd : FuncData} (F : FunD K "__init__" "Rule.__init__" (defArgs s_Rule_init) (defBody s_Rule_init) (defScope s_Rule_init) [] [] f fd) (B : Md w K mg) (F_gathered_entries : FnM P w K mg base 4 "gathered_entries" sp_gathered_entries) : FnR P w K mg base (L2N.CX P w) 5 f (lsp K (starSp 1 sp_Rule_init)) :=
  def_star (N := ["self", "patterns"]) (ps := ["self"]) (pv := "patterns") (k := 4) (t := w_Rule_init) F sc_Rule_init (by intro ds M Q E h; unfold sp_Rule_init at h; rcases h with h | h <;> first | (obtain ⟨rfl, _⟩ := h; rfl) | (obtain ⟨_, rfl, _⟩ := h; rfl) | (obtain ⟨_, _, rfl, _⟩ := h; rfl) | (obtain ⟨_, _, _, rfl, _⟩ := h; rfl) | (obtain ⟨_, _, _, _, rfl, _⟩ := h; rfl) | (obtain ⟨_, _, _, _, _, rfl, _⟩ := h; rfl) | (obtain ⟨_, _, _, _, _, _, rfl, _⟩ := h; rfl) | (obtain ⟨_, _, _, _, _, _, _, rfl, _⟩ := h; rfl) | (obtain ⟨_, _, _, _, _, _, _, _, rfl, _⟩ := h; rfl) | (obtain ⟨_, _, _, _, _, _, _, _, _, rfl, _⟩ := h; rfl) | (obtain ⟨_, _, _, _, _, _, _, _, _, _, rfl, _⟩ := h; rfl) | (obtain ⟨_, _, _, _, _, _, _, _, _, _, _, rfl, _⟩ := h; rfl) | (obtain ⟨_, _, _, _, _, _, _, _, _, _, _, _, rfl, _⟩ := h; rfl) | (obtain ⟨_, _, _, _, _, _, _, _, _, _, _, _, _, rfl, _⟩ := h; rfl) | (obtain ⟨_, _, _, _, _, _, _, _, _, _, _, _, _, _, rfl, _⟩ := h; rfl) | (obtain ⟨_, _, _, _, _, _, _, _, _, _, _, _, _, _, _, rfl, _⟩ := h; rfl) | (obtain ⟨_, _, _, _, _, _, _, _, _, _, _, _, _, _, _, _, rfl, _⟩ := h; rfl) | (obtain ⟨_, _, _, _, _, _, _, _, _, _, _, _, _, _, _, _, _, rfl, _⟩ := h; rfl) | (obtain ⟨_, _, _, _, _, _, _, _, _, _, _, _, _, _, _, _, _, _, rfl, _⟩ := h; rfl) | (obtain ⟨_, _, _, _, _, _, _, _, _, _, _, _, _, _, _, _, _, _, _, rfl, _⟩ := h; rfl) | (obtain ⟨_, _, _, _, _, _, _, _, _, _, _, _, _, _, _, _, _, _, _, _, rfl, _⟩ := h; rfl) | (obtain ⟨_, _, _, _, _, _, _, _, _, _, _, _, _, _, _, _, _, _, _, _, _, rfl, _⟩ := h; rfl))
    (fun kV doc pm an cdv ct us rest hl => StX.bind_star1 (B := fun l => bindArgs (PySem.W.fnOf "__init__" "Rule.__init__" (defArgs s_Rule_init) (defBody s_Rule_init) (defScope s_Rule_init) .none kV doc pm an cdv ct) ⟨l, []⟩) (fun _ => rfl) (fun _ _ _ => rfl) us rest hl)
    (fun cdv A outer s H E G hr => by exact dss_one (ds_setF B.cls_Rule B.na_Rulerows (de_var 0) (de_call F_gathered_entries G (hr.mono (by omega)) (da_cons (de_var 1) (da_nil))))) p_Rule_init
theorem ok_InvalidRule_init {cc cda : Addr} {fd : FuncData} (D : ErrD K "__init__" "InvalidRule.__init__" (defArgs s_InvalidRule_init) (defBody s_InvalidRule_init) (defScope s_InvalidRule_init) (He.ga K "InvalidRule") (He.ma K (He.ga K "InvalidRule") "__init__") cc cda PySem.Challenge.pw_lentahead_k13_rules_read_from_lines.main.file fd)
    (c : errCB "InvalidRule" "line" K = true) (g : mg "InvalidRule" = some (.ref (He.ga K "InvalidRule"))) (hs : mg "super" = none) (h1 : (P.main.file == PySem.Challenge.pw_lentahead_k13_rules_read_from_lines.main.file) = true) (h2 : (P.main.scope.names.lookup ("super" : Str)).isSome = false) : FnE P w K mg base 1 "InvalidRule" "line" :=
  fnE_of D (err_ok (N := ["self", "line", "__class__"]) (k := 0) (self := "self") (par := "line") D (errCB_ok c).1 (errCB_ok c).2.1 (NdefX.nscope_by (by decide +kernel)) (by rfl) (by rfl) (by rfl) rfl rfl h1 hs h2 (by decide +kernel) (fun _ => rfl) (fun _ => rfl) (fun _ => rfl) (fun _ => ⟨_, rfl⟩) (by decide) (by decide) (by decide) (by decide)) c g (fun _ _ _ _ _ us hl => match us, hl with | [_, _], _ => rfl)
theorem okH_InvalidRule_init {cc cda : Addr} {fd : FuncData} (D : ErrD K "__init__" "InvalidRule.__init__" (defArgs s_InvalidRule_init) (defBody s_InvalidRule_init) (defScope s_InvalidRule_init) (He.ga K "InvalidRule") (He.ma K (He.ga K "InvalidRule") "__init__") cc cda PySem.Challenge.pw_lentahead_k13_rules_read_from_lines.main.file fd)
    (c : errCB "InvalidRule" "line" K = true) (g : mg "InvalidRule" = some (.ref (He.ga K "InvalidRule"))) (hs : mg "super" = none) (h1 : (P.main.file == PySem.Challenge.pw_lentahead_k13_rules_read_from_lines.main.file) = true) (h2 : (P.main.scope.names.lookup ("super" : Str)).isSome = false) : FnEH P w K mg base 1 "InvalidRule" "line" :=
  fnEH_of D (err_okH (N := ["self", "line", "__class__"]) (k := 0) (self := "self") (par := "line") D (errCB_ok c).1 (errCB_ok c).2.1 (NdefX.nscope_by (by decide +kernel)) (by rfl) (by rfl) (by rfl) rfl rfl h1 hs h2 (by decide +kernel) (fun _ => rfl) (fun _ => rfl) (fun _ => rfl) (fun _ => ⟨_, rfl⟩) (by decide) (by decide) (by decide) (by decide)) c g (fun _ _ _ _ _ us hl => match us, hl with | [_, _], _ => rfl)
theorem sc_Rule_len : FnScope ["self"] ["self"] (defScope s_Rule_len) := by walk_at "sc"
theorem ok_Rule_len {f : Addr} {fd : FuncData} (F : FunD K "__len__" "Rule.__len__" (defArgs s_Rule_len) (defBody s_Rule_len) (defScope s_Rule_len) [] [] f fd) (B : Md w K mg) : FnOk P w K mg base (L2N.CX P w) 1 f fd ["self"] (spLenH K "Rule" "_rows") :=
  F.ok (k := 0) sc_Rule_len (fun vs H Q E h => by obtain ⟨_, _, _, _, _, rfl, _⟩ := h; rfl) (fun cdv A outer s H vs Q E hr h => ⟨_, pss_one (ps_ret (pe_callB call_lenA (by rfl) B.n_len PySem.boot_len (pa_cons (pe_fld (pe_var (i := 0) (by rfl) (.inl rfl)) (by rfl)) pa_nil))), by
    obtain ⟨a, dx, gs, l, xs, rfl, h1, h2, h3, q⟩ := h
    exact ⟨.ref a, rfl, a, _, dx, gs, .ref l, rfl, h1, B.cls_Rule, B.na_Rulerows, h2, .inl ⟨l, xs, rfl, .inl (.inl (.inl h3)), q⟩⟩⟩)
theorem sc_Rule_iter : FnScope ["self"] ["self"] (defScope s_Rule_iter) := by walk_at "sc"
theorem ok_Rule_iter {f : Addr} {fd : FuncData} (F : FunD K "__iter__" "Rule.__iter__" (defArgs s_Rule_iter) (defBody s_Rule_iter) (defScope s_Rule_iter) [] [] f fd) (B : Md w K mg) (hb : Binds K fd ["self"] []) : FnI P w K mg base 1 f "Rule" "_rows" :=
  fnI_of (k := 0) F sc_Rule_iter hb rfl (fun cdv A outer s H vs Q E h => ⟨_, pss_one (ps_ret (pe_callB ItX.call_iterN (by rfl) B.n_iter PyProof.Rows.boot_iter (pa_cons (pe_fld (pe_var (i := 0) (by rfl) (.inl rfl)) (by rfl)) pa_nil))), by
    obtain ⟨a, dx, gs, l, xs, rfl, h1, h2, h3, q⟩ := h
    exact ⟨.ref a, rfl, a, _, dx, gs, .ref l, rfl, h1, B.cls_Rule, B.na_Rulerows, h2, l, xs, rfl, .inl (.inl h3), fun it hn hs => q it hn hs⟩⟩)
theorem sc_entries_of : FnScope ["other"] ["other"] (defScope s_entries_of) := by walk_at "sc"
theorem ok_entries_of {f : Addr} {fd : FuncData} (F : FunD K "entries_of" "entries_of" (defArgs s_entries_of) (defBody s_entries_of) (defScope s_entries_of) [] [] f fd) (B : Md w K mg) (F_Rule_len : LenC P w K mg base "Rule" "_rows") (F_Rule_iter : IterC P w K mg base "Rule" "_rows") (F_expand : FnM P w K mg base 3 "expand" sp_expand) : FnOk P w K mg base (L2N.CX P w) (6) f fd ["other"] (lsp K sp_entries_of) :=
  def_ok (N := ["other"]) (k := 5) (t := w_entries_of) F sc_entries_of (by intro ds M Q E h; unfold sp_entries_of at h; rcases h with h | h <;> first | (obtain ⟨rfl, _⟩ := h; rfl) | (obtain ⟨_, rfl, _⟩ := h; rfl) | (obtain ⟨_, _, rfl, _⟩ := h; rfl) | (obtain ⟨_, _, _, rfl, _⟩ := h; rfl) | (obtain ⟨_, _, _, _, rfl, _⟩ := h; rfl) | (obtain ⟨_, _, _, _, _, rfl, _⟩ := h; rfl) | (obtain ⟨_, _, _, _, _, _, rfl, _⟩ := h; rfl) | (obtain ⟨_, _, _, _, _, _, _, rfl, _⟩ := h; rfl) | (obtain ⟨_, _, _, _, _, _, _, _, rfl, _⟩ := h; rfl) | (obtain ⟨_, _, _, _, _, _, _, _, _, rfl, _⟩ := h; rfl) | (obtain ⟨_, _, _, _, _, _, _, _, _, _, rfl, _⟩ := h; rfl) | (obtain ⟨_, _, _, _, _, _, _, _, _, _, _, rfl, _⟩ := h; rfl) | (obtain ⟨_, _, _, _, _, _, _, _, _, _, _, _, rfl, _⟩ := h; rfl) | (obtain ⟨_, _, _, _, _, _, _, _, _, _, _, _, _, rfl, _⟩ := h; rfl) | (obtain ⟨_, _, _, _, _, _, _, _, _, _, _, _, _, _, rfl, _⟩ := h; rfl) | (obtain ⟨_, _, _, _, _, _, _, _, _, _, _, _, _, _, _, rfl, _⟩ := h; rfl) | (obtain ⟨_, _, _, _, _, _, _, _, _, _, _, _, _, _, _, _, rfl, _⟩ := h; rfl) | (obtain ⟨_, _, _, _, _, _, _, _, _, _, _, _, _, _, _, _, _, rfl, _⟩ := h; rfl) | (obtain ⟨_, _, _, _, _, _, _, _, _, _, _, _, _, _, _, _, _, _, rfl, _⟩ := h; rfl) | (obtain ⟨_, _, _, _, _, _, _, _, _, _, _, _, _, _, _, _, _, _, _, rfl, _⟩ := h; rfl) | (obtain ⟨_, _, _, _, _, _, _, _, _, _, _, _, _, _, _, _, _, _, _, _, rfl, _⟩ := h; rfl) | (obtain ⟨_, _, _, _, _, _, _, _, _, _, _, _, _, _, _, _, _, _, _, _, _, rfl, _⟩ := h; rfl))
    (fun cdv A outer s H E G hr => by exact dss_cons (ds_if (dt_tru (de_callB (cb_isC B.is_Rule) call_isi B.n_isinstance PyProof.Rows.boot_isinstance (da_cons (de_var 0) (da_cons (de_cls B.k_Rule) (da_nil))))) (dss_one (ds_ret (de_callTy cb_listO (call_listO F_Rule_iter F_Rule_len G.calm (hr.mono (by omega))) B.n_list PyProof.Rows.boot_list (da_cons (de_var 0) (da_nil))))) (dss_nil)) (dss_cons (ds_if (dt_tru (de_callB cb_isi call_isi B.n_isinstance PyProof.Rows.boot_isinstance (da_cons (de_var 0) (da_cons (de_ty B.n_str PyProof.Rows.boot_str) (da_nil))))) (dss_one (ds_ret (de_frz (de_call F_expand G (hr.mono (by omega)) (da_cons (de_var 0) (da_nil)))))) (dss_nil)) (dss_one (ds_ret (de_non))))) p_entries_of
theorem sc_in_order : FnScope ["chosen", "entry"] ["chosen"] (defScope s_in_order) := by walk_at "sc"
theorem ok_in_order {f : Addr} {fd : FuncData} (F : FunD K "in_order" "in_order" (defArgs s_in_order) (defBody s_in_order) (defScope s_in_order) [] [] f fd) (B : Md w K mg) (F_all_entries : FnM P w K mg base 2 "all_entries" sp_all_entries) : FnOk P w K mg base (L2N.CX P w) (3) f fd ["chosen"] (lsp K sp_in_order) :=
  def_ok (N := ["chosen", "entry"]) (k := 2) (t := w_in_order) F sc_in_order (by walk_at "sl")
    (fun cdv A outer s H E G hr => by exact dss_one (ds_ret (de_frz (de_lc1 [("entry", 1)] G (di_any (de_frz (de_call0 F_all_entries G (hr.mono (by omega)) ))) (fun _ _ _ _ _ G => bk1 (dgw_name 1 G.nd) (dts_one (dt_cmp (op_inN G) od_in (de_var 1) (de_var 0) (by walk_at "hm"))) (de_var 1)))))) p_in_order
theorem sc_with_both : FnScope ["first", "second", "chosen", "entry"] ["first", "second"] (defScope s_with_both) := by walk_at "sc"
theorem ok_with_both {f : Addr} {fd : FuncData} (F : FunD K "with_both" "with_both" (defArgs s_with_both) (defBody s_with_both) (defScope s_with_both) [] [] f fd) (B : Md w K mg) (F_in_order : FnM P w K mg base 3 "in_order" sp_in_order) : FnOk P w K mg base (L2N.CX P w) (4) f fd ["first", "second"] (lsp K sp_with_both) :=
  def_ok (N := ["first", "second", "chosen", "entry"]) (k := 3) (t := w_with_both) F sc_with_both (by walk_at "sl")
    (fun cdv A outer s H E G hr => by exact dss_cons (by first | exact ds_setDc 2 [("entry", 3)] G (di_any (de_op op_addA od_add (de_var 0) (de_var 1))) (fun _ _ _ _ _ G => ⟨dgw_name 3 G.nd, dts_nil, de_var 3, de_bl⟩) | exact ds_set 2 G (de_dc [("entry", 3)] G (di_any (de_op op_addA od_add (de_var 0) (de_var 1))) (fun _ _ _ _ _ G => ⟨dgw_name 3 G.nd, dts_nil, de_var 3, de_bl⟩))) (dss_one (ds_ret (de_call F_in_order G (hr.mono (by omega)) (da_cons (de_var 2) (da_nil)))))) p_with_both
theorem sc_Rule_ior : FnScope ["self", "other", "rows"] ["self", "other"] (defScope s_Rule_ior) := by walk_at "sc"
theorem ok_Rule_ior {f : Addr} {fd : FuncData} (F : FunD K "__ior__" "Rule.__ior__" (defArgs s_Rule_ior) (defBody s_Rule_ior) (defScope s_Rule_ior) [] [] f fd) (B : Md w K mg) (F_entries_of : FnM P w K mg base 6 "entries_of" sp_entries_of) (F_with_both : FnM P w K mg base 4 "with_both" sp_with_both) : FnOk P w K mg base (L2N.CX P w) (7) f fd ["self", "other"] (lsp K sp_Rule_ior) :=
  def_ok (N := ["self", "other", "rows"]) (k := 6) (t := w_Rule_ior) F sc_Rule_ior (by intro ds M Q E h; unfold sp_Rule_ior at h; rcases h with h | h <;> first | (obtain ⟨rfl, _⟩ := h; rfl) | (obtain ⟨_, rfl, _⟩ := h; rfl) | (obtain ⟨_, _, rfl, _⟩ := h; rfl) | (obtain ⟨_, _, _, rfl, _⟩ := h; rfl) | (obtain ⟨_, _, _, _, rfl, _⟩ := h; rfl) | (obtain ⟨_, _, _, _, _, rfl, _⟩ := h; rfl) | (obtain ⟨_, _, _, _, _, _, rfl, _⟩ := h; rfl) | (obtain ⟨_, _, _, _, _, _, _, rfl, _⟩ := h; rfl) | (obtain ⟨_, _, _, _, _, _, _, _, rfl, _⟩ := h; rfl) | (obtain ⟨_, _, _, _, _, _, _, _, _, rfl, _⟩ := h; rfl) | (obtain ⟨_, _, _, _, _, _, _, _, _, _, rfl, _⟩ := h; rfl) | (obtain ⟨_, _, _, _, _, _, _, _, _, _, _, rfl, _⟩ := h; rfl) | (obtain ⟨_, _, _, _, _, _, _, _, _, _, _, _, rfl, _⟩ := h; rfl) | (obtain ⟨_, _, _, _, _, _, _, _, _, _, _, _, _, rfl, _⟩ := h; rfl) | (obtain ⟨_, _, _, _, _, _, _, _, _, _, _, _, _, _, rfl, _⟩ := h; rfl) | (obtain ⟨_, _, _, _, _, _, _, _, _, _, _, _, _, _, _, rfl, _⟩ := h; rfl) | (obtain ⟨_, _, _, _, _, _, _, _, _, _, _, _, _, _, _, _, rfl, _⟩ := h; rfl) | (obtain ⟨_, _, _, _, _, _, _, _, _, _, _, _, _, _, _, _, _, rfl, _⟩ := h; rfl) | (obtain ⟨_, _, _, _, _, _, _, _, _, _, _, _, _, _, _, _, _, _, rfl, _⟩ := h; rfl) | (obtain ⟨_, _, _, _, _, _, _, _, _, _, _, _, _, _, _, _, _, _, _, rfl, _⟩ := h; rfl) | (obtain ⟨_, _, _, _, _, _, _, _, _, _, _, _, _, _, _, _, _, _, _, _, rfl, _⟩ := h; rfl) | (obtain ⟨_, _, _, _, _, _, _, _, _, _, _, _, _, _, _, _, _, _, _, _, _, rfl, _⟩ := h; rfl))
    (fun cdv A outer s H E G hr => by exact dss_cons (ds_set 2 G (de_call F_entries_of G (hr.mono (by omega)) (da_cons (de_var 1) (da_nil)))) (dss_cons (ds_if (dt_cmp op_isN od_isN (de_var 2) (de_non) (by walk_at "hm")) (dss_one (ds_never)) (dss_nil)) (dss_cons (ds_setF B.cls_Rule B.na_Rulerows (de_var 0) (de_call F_with_both G (hr.mono (by omega)) (da_cons (de_fld B.cls_Rule B.na_Rulerows (de_var 0)) (da_cons (de_var 2) (da_nil))))) (dss_one (ds_ret (de_var 0)))))) p_Rule_ior
theorem sc_Rule_read : FnScope ["cls", "text", "rule", "at", "line", "why"] ["cls", "text"] (defScope s_Rule_read) := by walk_at "sc"
theorem ok_Rule_read {f : Addr} {fd : FuncData} (F : FunD K "read" "Rule.read" (defArgs s_Rule_read) (defBody s_Rule_read) (defScope s_Rule_read) [] [] f fd) (B : Md w K mg) (F_Rule_init : FnC P w K mg base 5 "Rule" "__init__" (starSp 1 sp_Rule_init)) (F_InvalidRule_init : FnE P w K mg base 1 "InvalidRule" "line") (F_InvalidEntry_init : FnE P w K mg base 1 "InvalidEntry" "text") (F_Rule_ior : FnC P w K mg base 7 "Rule" "__ior__" sp_Rule_ior) (FH_InvalidRule_init : FnEH P w K mg base 1 "InvalidRule" "line") : FnOk P w K mg base (L2.CX P w) (8) f fd ["cls", "text"] (lsp K sp_Rule_read) :=
  def_okX (N := ["cls", "text", "rule", "at", "line", "why"]) (k := 7) (t := w_Rule_read) F sc_Rule_read (by walk_at "sl")
    (fun cdv A outer s H E G GX hr => by exact dss_cons (ds_set 2 G (de_makeV0 0 F_Rule_init B.mk_Rule G (hr.mono (by omega)))) (dss_cons (ds_if (dt_cmp (op_eqN G) od_eq (de_var 1) (de_strc (by decide +kernel)) (by walk_at "hm")) (dss_one (ds_ret (de_var 2))) (dss_nil)) (dss_cons (ds_for G (di_enum B.n_enumerate (da_cons (de_mt PySem.F.plainAttrs_str PySem.F.slot_str_split PySem.F.type_str_split md_split mt_split (de_var 1) (da_cons (de_strc (by decide +kernel)) (da_nil))) (da_nil))) (dg_tup G (dgs_cons 3 G.nd (dgs_cons 4 G.nd (dgs_nil)))) (dss_one (ds_tryrf 5 B.exs_InvalidEntry F_InvalidEntry_init.T FH_InvalidRule_init G GX (hr.mono (by omega)) B.k_InvalidEntry (fun W1 pn xe G => dss_one (ds_augO (op := .BitOr) 2 F_Rule_ior B.sf_Rule G (hr.mono (by omega)) (de_var 4))) (fun a pn xe W1 => de_op op_addA od_add (de_var 3) (de_int))))) (dss_one (ds_ret (de_var 2)))))) p_Rule_read
theorem sc_l_told : FnScope ["_law_text", "e"] ["_law_text"] (defScope s_l_told) := by walk_at "sc"
theorem ok_l_told {f : Addr} {fd : FuncData} (F : FunD K "_law_told" "_law_told" (defArgs s_l_told) (defBody s_l_told) (defScope s_l_told) [] [] f fd) (B : Md w K mg) (F_Rule_read : FnKX P w K mg base 8 "Rule" "read" sp_Rule_read) : FnOk P w K mg base (L2N.CX P w) (9) f fd ["_law_text"] (lsp K sp_l_told) :=
  def_ok (N := ["_law_text", "e"]) (k := 8) (t := w_l_told) F sc_l_told (by walk_at "sl")
    (fun cdv A outer s H E G hr => by exact dss_cons (ds_tryasL 1 B.errT_all G B.k_LentError (fun W1 pn xe G GX => dss_one (ds_ret (de_tup (da_cons (de_str) (da_cons (de_cmethX F_Rule_read B.rd_Rule GX (hr.mono (by omega)) B.k_Rule (da_cons (de_var 0) (da_nil))) (da_nil)))))) (fun a dd C oe pn hC hz hf => dss_cons (ds_if (dt_tru (de_callB (cb_isE B.errT_all hC) (call_isEx B.errT_all hC hz hf) B.n_isinstance PyProof.Rows.boot_isinstance (da_cons (de_var 1) (da_cons (de_tup (da_cons (de_cls B.k_InvalidPlace) (da_cons (de_cls B.k_NotBeneath) (da_cons (de_cls B.k_InvalidEntry) (da_cons (de_cls B.k_InvalidPromise) (da_cons (de_cls B.k_InvalidProgram) (da_cons (de_cls B.k_InvalidName) (da_nil)))))))) (da_nil))))) (dss_one (ds_ret (de_tup (da_cons (de_str) (da_cons (de_int) (da_nil)))))) (dss_nil)) (dss_cons (ds_if (dt_tru (de_callB (cb_isE B.errT_all hC) (call_isEx B.errT_all hC hz hf) B.n_isinstance PyProof.Rows.boot_isinstance (da_cons (de_var 1) (da_cons (de_tup (da_cons (de_cls B.k_OverPower) (da_cons (de_cls B.k_Stale) (da_cons (de_cls B.k_NotSharing) (da_cons (de_cls B.k_NotMendable) (da_cons (de_cls B.k_Unsound) (da_cons (de_cls B.k_TooMany) (da_nil)))))))) (da_nil))))) (dss_one (ds_ret (de_tup (da_cons (de_str) (da_cons (de_int) (da_nil)))))) (dss_nil)) (dss_one (ds_if (dt_w (dw_and (dt_tru (de_callB (cb_isE B.errT_all hC) (call_isEx B.errT_all hC hz hf) B.n_isinstance PyProof.Rows.boot_isinstance (da_cons (de_var 1) (da_cons (de_cls B.k_InvalidRule) (da_nil))))) (dw_and1 (dt_tru (de_callB (cb_isE B.errT_all hC) (call_isEx B.errT_all hC hz hf) B.n_isinstance PyProof.Rows.boot_isinstance (da_cons (de_var 1) (da_cons (de_ty B.n_ValueError PyProof.Rows.Boot.«ValueError») (da_nil)))))))) (dss_one (ds_ret (de_tup (da_cons (de_str) (da_cons (de_xf B.errT_all hC (B.errno_line _ hC) hz hf (de_var 1)) (da_nil)))))) (dss_nil)))))) (dss_one (ds_ret (de_tup (da_cons (de_str) (da_cons (de_int) (da_nil))))))) p_l_told
theorem sc_l_is_pattern : FnScope ["_law_text", "_law_parts", "_law_k", "_law_known", "_law_word"] ["_law_text"] (defScope s_l_is_pattern) := by walk_at "sc"
theorem ok_l_is_pattern {f : Addr} {fd : FuncData} (F : FunD K "_law_is_pattern" "_law_is_pattern" (defArgs s_l_is_pattern) (defBody s_l_is_pattern) (defScope s_l_is_pattern) [] [] f fd) (B : Md w K mg) (F_l_standings : FnM P w K mg base 1 "_law_standings" sp_l_standings) (F_l_deeds : FnM P w K mg base 1 "_law_deeds" sp_l_deeds) (F_l_relations : FnM P w K mg base 1 "_law_relations" sp_l_relations) : FnOk P w K mg base (L2N.CX P w) (2) f fd ["_law_text"] (lsp K sp_l_is_pattern) :=
  def_ok (N := ["_law_text", "_law_parts", "_law_k", "_law_known", "_law_word"]) (k := 1) (t := w_l_is_pattern) F sc_l_is_pattern (by walk_at "sl")
    (fun cdv A outer s H E G hr => by exact dss_cons (ds_set 1 G (de_mt PySem.F.plainAttrs_str PySem.F.slot_str_split PySem.F.type_str_split md_split mt_split (de_var 0) (da_cons (de_strc (by decide +kernel)) (da_nil)))) (dss_cons (ds_if (dt_cmp (op_neN G) od_eq (de_callB cb_len call_lenA B.n_len PySem.boot_len (da_cons (de_var 1) (da_nil))) (de_int) (by walk_at "hm")) (dss_one (ds_ret (de_bl))) (dss_nil)) (dss_cons (ds_for G (di_rng1 B.n_range (da_cons (de_int) (da_nil))) (dg_name 2 G.nd) (dss_cons (ds_set 3 G (de_ix G (de_lst (da_cons (de_call0 F_l_standings G (hr.mono (by omega)) ) (da_cons (de_call0 F_l_deeds G (hr.mono (by omega)) ) (da_cons (de_call0 F_l_relations G (hr.mono (by omega)) ) (da_nil))))) (de_var 2))) (dss_one (ds_if (dt_w (dw_and (dt_cmp (op_neN G) od_eq (de_ix G (de_var 1) (de_var 2)) (de_strc (by decide +kernel)) (by walk_at "hm")) (dw_and1 (dt_not (dt_tru (de_callB cb_all (cr_all G.calm) B.n_all PyProof.Rows.boot_all (da_cons (de_frz (de_lc1 [("_law_word", 4)] G (di_any (de_mt PySem.F.plainAttrs_str PySem.F.slot_str_split PySem.F.type_str_split md_split mt_split (de_ix G (de_var 1) (de_var 2)) (da_cons (de_strc (by decide +kernel)) (da_nil)))) (fun _ _ _ _ _ G => bk1 (dgw_name 4 G.nd) (dts_nil) (de_cmp (op_inN G) od_in (de_var 4) (de_var 3) (by walk_at "hm"))))) (da_nil)))))))) (dss_one (ds_ret (de_bl))) (dss_nil))))) (dss_one (ds_ret (de_bl)))))) p_l_is_pattern
theorem sc_l_same_row : FnScope ["_law_actual", "_law_expected", "_law_k"] ["_law_actual", "_law_expected"] (defScope s_l_same_row) := by walk_at "sc"
theorem ok_l_same_row {n k : Nat} {f : Addr} {fd : FuncData} (F : FunD K "_law_same_row" "_law_same_row" (defArgs s_l_same_row) (defBody s_l_same_row) (defScope s_l_same_row) [] [] f fd) (B : Md w K mg) (F_l_same : FnM P w K mg base k "_law_same" (sp_l_same n)) : FnOk P w K mg base (L2N.CX P w) (k + 1) f fd ["_law_actual", "_law_expected"] (lsp K (sp_l_same_row (n + 1))) :=
  def_ok (N := ["_law_actual", "_law_expected", "_law_k"]) (k := k) (t := (w_l_same_row n)) F sc_l_same_row (by walk_at "sl")
    (fun cdv A outer s H E G hr => by exact dss_cons (ds_if (dt_cmp (op_neN G) od_eq (de_callB cb_len call_lenA B.n_len PySem.boot_len (da_cons (de_var 0) (da_nil))) (de_callB cb_len call_lenA B.n_len PySem.boot_len (da_cons (de_var 1) (da_nil))) (by walk_at "hm")) (dss_one (ds_ret (de_bl))) (dss_nil)) (dss_cons (ds_for G (di_rng1 B.n_range (da_cons (de_callB cb_len call_lenA B.n_len PySem.boot_len (da_cons (de_var 1) (da_nil))) (da_nil))) (dg_name 2 G.nd) (dss_one (ds_if (dt_not (dt_tru (de_call F_l_same G (hr.mono (by omega)) (da_cons (de_ix G (de_var 0) (de_var 2)) (da_cons (de_ix G (de_var 1) (de_var 2)) (da_nil)))))) (dss_one (ds_ret (de_bl))) (dss_nil)))) (dss_one (ds_ret (de_bl))))) (p_l_same_row n)
theorem sc_l_same : FnScope ["_law_actual", "_law_expected"] ["_law_actual", "_law_expected"] (defScope s_l_same) := by walk_at "sc"
theorem ok_l_same {n k : Nat} {f : Addr} {fd : FuncData} (F : FunD K "_law_same" "_law_same" (defArgs s_l_same) (defBody s_l_same) (defScope s_l_same) [] [] f fd) (B : Md w K mg) (F_l_same_row : FnM P w K mg base k "_law_same_row" (sp_l_same_row n)) : FnOk P w K mg base (L2N.CX P w) (k + 1) f fd ["_law_actual", "_law_expected"] (lsp K (sp_l_same n)) :=
  def_ok (N := ["_law_actual", "_law_expected"]) (k := k) (t := (w_l_same n)) F sc_l_same (by walk_at "sl")
    (fun cdv A outer s H E G hr => by exact dss_cons (ds_if (dt_cmp op_isN od_isN (de_var 1) (de_non) (by walk_at "hm")) (dss_one (ds_ret (de_cmp op_isN od_isN (de_var 0) (de_non) (by walk_at "hm")))) (dss_nil)) (dss_cons (ds_if (dt_tru (de_callB cb_isi call_isi B.n_isinstance PyProof.Rows.boot_isinstance (da_cons (de_var 1) (da_cons (de_ty B.n_bool PyProof.Rows.boot_bool) (da_nil))))) (dss_one (ds_ret (de_and (de_callB cb_isi call_isi B.n_isinstance PyProof.Rows.boot_isinstance (da_cons (de_var 0) (da_cons (de_ty B.n_bool PyProof.Rows.boot_bool) (da_nil)))) (de_one (de_cmp (op_eqN G) od_eq (de_var 0) (de_var 1) (by walk_at "hm")))))) (dss_nil)) (dss_cons (ds_if (dt_tru (de_callB cb_isi call_isi B.n_isinstance PyProof.Rows.boot_isinstance (da_cons (de_var 1) (da_cons (de_ty B.n_int PyProof.Rows.boot_int) (da_nil))))) (dss_one (ds_ret (de_and (de_callB cb_isi call_isi B.n_isinstance PyProof.Rows.boot_isinstance (da_cons (de_var 0) (da_cons (de_ty B.n_int PyProof.Rows.boot_int) (da_nil)))) (de_and (de_not (de_callB cb_isi call_isi B.n_isinstance PyProof.Rows.boot_isinstance (da_cons (de_var 0) (da_cons (de_ty B.n_bool PyProof.Rows.boot_bool) (da_nil))))) (de_one (de_cmp (op_eqN G) od_eq (de_var 0) (de_var 1) (by walk_at "hm"))))))) (dss_nil)) (dss_cons (ds_if (dt_tru (de_callB cb_isi call_isi B.n_isinstance PyProof.Rows.boot_isinstance (da_cons (de_var 1) (da_cons (de_ty B.n_str PyProof.Rows.boot_str) (da_nil))))) (dss_one (ds_ret (de_and (de_callB cb_isi call_isi B.n_isinstance PyProof.Rows.boot_isinstance (da_cons (de_var 0) (da_cons (de_ty B.n_str PyProof.Rows.boot_str) (da_nil)))) (de_one (de_cmp (op_eqN G) od_eq (de_var 0) (de_var 1) (by walk_at "hm")))))) (dss_nil)) (dss_cons (ds_if (dt_tru (de_callB cb_isi call_isi B.n_isinstance PyProof.Rows.boot_isinstance (da_cons (de_var 1) (da_cons (de_ty B.n_list PyProof.Rows.boot_list) (da_nil))))) (dss_one (ds_ret (de_and (de_callB cb_isi call_isi B.n_isinstance PyProof.Rows.boot_isinstance (da_cons (de_var 0) (da_cons (de_ty B.n_list PyProof.Rows.boot_list) (da_nil)))) (de_one (de_call F_l_same_row G (hr.mono (by omega)) (da_cons (de_var 0) (da_cons (de_var 1) (da_nil)))))))) (dss_nil)) (dss_one (ds_ret (de_and (de_callB cb_isi call_isi B.n_isinstance PyProof.Rows.boot_isinstance (da_cons (de_var 0) (da_cons (de_ty B.n_tuple PyProof.Rows.boot_tuple) (da_nil)))) (de_one (de_call F_l_same_row G (hr.mono (by omega)) (da_cons (de_var 0) (da_cons (de_var 1) (da_nil))))))))))))) (p_l_same n)
theorem sc_l_entries : FnScope ["_law_rows", "_law_standing", "_law_deed", "_law_word"] [] (defScope s_l_entries) := by walk_at "sc"
theorem ok_l_entries {f : Addr} {fd : FuncData} (F : FunD K "_law_entries" "_law_entries" (defArgs s_l_entries) (defBody s_l_entries) (defScope s_l_entries) [] [] f fd) (B : Md w K mg) (F_l_standings : FnM P w K mg base 1 "_law_standings" sp_l_standings) (F_l_deeds : FnM P w K mg base 1 "_law_deeds" sp_l_deeds) (F_l_relations : FnM P w K mg base 1 "_law_relations" sp_l_relations) : FnOk P w K mg base (L2N.CX P w) (2) f fd [] (lsp K sp_l_entries) :=
  def_ok (N := ["_law_rows", "_law_standing", "_law_deed", "_law_word"]) (k := 1) (t := w_l_entries) F sc_l_entries (by walk_at "sl")
    (fun cdv A outer s H E G hr => by exact dss_cons (ds_set 0 G (de_lstM (da_nil))) (dss_cons (ds_for G (di_any (de_call0 F_l_standings G (hr.mono (by omega)) )) (dg_name 1 G.nd) (dss_one (ds_for G (di_any (de_call0 F_l_deeds G (hr.mono (by omega)) )) (dg_name 2 G.nd) (dss_one (ds_for G (di_any (de_call0 F_l_relations G (hr.mono (by omega)) )) (dg_name 3 G.nd) (dss_one (ds_expr (de_mt PySem.F.plainAttrs_list PySem.F.slot_list_append PySem.F.type_list_append md_append mt_append (de_var 0) (da_cons (de_op op_addA od_add (de_op op_addA od_add (de_op op_addA od_add (de_op op_addA od_add (de_var 1) (de_strc (by decide +kernel))) (de_var 2)) (de_strc (by decide +kernel))) (de_var 3)) (da_nil)))))))))) (dss_one (ds_ret (de_frz (de_var 0)))))) p_l_entries
theorem sc_l_matched : FnScope ["_law_pattern_here", "_law_parts", "_law_part", "_law_rows", "_law_entry", "_law_words_here", "_law_k"] ["_law_pattern_here"] (defScope s_l_matched) := by walk_at "sc"
theorem ok_l_matched {f : Addr} {fd : FuncData} (F : FunD K "_law_matched" "_law_matched" (defArgs s_l_matched) (defBody s_l_matched) (defScope s_l_matched) [] [] f fd) (B : Md w K mg) (F_l_entries : FnM P w K mg base 2 "_law_entries" sp_l_entries) : FnOk P w K mg base (L2N.CX P w) (3) f fd ["_law_pattern_here"] (lsp K sp_l_matched) :=
  def_ok (N := ["_law_pattern_here", "_law_parts", "_law_part", "_law_rows", "_law_entry", "_law_words_here", "_law_k"]) (k := 2) (t := w_l_matched) F sc_l_matched (by walk_at "sl")
    (fun cdv A outer s H E G hr => by exact dss_cons (by first | exact ds_setLc1 1 [("_law_part", 2)] G (di_any (de_mt PySem.F.plainAttrs_str PySem.F.slot_str_split PySem.F.type_str_split md_split mt_split (de_var 0) (da_cons (de_strc (by decide +kernel)) (da_nil)))) (fun _ _ _ _ _ G => bk1 (dgw_name 2 G.nd) (dts_nil) (de_mt PySem.F.plainAttrs_str PySem.F.slot_str_split PySem.F.type_str_split md_split mt_split (de_var 2) (da_cons (de_strc (by decide +kernel)) (da_nil)))) lc_frz | exact ds_set 1 G (de_frz (de_lc1 [("_law_part", 2)] G (di_any (de_mt PySem.F.plainAttrs_str PySem.F.slot_str_split PySem.F.type_str_split md_split mt_split (de_var 0) (da_cons (de_strc (by decide +kernel)) (da_nil)))) (fun _ _ _ _ _ G => bk1 (dgw_name 2 G.nd) (dts_nil) (de_mt PySem.F.plainAttrs_str PySem.F.slot_str_split PySem.F.type_str_split md_split mt_split (de_var 2) (da_cons (de_strc (by decide +kernel)) (da_nil))))))) (dss_cons (ds_set 3 G (de_lstM (da_nil))) (dss_cons (ds_for G (di_any (de_call0 F_l_entries G (hr.mono (by omega)) )) (dg_name 4 G.nd) (dss_cons (ds_set 5 G (de_mt PySem.F.plainAttrs_str PySem.F.slot_str_split PySem.F.type_str_split md_split mt_split (de_var 4) (da_cons (de_strc (by decide +kernel)) (da_nil)))) (dss_one (ds_if (dt_tru (de_callB cb_all (cr_all G.calm) B.n_all PyProof.Rows.boot_all (da_cons (de_frz (de_lc1 [("_law_k", 6)] G (di_rng1 B.n_range (da_cons (de_int) (da_nil))) (fun _ _ _ _ _ G => bk1 (dgw_name 6 G.nd) (dts_nil) (de_or (de_cmp (op_eqN G) od_eq (de_ix G (de_var 1) (de_var 6)) (de_lst (da_cons (de_strc (by decide +kernel)) (da_nil))) (by walk_at "hm")) (de_one (de_cmp (op_inN G) od_in (de_ix G (de_var 5) (de_var 6)) (de_ix G (de_var 1) (de_var 6)) (by walk_at "hm"))))))) (da_nil)))) (dss_one (ds_expr (de_mt PySem.F.plainAttrs_list PySem.F.slot_list_append PySem.F.type_list_append md_append mt_append (de_var 3) (da_cons (de_var 4) (da_nil))))) (dss_nil))))) (dss_one (ds_ret (de_frz (de_var 3))))))) p_l_matched
theorem sc_l_judged : FnScope ["_law_text", "_law_told_here", "_law_wanted", "_law_lines", "_law_k", "_law_entry"] ["_law_text"] (defScope s_l_judged) := by walk_at "sc"
theorem ok_l_judged {f : Addr} {fd : FuncData} (F : FunD K "_law_judged" "_law_judged" (defArgs s_l_judged) (defBody s_l_judged) (defScope s_l_judged) [] [] f fd) (B : Md w K mg) (F_l_told : FnM P w K mg base 9 "_law_told" sp_l_told) (F_l_is_pattern : FnM P w K mg base 2 "_law_is_pattern" sp_l_is_pattern) (F_l_same : FnM P w K mg base 17 "_law_same" (sp_l_same 8)) (F_l_matched : FnM P w K mg base 3 "_law_matched" sp_l_matched) (F_Rule_len : LenC P w K mg base "Rule" "_rows") (F_Rule_iter : IterC P w K mg base "Rule" "_rows") (F_l_entries : FnM P w K mg base 2 "_law_entries" sp_l_entries) : FnOk P w K mg base (L2N.CX P w) (18) f fd ["_law_text"] (lsp K sp_l_judged) :=
  def_ok (N := ["_law_text", "_law_told_here", "_law_wanted", "_law_lines", "_law_k", "_law_entry"]) (k := 17) (t := w_l_judged) F sc_l_judged (by walk_at "sl")
    (fun cdv A outer s H E G hr => by exact dss_cons (ds_set 1 G (de_call F_l_told G (hr.mono (by omega)) (da_cons (de_var 0) (da_nil)))) (dss_cons (ds_set 2 G (de_dict0)) (dss_cons (ds_if (dt_cmp (op_neN G) od_eq (de_var 0) (de_strc (by decide +kernel)) (by walk_at "hm")) (dss_cons (ds_set 3 G (de_mt PySem.F.plainAttrs_str PySem.F.slot_str_split PySem.F.type_str_split md_split mt_split (de_var 0) (da_cons (de_strc (by decide +kernel)) (da_nil)))) (dss_one (ds_for G (di_rng1 B.n_range (da_cons (de_callB cb_len call_lenA B.n_len PySem.boot_len (da_cons (de_var 3) (da_nil))) (da_nil))) (dg_name 4 G.nd) (dss_cons (ds_if (dt_not (dt_tru (de_call F_l_is_pattern G (hr.mono (by omega)) (da_cons (de_ix G (de_var 3) (de_var 4)) (da_nil))))) (dss_one (ds_ret (de_call F_l_same G (hr.mono (by omega)) (da_cons (de_var 1) (da_cons (de_tup (da_cons (de_str) (da_cons (de_op op_addA od_add (de_var 4) (de_int)) (da_nil)))) (da_nil)))))) (dss_nil)) (dss_one (ds_for G (di_any (de_call F_l_matched G (hr.mono (by omega)) (da_cons (de_ix G (de_var 3) (de_var 4)) (da_nil)))) (dg_name 5 G.nd) (dss_one (ds_asg (de_bl) (dg_setA G (de_var 2) (de_var 5)))))))))) (dss_nil)) (dss_cons (ds_if (dt_w (dw_or (dt_cmp (op_neN G) od_eq (de_ix G (de_var 1) (de_int)) (de_str) (by walk_at "hm")) (dw_or1 (dt_not (dt_tru (de_callB (cb_isC B.is_Rule) call_isi B.n_isinstance PyProof.Rows.boot_isinstance (da_cons (de_ix G (de_var 1) (de_int)) (da_cons (de_cls B.k_Rule) (da_nil))))))))) (dss_one (ds_ret (de_bl))) (dss_nil)) (dss_one (ds_ret (de_call F_l_same G (hr.mono (by omega)) (da_cons (de_callTy cb_listO (call_listO F_Rule_iter F_Rule_len G.calm (hr.mono (by omega))) B.n_list PyProof.Rows.boot_list (da_cons (de_ix G (de_var 1) (de_int)) (da_nil))) (da_cons (de_frz (de_lc1 [("_law_entry", 5)] G (di_any (de_call0 F_l_entries G (hr.mono (by omega)) )) (fun _ _ _ _ _ G => bk1 (dgw_name 5 G.nd) (dts_one (dt_cmp (op_inN G) od_in (de_var 5) (de_var 2) (by walk_at "hm"))) (de_var 5)))) (da_nil)))))))))) p_l_judged
theorem sc_law : FnScope ["_law_script", "_law_source", "_law_count", "_law_times", "_law_faults", "_law_kind", "_law_where", "_law_spoilt_here", "_law_k", "_law_at", "_law_good", "_law_lines", "_law_odd", "_law_text"] ["_law_script"] (defScope s_law) := by walk_at "sc"
theorem ok_law {f : Addr} {fd : FuncData} (F : FunD K "law" "law" (defArgs s_law) (defBody s_law) (defScope s_law) [] [] f fd) (B : Md w K mg) (F_l_begin : FnM P w K mg base 1 "_law_begin" sp_l_begin) (F_l_draw : FnM P w K mg base 1 "_law_draw" sp_l_draw) (F_l_pick : FnM P w K mg base 2 "_law_pick" sp_l_pick) (F_l_spoilt : FnM P w K mg base 4 "_law_spoilt" sp_l_spoilt) (F_l_pattern : FnM P w K mg base 4 "_law_pattern" sp_l_pattern) (F_l_judged : FnM P w K mg base 18 "_law_judged" sp_l_judged) : FnOk P w K mg base (L2N.CX P w) (19) f fd ["_law_script"] (lsp K sp_law) :=
  def_ok (N := ["_law_script", "_law_source", "_law_count", "_law_times", "_law_faults", "_law_kind", "_law_where", "_law_spoilt_here", "_law_k", "_law_at", "_law_good", "_law_lines", "_law_odd", "_law_text"]) (k := 18) (t := w_law) F sc_law (by walk_at "sl")
    (fun cdv A outer s H E G hr => by exact dss_cons (ds_set 1 G (de_call F_l_begin G (hr.mono (by omega)) (da_cons (de_var 0) (da_nil)))) (dss_cons (ds_set 2 G (de_op op_addA od_add (de_int) (de_call F_l_draw G (hr.mono (by omega)) (da_cons (de_var 1) (da_cons (de_int) (da_nil)))))) (dss_cons (ds_set 3 G (de_call F_l_pick G (hr.mono (by omega)) (da_cons (de_var 1) (da_cons (de_lst (da_cons (de_int) (da_cons (de_int) (da_cons (de_int) (da_cons (de_int) (da_cons (de_int) (da_cons (de_int) (da_cons (de_int) (da_cons (de_int) (da_nil)))))))))) (da_nil))))) (dss_cons (ds_set 4 G (de_call F_l_pick G (hr.mono (by omega)) (da_cons (de_var 1) (da_cons (de_lst (da_cons (de_int) (da_cons (de_int) (da_cons (de_int) (da_cons (de_int) (da_nil)))))) (da_nil))))) (dss_cons (ds_set 5 G (de_call F_l_draw G (hr.mono (by omega)) (da_cons (de_var 1) (da_cons (de_int) (da_nil))))) (dss_cons (ds_set 6 G (de_call F_l_draw G (hr.mono (by omega)) (da_cons (de_var 1) (da_cons (de_op op_addA od_add (de_op op_mul od_mul (de_var 2) (de_var 3)) (de_int)) (da_nil))))) (dss_cons (ds_set 7 G (de_lstM (da_nil))) (dss_cons (ds_for G (di_rng1 B.n_range (da_cons (de_var 4) (da_nil))) (dg_name 8 G.nd) (dss_cons (ds_set 9 G (de_call F_l_draw G (hr.mono (by omega)) (da_cons (de_var 1) (da_cons (de_op op_mul od_mul (de_var 2) (de_var 3)) (da_nil))))) (dss_one (ds_expr (de_mt PySem.F.plainAttrs_list PySem.F.slot_list_append PySem.F.type_list_append md_append mt_append (de_var 7) (da_cons (de_tup (da_cons (de_var 9) (da_cons (de_call F_l_spoilt G (hr.mono (by omega)) (da_cons (de_var 1) (da_cons (de_call F_l_pattern G (hr.mono (by omega)) (da_cons (de_var 1) (da_nil))) (da_nil)))) (da_nil)))) (da_nil))))))) (dss_cons (ds_set 10 G (de_op op_rep od_rep (de_frz (de_lc1 [("_law_k", 8)] G (di_rng1 B.n_range (da_cons (de_var 2) (da_nil))) (fun _ _ _ _ _ G => bk1 (dgw_name 8 G.nd) (dts_nil) (de_call F_l_pattern G (hr.mono (by omega)) (da_cons (de_var 1) (da_nil)))))) (de_var 3))) (dss_cons (ds_set 11 G (de_callTy cb_listM call_list_of B.n_list PyProof.Rows.boot_list (da_cons (de_var 10) (da_nil)))) (dss_fz 7 (dss_cons (ds_for G (di_any (de_var 7)) (dg_tup G (dgs_cons 9 G.nd (dgs_cons 12 G.nd (dgs_nil)))) (dss_one (ds_asg (de_var 12) (dg_setA G (de_var 11) (de_var 9))))) (dss_cons (ds_if (dt_cmp (op_eqN G) od_eq (de_var 5) (de_int) (by walk_at "hm")) (dss_one (ds_expr (de_mt PySem.F.plainAttrs_list PySem.F.slot_list_insert PySem.F.type_list_insert md_insert mt_insert (de_var 11) (da_cons (de_var 6) (da_cons (de_strc (by decide +kernel)) (da_nil)))))) (dss_one (ds_if (dt_cmp (op_eqN G) od_eq (de_var 5) (de_int) (by walk_at "hm")) (dss_one (ds_expr (de_mt PySem.F.plainAttrs_list PySem.F.slot_list_append PySem.F.type_list_append md_append mt_append (de_var 11) (da_cons (de_strc (by decide +kernel)) (da_nil))))) (dss_nil)))) (dss_cons (ds_for G (di_any (de_lst (da_cons (de_mt PySem.F.plainAttrs_str PySem.F.slot_str_join PySem.F.type_str_join md_join mt_join (de_strc (by decide +kernel)) (da_cons (de_var 11) (da_nil))) (da_cons (de_mt PySem.F.plainAttrs_str PySem.F.slot_str_join PySem.F.type_str_join md_join mt_join (de_strc (by decide +kernel)) (da_cons (de_var 10) (da_nil))) (da_cons (de_strc (by decide +kernel)) (da_cons (de_mt PySem.F.plainAttrs_str PySem.F.slot_str_join PySem.F.type_str_join md_join mt_join (de_strc (by decide +kernel)) (da_cons (de_var 11) (da_nil))) (da_nil))))))) (dg_name 13 G.nd) (dss_one (ds_if (dt_not (dt_tru (de_call F_l_judged G (hr.mono (by omega)) (da_cons (de_var 13) (da_nil))))) (dss_one (ds_ret (de_bl))) (dss_nil)))) (dss_one (ds_ret (de_bl))))))))))))))))) p_law
end
theorem facts {P : Program} {w : World} {K : PySem.W.Frag} {h : Heap} {mg : Str → Option Value} {f : Addr} (X : K.In h) (G : h.Ns mainGlobals mg) (hfa : mg ("law" : Str) = some (.ref f)) (hP1 : (P.main.file == PySem.Challenge.pw_lentahead_k13_rules_read_from_lines.main.file) = true) (hP2 : (P.main.scope.names.lookup ("super" : Str)).isSome = false) (c : DL.SaysE fa fn gb ts fx fe w K) :
    ∃ fd : FuncData, (∀ (s : Shared) (v : Value), BindsTo s fd ⟨[v], []⟩ [("_law_script", v)]) ∧ ∀ base : Heap, K.In base → base.Ns mainGlobals mg → FnOk P w K mg base (L2N.CX P w) 19 f fd ["_law_script"] (lsp K sp_law) := by
  have B : Md w K mg := ⟨(He.free_ok X G (c.z.y.x.d.fact 30 (f := .free "ValueError") rfl)), (He.free_ok X G (c.z.y.x.d.fact 31 (f := .free "all") rfl)), (He.free_ok X G (c.z.y.x.d.fact 32 (f := .free "bool") rfl)), (He.free_ok X G (c.z.y.x.d.fact 33 (f := .free "enumerate") rfl)), (He.free_ok X G (c.z.y.x.d.fact 34 (f := .free "int") rfl)), (He.free_ok X G (c.z.y.x.d.fact 35 (f := .free "isinstance") rfl)), (He.free_ok X G (c.z.y.x.d.fact 36 (f := .free "iter") rfl)), (He.free_ok X G (c.z.y.x.d.fact 37 (f := .free "len") rfl)), (He.free_ok X G (c.z.y.x.d.fact 38 (f := .free "list") rfl)), (He.free_ok X G (c.z.y.x.d.fact 39 (f := .free "range") rfl)), (He.free_ok X G (c.z.y.x.d.fact 40 (f := .free "str") rfl)), (He.free_ok X G (c.z.y.x.d.fact 41 (f := .free "super") rfl)), (He.free_ok X G (c.z.y.x.d.fact 42 (f := .free "tuple") rfl)), (He.glo_ok X G (c.z.y.x.d.fact 43 (f := .glo "DEEDS") rfl)), (DL.tupF_ok (He.glo_ok X G (c.z.y.x.d.fact 43 (f := .glo "DEEDS") rfl)) (c.z.y.x.b 4 rfl)), (He.glo_ok X G (c.z.y.x.d.fact 44 (f := .glo "RELATIONS") rfl)), (DL.tupF_ok (He.glo_ok X G (c.z.y.x.d.fact 44 (f := .glo "RELATIONS") rfl)) (c.z.y.x.b 5 rfl)), (He.glo_ok X G (c.z.y.x.d.fact 45 (f := .glo "STANDINGS") rfl)), (DL.tupF_ok (He.glo_ok X G (c.z.y.x.d.fact 45 (f := .glo "STANDINGS") rfl)) (c.z.y.x.b 6 rfl)), (He.glo_ok X G (c.z.y.x.d.fact 46 (f := .glo "Rule") rfl)), (DL.isCB_ok (He.cls_ok (c.z.y.x.d.fact 62 (f := .cls "Rule") rfl)) (c.z.y.x.b 7 rfl)), (DL.readB_ok (c.z.y.x.b 8 rfl)), (He.glo_ok X G (c.z.y.x.d.fact 47 (f := .glo "InvalidPlace") rfl)), (He.glo_ok X G (c.z.y.x.d.fact 48 (f := .glo "NotBeneath") rfl)), (He.glo_ok X G (c.z.y.x.d.fact 49 (f := .glo "InvalidEntry") rfl)), (He.glo_ok X G (c.z.y.x.d.fact 50 (f := .glo "InvalidPromise") rfl)), (He.glo_ok X G (c.z.y.x.d.fact 51 (f := .glo "InvalidProgram") rfl)), (He.glo_ok X G (c.z.y.x.d.fact 52 (f := .glo "InvalidName") rfl)), (DL.errTB_ok (c.z.y.x.b 9 rfl)), (He.glo_ok X G (c.z.y.x.d.fact 53 (f := .glo "OverPower") rfl)), (He.glo_ok X G (c.z.y.x.d.fact 54 (f := .glo "Stale") rfl)), (He.glo_ok X G (c.z.y.x.d.fact 55 (f := .glo "NotSharing") rfl)), (He.glo_ok X G (c.z.y.x.d.fact 56 (f := .glo "NotMendable") rfl)), (He.glo_ok X G (c.z.y.x.d.fact 57 (f := .glo "Unsound") rfl)), (He.glo_ok X G (c.z.y.x.d.fact 58 (f := .glo "TooMany") rfl)), (He.glo_ok X G (c.z.y.x.d.fact 59 (f := .glo "InvalidRule") rfl)), ((fun C m => He.eqO_ok (List.all_eq_true.mp (c.z.y.x.b 10 rfl) C m))), (He.glo_ok X G (c.z.y.x.d.fact 60 (f := .glo "LentError") rfl)), (He.mkr_ok (c.z.y.x.d.fact 61 (f := .mkr "Rule") rfl)), ((c.z.y.x.b 11 rfl)), (DL.exsB_ok (c.z.y.x.b 12 rfl)), (He.cls_ok (c.z.y.x.d.fact 62 (f := .cls "Rule") rfl)), (He.noat_ok (c.z.y.x.d.fact 63 (f := .noat "Rule" "_rows") rfl))⟩
  obtain ⟨fd_l_begin, D_l_begin⟩ := c.z.y.x.d.def_ 0 (d := ⟨("_law_begin", none), "_law_begin", "_law_begin", defArgs (top 40), defBody (top 40), defScope (top 40), [], []⟩) rfl
  have g_l_begin : mg "_law_begin" = some (.ref (He.ga K "_law_begin")) := He.glo_ok X G (c.z.y.x.d.fact 0 (f := .glo "_law_begin") rfl)
  have b_l_begin : Binds K fd_l_begin ["_law_script"] [] := D_l_begin.bindsN (ps := ["_law_script"]) fun _ _ _ _ _ _ us hl => match us, hl with | [_], _ => rfl
  obtain ⟨fd_l_draw, D_l_draw⟩ := c.z.y.x.d.def_ 1 (d := ⟨("_law_draw", none), "_law_draw", "_law_draw", defArgs (top 41), defBody (top 41), defScope (top 41), [], []⟩) rfl
  have g_l_draw : mg "_law_draw" = some (.ref (He.ga K "_law_draw")) := He.glo_ok X G (c.z.y.x.d.fact 1 (f := .glo "_law_draw") rfl)
  have b_l_draw : Binds K fd_l_draw ["_law_source", "_law_size"] [] := D_l_draw.bindsN (ps := ["_law_source", "_law_size"]) fun _ _ _ _ _ _ us hl => match us, hl with | [_, _], _ => rfl
  obtain ⟨fd_l_pick, D_l_pick⟩ := c.z.y.x.d.def_ 2 (d := ⟨("_law_pick", none), "_law_pick", "_law_pick", defArgs (top 42), defBody (top 42), defScope (top 42), [], []⟩) rfl
  have g_l_pick : mg "_law_pick" = some (.ref (He.ga K "_law_pick")) := He.glo_ok X G (c.z.y.x.d.fact 2 (f := .glo "_law_pick") rfl)
  have b_l_pick : Binds K fd_l_pick ["_law_source", "_law_row"] [] := D_l_pick.bindsN (ps := ["_law_source", "_law_row"]) fun _ _ _ _ _ _ us hl => match us, hl with | [_, _], _ => rfl
  obtain ⟨fd_l_sign, D_l_sign⟩ := c.z.y.x.d.def_ 3 (d := ⟨("_law_sign", none), "_law_sign", "_law_sign", defArgs (top 51), defBody (top 51), defScope (top 51), [], []⟩) rfl
  have g_l_sign : mg "_law_sign" = some (.ref (He.ga K "_law_sign")) := He.glo_ok X G (c.z.y.x.d.fact 3 (f := .glo "_law_sign") rfl)
  have b_l_sign : Binds K fd_l_sign ["_law_source"] [] := D_l_sign.bindsN (ps := ["_law_source"]) fun _ _ _ _ _ _ us hl => match us, hl with | [_], _ => rfl
  obtain ⟨fd_l_spoilt, D_l_spoilt⟩ := c.z.y.x.d.def_ 4 (d := ⟨("_law_spoilt", none), "_law_spoilt", "_law_spoilt", defArgs (top 52), defBody (top 52), defScope (top 52), [], []⟩) rfl
  have g_l_spoilt : mg "_law_spoilt" = some (.ref (He.ga K "_law_spoilt")) := He.glo_ok X G (c.z.y.x.d.fact 4 (f := .glo "_law_spoilt") rfl)
  have b_l_spoilt : Binds K fd_l_spoilt ["_law_source", "_law_text"] [] := D_l_spoilt.bindsN (ps := ["_law_source", "_law_text"]) fun _ _ _ _ _ _ us hl => match us, hl with | [_, _], _ => rfl
  obtain ⟨fd_l_words, D_l_words⟩ := c.z.y.x.d.def_ 5 (d := ⟨("_law_words", none), "_law_words", "_law_words", defArgs (top 49), defBody (top 49), defScope (top 49), [], []⟩) rfl
  have g_l_words : mg "_law_words" = some (.ref (He.ga K "_law_words")) := He.glo_ok X G (c.z.y.x.d.fact 5 (f := .glo "_law_words") rfl)
  have b_l_words : Binds K fd_l_words ["_law_source", "_law_words_here"] [] := D_l_words.bindsN (ps := ["_law_source", "_law_words_here"]) fun _ _ _ _ _ _ us hl => match us, hl with | [_, _], _ => rfl
  obtain ⟨fd_l_standings, D_l_standings⟩ := c.z.y.x.d.def_ 6 (d := ⟨("_law_standings", none), "_law_standings", "_law_standings", defArgs (top 45), defBody (top 45), defScope (top 45), [], []⟩) rfl
  have g_l_standings : mg "_law_standings" = some (.ref (He.ga K "_law_standings")) := He.glo_ok X G (c.z.y.x.d.fact 6 (f := .glo "_law_standings") rfl)
  have b_l_standings : Binds K fd_l_standings [] [] := D_l_standings.bindsN (ps := []) fun _ _ _ _ _ _ us hl => match us, hl with | [], _ => rfl
  obtain ⟨fd_l_deeds, D_l_deeds⟩ := c.z.y.x.d.def_ 7 (d := ⟨("_law_deeds", none), "_law_deeds", "_law_deeds", defArgs (top 46), defBody (top 46), defScope (top 46), [], []⟩) rfl
  have g_l_deeds : mg "_law_deeds" = some (.ref (He.ga K "_law_deeds")) := He.glo_ok X G (c.z.y.x.d.fact 7 (f := .glo "_law_deeds") rfl)
  have b_l_deeds : Binds K fd_l_deeds [] [] := D_l_deeds.bindsN (ps := []) fun _ _ _ _ _ _ us hl => match us, hl with | [], _ => rfl
  obtain ⟨fd_l_relations, D_l_relations⟩ := c.z.y.x.d.def_ 8 (d := ⟨("_law_relations", none), "_law_relations", "_law_relations", defArgs (top 47), defBody (top 47), defScope (top 47), [], []⟩) rfl
  have g_l_relations : mg "_law_relations" = some (.ref (He.ga K "_law_relations")) := He.glo_ok X G (c.z.y.x.d.fact 8 (f := .glo "_law_relations") rfl)
  have b_l_relations : Binds K fd_l_relations [] [] := D_l_relations.bindsN (ps := []) fun _ _ _ _ _ _ us hl => match us, hl with | [], _ => rfl
  obtain ⟨fd_l_pattern, D_l_pattern⟩ := c.z.y.x.d.def_ 9 (d := ⟨("_law_pattern", none), "_law_pattern", "_law_pattern", defArgs (top 50), defBody (top 50), defScope (top 50), [], []⟩) rfl
  have g_l_pattern : mg "_law_pattern" = some (.ref (He.ga K "_law_pattern")) := He.glo_ok X G (c.z.y.x.d.fact 9 (f := .glo "_law_pattern") rfl)
  have b_l_pattern : Binds K fd_l_pattern ["_law_source"] [] := D_l_pattern.bindsN (ps := ["_law_source"]) fun _ _ _ _ _ _ us hl => match us, hl with | [_], _ => rfl
  obtain ⟨fd_written_entries, D_written_entries⟩ := c.z.y.x.d.def_ 10 (d := ⟨("written_entries", none), "written_entries", "written_entries", defArgs (top 25), defBody (top 25), defScope (top 25), [], []⟩) rfl
  have g_written_entries : mg "written_entries" = some (.ref (He.ga K "written_entries")) := He.glo_ok X G (c.z.y.x.d.fact 10 (f := .glo "written_entries") rfl)
  have b_written_entries : Binds K fd_written_entries ["standings", "deeds", "relations"] [] := D_written_entries.bindsN (ps := ["standings", "deeds", "relations"]) fun _ _ _ _ _ _ us hl => match us, hl with | [_, _, _], _ => rfl
  obtain ⟨fd_all_entries, D_all_entries⟩ := c.z.y.x.d.def_ 11 (d := ⟨("all_entries", none), "all_entries", "all_entries", defArgs (top 24), defBody (top 24), defScope (top 24), [], []⟩) rfl
  have g_all_entries : mg "all_entries" = some (.ref (He.ga K "all_entries")) := He.glo_ok X G (c.z.y.x.d.fact 11 (f := .glo "all_entries") rfl)
  have b_all_entries : Binds K fd_all_entries [] [] := D_all_entries.bindsN (ps := []) fun _ _ _ _ _ _ us hl => match us, hl with | [], _ => rfl
  obtain ⟨fd_words_of, D_words_of⟩ := c.z.y.x.d.def_ 12 (d := ⟨("words_of", none), "words_of", "words_of", defArgs (top 26), defBody (top 26), defScope (top 26), [], []⟩) rfl
  have g_words_of : mg "words_of" = some (.ref (He.ga K "words_of")) := He.glo_ok X G (c.z.y.x.d.fact 12 (f := .glo "words_of") rfl)
  have b_words_of : Binds K fd_words_of ["part", "words"] [] := D_words_of.bindsN (ps := ["part", "words"]) fun _ _ _ _ _ _ us hl => match us, hl with | [_, _], _ => rfl
  obtain ⟨fd_expand, D_expand⟩ := c.z.y.x.d.def_ 13 (d := ⟨("expand", none), "expand", "expand", defArgs (top 27), defBody (top 27), defScope (top 27), [], []⟩) rfl
  have g_expand : mg "expand" = some (.ref (He.ga K "expand")) := He.glo_ok X G (c.z.y.x.d.fact 13 (f := .glo "expand") rfl)
  have b_expand : Binds K fd_expand ["pattern"] [] := D_expand.bindsN (ps := ["pattern"]) fun _ _ _ _ _ _ us hl => match us, hl with | [_], _ => rfl
  obtain ⟨fd_gathered_entries, D_gathered_entries⟩ := c.z.y.x.d.def_ 14 (d := ⟨("gathered_entries", none), "gathered_entries", "gathered_entries", defArgs (top 32), defBody (top 32), defScope (top 32), [], []⟩) rfl
  have g_gathered_entries : mg "gathered_entries" = some (.ref (He.ga K "gathered_entries")) := He.glo_ok X G (c.z.y.x.d.fact 14 (f := .glo "gathered_entries") rfl)
  have b_gathered_entries : Binds K fd_gathered_entries ["patterns"] [] := D_gathered_entries.bindsN (ps := ["patterns"]) fun _ _ _ _ _ _ us hl => match us, hl with | [_], _ => rfl
  obtain ⟨fd_Rule_init, D_Rule_init⟩ := c.z.y.x.d.def_ 15 (d := ⟨("Rule", some "__init__"), "__init__", "Rule.__init__", defArgs (mth 38 1), defBody (mth 38 1), defScope (mth 38 1), [], []⟩) rfl
  have M_Rule_init := He.meth_ok (c.z.y.x.d.fact 15 (f := .meth "Rule" "__init__") rfl)
  obtain ⟨fd_Rule_len, D_Rule_len⟩ := c.z.y.x.d.def_ 16 (d := ⟨("Rule", some "__len__"), "__len__", "Rule.__len__", defArgs (mth 38 8), defBody (mth 38 8), defScope (mth 38 8), [], []⟩) rfl
  have M_Rule_len := He.meth_ok (c.z.y.x.d.fact 16 (f := .meth "Rule" "__len__") rfl)
  have b_Rule_len : Binds K fd_Rule_len ["self"] [] := D_Rule_len.bindsN (ps := ["self"]) fun _ _ _ _ _ _ us hl => match us, hl with | [_], _ => rfl
  obtain ⟨fd_Rule_iter, D_Rule_iter⟩ := c.z.y.x.d.def_ 17 (d := ⟨("Rule", some "__iter__"), "__iter__", "Rule.__iter__", defArgs (mth 38 9), defBody (mth 38 9), defScope (mth 38 9), [], []⟩) rfl
  have M_Rule_iter := He.meth_ok (c.z.y.x.d.fact 17 (f := .meth "Rule" "__iter__") rfl)
  have b_Rule_iter : Binds K fd_Rule_iter ["self"] [] := D_Rule_iter.bindsN (ps := ["self"]) fun _ _ _ _ _ _ us hl => match us, hl with | [_], _ => rfl
  obtain ⟨fd_entries_of, D_entries_of⟩ := c.z.y.x.d.def_ 18 (d := ⟨("entries_of", none), "entries_of", "entries_of", defArgs (top 36), defBody (top 36), defScope (top 36), [], []⟩) rfl
  have g_entries_of : mg "entries_of" = some (.ref (He.ga K "entries_of")) := He.glo_ok X G (c.z.y.x.d.fact 18 (f := .glo "entries_of") rfl)
  have b_entries_of : Binds K fd_entries_of ["other"] [] := D_entries_of.bindsN (ps := ["other"]) fun _ _ _ _ _ _ us hl => match us, hl with | [_], _ => rfl
  obtain ⟨fd_in_order, D_in_order⟩ := c.z.y.x.d.def_ 19 (d := ⟨("in_order", none), "in_order", "in_order", defArgs (top 31), defBody (top 31), defScope (top 31), [], []⟩) rfl
  have g_in_order : mg "in_order" = some (.ref (He.ga K "in_order")) := He.glo_ok X G (c.z.y.x.d.fact 19 (f := .glo "in_order") rfl)
  have b_in_order : Binds K fd_in_order ["chosen"] [] := D_in_order.bindsN (ps := ["chosen"]) fun _ _ _ _ _ _ us hl => match us, hl with | [_], _ => rfl
  obtain ⟨fd_with_both, D_with_both⟩ := c.z.y.x.d.def_ 20 (d := ⟨("with_both", none), "with_both", "with_both", defArgs (top 33), defBody (top 33), defScope (top 33), [], []⟩) rfl
  have g_with_both : mg "with_both" = some (.ref (He.ga K "with_both")) := He.glo_ok X G (c.z.y.x.d.fact 20 (f := .glo "with_both") rfl)
  have b_with_both : Binds K fd_with_both ["first", "second"] [] := D_with_both.bindsN (ps := ["first", "second"]) fun _ _ _ _ _ _ us hl => match us, hl with | [_, _], _ => rfl
  obtain ⟨fd_Rule_ior, D_Rule_ior⟩ := c.z.y.x.d.def_ 21 (d := ⟨("Rule", some "__ior__"), "__ior__", "Rule.__ior__", defArgs (mth 38 23), defBody (mth 38 23), defScope (mth 38 23), [], []⟩) rfl
  have M_Rule_ior := He.meth_ok (c.z.y.x.d.fact 21 (f := .meth "Rule" "__ior__") rfl)
  have b_Rule_ior : Binds K fd_Rule_ior ["self", "other"] [] := D_Rule_ior.bindsN (ps := ["self", "other"]) fun _ _ _ _ _ _ us hl => match us, hl with | [_, _], _ => rfl
  obtain ⟨fd_Rule_read, D_Rule_read⟩ := c.z.def_ 0 (d := ⟨fun K => He5.wf K (He.ga K "Rule") "classmethod" "read", "read", "Rule.read", defArgs (mth 38 2), defBody (mth 38 2), defScope (mth 38 2), [], []⟩) rfl
  have b_Rule_read : Binds K fd_Rule_read ["cls", "text"] [] := D_Rule_read.bindsN (ps := ["cls", "text"]) fun _ _ _ _ _ _ us hl => match us, hl with | [_, _], _ => rfl
  obtain ⟨fd_l_told, D_l_told⟩ := c.z.y.x.d.def_ 22 (d := ⟨("_law_told", none), "_law_told", "_law_told", defArgs (top 55), defBody (top 55), defScope (top 55), [], []⟩) rfl
  have g_l_told : mg "_law_told" = some (.ref (He.ga K "_law_told")) := He.glo_ok X G (c.z.y.x.d.fact 22 (f := .glo "_law_told") rfl)
  have b_l_told : Binds K fd_l_told ["_law_text"] [] := D_l_told.bindsN (ps := ["_law_text"]) fun _ _ _ _ _ _ us hl => match us, hl with | [_], _ => rfl
  obtain ⟨fd_l_is_pattern, D_l_is_pattern⟩ := c.z.y.x.d.def_ 23 (d := ⟨("_law_is_pattern", none), "_law_is_pattern", "_law_is_pattern", defArgs (top 53), defBody (top 53), defScope (top 53), [], []⟩) rfl
  have g_l_is_pattern : mg "_law_is_pattern" = some (.ref (He.ga K "_law_is_pattern")) := He.glo_ok X G (c.z.y.x.d.fact 23 (f := .glo "_law_is_pattern") rfl)
  have b_l_is_pattern : Binds K fd_l_is_pattern ["_law_text"] [] := D_l_is_pattern.bindsN (ps := ["_law_text"]) fun _ _ _ _ _ _ us hl => match us, hl with | [_], _ => rfl
  obtain ⟨fd_l_same_row, D_l_same_row⟩ := c.z.y.x.d.def_ 24 (d := ⟨("_law_same_row", none), "_law_same_row", "_law_same_row", defArgs (top 43), defBody (top 43), defScope (top 43), [], []⟩) rfl
  have g_l_same_row : mg "_law_same_row" = some (.ref (He.ga K "_law_same_row")) := He.glo_ok X G (c.z.y.x.d.fact 24 (f := .glo "_law_same_row") rfl)
  have b_l_same_row : Binds K fd_l_same_row ["_law_actual", "_law_expected"] [] := D_l_same_row.bindsN (ps := ["_law_actual", "_law_expected"]) fun _ _ _ _ _ _ us hl => match us, hl with | [_, _], _ => rfl
  obtain ⟨fd_l_same, D_l_same⟩ := c.z.y.x.d.def_ 25 (d := ⟨("_law_same", none), "_law_same", "_law_same", defArgs (top 44), defBody (top 44), defScope (top 44), [], []⟩) rfl
  have g_l_same : mg "_law_same" = some (.ref (He.ga K "_law_same")) := He.glo_ok X G (c.z.y.x.d.fact 25 (f := .glo "_law_same") rfl)
  have b_l_same : Binds K fd_l_same ["_law_actual", "_law_expected"] [] := D_l_same.bindsN (ps := ["_law_actual", "_law_expected"]) fun _ _ _ _ _ _ us hl => match us, hl with | [_, _], _ => rfl
  obtain ⟨fd_l_entries, D_l_entries⟩ := c.z.y.x.d.def_ 26 (d := ⟨("_law_entries", none), "_law_entries", "_law_entries", defArgs (top 48), defBody (top 48), defScope (top 48), [], []⟩) rfl
  have g_l_entries : mg "_law_entries" = some (.ref (He.ga K "_law_entries")) := He.glo_ok X G (c.z.y.x.d.fact 26 (f := .glo "_law_entries") rfl)
  have b_l_entries : Binds K fd_l_entries [] [] := D_l_entries.bindsN (ps := []) fun _ _ _ _ _ _ us hl => match us, hl with | [], _ => rfl
  obtain ⟨fd_l_matched, D_l_matched⟩ := c.z.y.x.d.def_ 27 (d := ⟨("_law_matched", none), "_law_matched", "_law_matched", defArgs (top 54), defBody (top 54), defScope (top 54), [], []⟩) rfl
  have g_l_matched : mg "_law_matched" = some (.ref (He.ga K "_law_matched")) := He.glo_ok X G (c.z.y.x.d.fact 27 (f := .glo "_law_matched") rfl)
  have b_l_matched : Binds K fd_l_matched ["_law_pattern_here"] [] := D_l_matched.bindsN (ps := ["_law_pattern_here"]) fun _ _ _ _ _ _ us hl => match us, hl with | [_], _ => rfl
  obtain ⟨fd_l_judged, D_l_judged⟩ := c.z.y.x.d.def_ 28 (d := ⟨("_law_judged", none), "_law_judged", "_law_judged", defArgs (top 56), defBody (top 56), defScope (top 56), [], []⟩) rfl
  have g_l_judged : mg "_law_judged" = some (.ref (He.ga K "_law_judged")) := He.glo_ok X G (c.z.y.x.d.fact 28 (f := .glo "_law_judged") rfl)
  have b_l_judged : Binds K fd_l_judged ["_law_text"] [] := D_l_judged.bindsN (ps := ["_law_text"]) fun _ _ _ _ _ _ us hl => match us, hl with | [_], _ => rfl
  obtain ⟨fd_law, D_law⟩ := c.z.y.x.d.def_ 29 (d := ⟨("law", none), "law", "law", defArgs (top 57), defBody (top 57), defScope (top 57), [], []⟩) rfl
  have e := hfa.symm.trans (He.glo_ok X G (c.z.y.x.d.fact 29 (f := .glo "law") rfl))
  cases e
  refine ⟨fd_law, fun s v => FunD.bindsA (ps := ["_law_script"]) D_law (fun _ _ _ _ _ _ us hl => match us, hl with | [_], _ => rfl) s [v] rfl, fun base _ _ => ?_⟩
  have F_l_begin : FnM P w K mg base 1 "_law_begin" sp_l_begin := FnM.of (ok_l_begin D_l_begin B ) g_l_begin D_l_begin.kp b_l_begin
  have F_l_draw : FnM P w K mg base 1 "_law_draw" sp_l_draw := FnM.of (ok_l_draw D_l_draw B ) g_l_draw D_l_draw.kp b_l_draw
  have F_l_pick : FnM P w K mg base 2 "_law_pick" sp_l_pick := FnM.of (ok_l_pick D_l_pick B F_l_draw) g_l_pick D_l_pick.kp b_l_pick
  have F_l_sign : FnM P w K mg base 3 "_law_sign" sp_l_sign := FnM.of (ok_l_sign D_l_sign B F_l_draw F_l_pick) g_l_sign D_l_sign.kp b_l_sign
  have F_l_spoilt : FnM P w K mg base 4 "_law_spoilt" sp_l_spoilt := FnM.of (ok_l_spoilt D_l_spoilt B F_l_draw F_l_pick F_l_sign) g_l_spoilt D_l_spoilt.kp b_l_spoilt
  have F_l_words : FnM P w K mg base 3 "_law_words" sp_l_words := FnM.of (ok_l_words D_l_words B F_l_draw F_l_pick) g_l_words D_l_words.kp b_l_words
  have F_l_standings : FnM P w K mg base 1 "_law_standings" sp_l_standings := FnM.of (ok_l_standings D_l_standings B ) g_l_standings D_l_standings.kp b_l_standings
  have F_l_deeds : FnM P w K mg base 1 "_law_deeds" sp_l_deeds := FnM.of (ok_l_deeds D_l_deeds B ) g_l_deeds D_l_deeds.kp b_l_deeds
  have F_l_relations : FnM P w K mg base 1 "_law_relations" sp_l_relations := FnM.of (ok_l_relations D_l_relations B ) g_l_relations D_l_relations.kp b_l_relations
  have F_l_pattern : FnM P w K mg base 4 "_law_pattern" sp_l_pattern := FnM.of (ok_l_pattern D_l_pattern B F_l_words F_l_standings F_l_deeds F_l_relations) g_l_pattern D_l_pattern.kp b_l_pattern
  have F_written_entries : FnM P w K mg base 1 "written_entries" sp_written_entries := FnM.of (ok_written_entries D_written_entries B ) g_written_entries D_written_entries.kp b_written_entries
  have F_all_entries : FnM P w K mg base 2 "all_entries" sp_all_entries := FnM.of (ok_all_entries D_all_entries B F_written_entries) g_all_entries D_all_entries.kp b_all_entries
  obtain ⟨cc_InvalidEntry_init, cda_InvalidEntry_init, fd_InvalidEntry_init, D_InvalidEntry_init⟩ := c.err_ 0 (d := ⟨"InvalidEntry", "InvalidEntry.__init__", defArgs (mth 5 0), defBody (mth 5 0), defScope (mth 5 0), PySem.Challenge.pw_lentahead_k13_rules_read_from_lines.main.file⟩) rfl
  have F_InvalidEntry_init : FnE P w K mg base 1 "InvalidEntry" "text" := ok_InvalidEntry_init D_InvalidEntry_init (c.z.y.x.b 2 rfl) B.k_InvalidEntry B.n_super hP1 hP2
  have F_words_of : FnM P w K mg base 1 "words_of" sp_words_of := FnM.of (ok_words_of D_words_of B ) g_words_of D_words_of.kp b_words_of
  have F_expand : FnM P w K mg base 3 "expand" sp_expand := FnM.of (ok_expand D_expand B F_InvalidEntry_init F_words_of F_written_entries) g_expand D_expand.kp b_expand
  have F_gathered_entries : FnM P w K mg base 4 "gathered_entries" sp_gathered_entries := FnM.of (ok_gathered_entries D_gathered_entries B F_all_entries F_expand) g_gathered_entries D_gathered_entries.kp b_gathered_entries
  have F_Rule_init : FnC P w K mg base 5 "Rule" "__init__" (starSp 1 sp_Rule_init) := FnC.ofR (ok_Rule_init D_Rule_init B F_gathered_entries) M_Rule_init
  obtain ⟨cc_InvalidRule_init, cda_InvalidRule_init, fd_InvalidRule_init, D_InvalidRule_init⟩ := c.err_ 1 (d := ⟨"InvalidRule", "InvalidRule.__init__", defArgs (mth 6 0), defBody (mth 6 0), defScope (mth 6 0), PySem.Challenge.pw_lentahead_k13_rules_read_from_lines.main.file⟩) rfl
  have F_InvalidRule_init : FnE P w K mg base 1 "InvalidRule" "line" := ok_InvalidRule_init D_InvalidRule_init (c.z.y.x.b 3 rfl) B.k_InvalidRule B.n_super hP1 hP2
  have FH_InvalidRule_init : FnEH P w K mg base 1 "InvalidRule" "line" := okH_InvalidRule_init D_InvalidRule_init (c.z.y.x.b 3 rfl) B.k_InvalidRule B.n_super hP1 hP2
  have F_Rule_len : LenC P w K mg base "Rule" "_rows" := ⟨M_Rule_len, (ok_Rule_len D_Rule_len B).fnR b_Rule_len⟩
  have F_Rule_iter : IterC P w K mg base "Rule" "_rows" := ⟨M_Rule_iter, ok_Rule_iter D_Rule_iter B b_Rule_iter⟩
  have F_entries_of : FnM P w K mg base 6 "entries_of" sp_entries_of := FnM.of (ok_entries_of D_entries_of B F_Rule_len F_Rule_iter F_expand) g_entries_of D_entries_of.kp b_entries_of
  have F_in_order : FnM P w K mg base 3 "in_order" sp_in_order := FnM.of (ok_in_order D_in_order B F_all_entries) g_in_order D_in_order.kp b_in_order
  have F_with_both : FnM P w K mg base 4 "with_both" sp_with_both := FnM.of (ok_with_both D_with_both B F_in_order) g_with_both D_with_both.kp b_with_both
  have F_Rule_ior : FnC P w K mg base 7 "Rule" "__ior__" sp_Rule_ior := FnC.of (ok_Rule_ior D_Rule_ior B F_entries_of F_with_both) M_Rule_ior b_Rule_ior
  have F_Rule_read : FnKX P w K mg base 8 "Rule" "read" sp_Rule_read := ⟨He5.cmet_of (c.z.y.x.b 0 rfl) (c.z.y.x.b 1 rfl), (ok_Rule_read D_Rule_read B F_Rule_init F_InvalidRule_init F_InvalidEntry_init F_Rule_ior FH_InvalidRule_init).fnR b_Rule_read⟩
  have F_l_told : FnM P w K mg base 9 "_law_told" sp_l_told := FnM.of (ok_l_told D_l_told B F_Rule_read) g_l_told D_l_told.kp b_l_told
  have F_l_is_pattern : FnM P w K mg base 2 "_law_is_pattern" sp_l_is_pattern := FnM.of (ok_l_is_pattern D_l_is_pattern B F_l_standings F_l_deeds F_l_relations) g_l_is_pattern D_l_is_pattern.kp b_l_is_pattern
  have F_l_same_all : ∀ n, FnM P w K mg base (2 * n + 1) "_law_same" (sp_l_same n) := by
    intro n
    induction n with
    | zero => exact FnM.of (ok_l_same (n := 0) (k := 0) D_l_same B (FnM.never no_row0 g_l_same_row D_l_same_row.kp b_l_same_row)) g_l_same D_l_same.kp b_l_same
    | succ n ih => exact FnM.of (ok_l_same (n := n + 1) (k := 2 * n + 2) D_l_same B (FnM.of (ok_l_same_row (n := n) (k := 2 * n + 1) D_l_same_row B ih) g_l_same_row D_l_same_row.kp b_l_same_row)) g_l_same D_l_same.kp b_l_same
  have F_l_same : FnM P w K mg base 17 "_law_same" (sp_l_same 8) := F_l_same_all 8
  have F_l_entries : FnM P w K mg base 2 "_law_entries" sp_l_entries := FnM.of (ok_l_entries D_l_entries B F_l_standings F_l_deeds F_l_relations) g_l_entries D_l_entries.kp b_l_entries
  have F_l_matched : FnM P w K mg base 3 "_law_matched" sp_l_matched := FnM.of (ok_l_matched D_l_matched B F_l_entries) g_l_matched D_l_matched.kp b_l_matched
  have F_l_judged : FnM P w K mg base 18 "_law_judged" sp_l_judged := FnM.of (ok_l_judged D_l_judged B F_l_told F_l_is_pattern F_l_same F_l_matched F_Rule_len F_Rule_iter F_l_entries) g_l_judged D_l_judged.kp b_l_judged
  exact ok_law D_law B F_l_begin F_l_draw F_l_pick F_l_spoilt F_l_pattern F_l_judged
end Lw
open PySem PySem.W PySem.Calls PyProof.Rows
theorem PySem.Challenge.cw_lentahead_k13_rules_read_from_lines_holds : PySem.Challenge.rw_lentahead_k13_rules_read_from_lines.Holds :=
  Lw.holds_of (sp := DL.sp_law) (fun ns hl => by first | exact ⟨ns, rfl, fun _ => rfl⟩ | exact ⟨ns, rfl, hl, fun _ => rfl⟩) fun X G h c => Lw.facts X G h (by kernel_rfl) (by kernel_rfl) c
