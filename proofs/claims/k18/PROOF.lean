import PyProof.Rows.All
import PyProof.Rows.SortStr
import PyProof.Rows.SortShellAny
import Wide.All
import OpenK.AllK
import Wide.FinOn
import KE.KStateDown
import Lean
import HandS.ForMost
import HandS.ForExc
import HandS.HotCalls
import HandS.Defaults
import HandS.Steps
import HandS.IsInst
import HandS.Head0
import HandS.Head1
import HandS.Head2
import HandS.HeadEnd
import HandS.HeadHook1
import HandS.HeadHook2
import HandS.HeadHook3
import HandS.Small
import HandS.RaiseMore
import HandS.Star
import HandS.FStr
import KE.KOpsOwn
import KE.KOwnIter
import HandS.SlotsOwn
import HandS.ClsMeth
import HandS.HeadNt
import HandS.IterVal
import HandS.Property
import HandS.OwnIter
import HandS.DictComp
import HandS.TryMany
import HandS.Iter
import KE.KCallOwn
import HandS.ExcInit
import HandS.ExcField
import HandS.Nested
import KE.KExcSuper
import KE.KExcIs
import HandS.Text
import HandS.Strs
import HandS.TupLe
import HandS.Dict
import HandS.More
import HandS.GenList
import PySem.Challenge.RW_lentahead_k18_promises_changed_and_order
set_option Elab.async false
set_option linter.all false
set_option maxRecDepth 100000
set_option maxHeartbeats 4000000
/-! A layer of values over the abstract heap: data as trees, what may change at its address (Mu). -/
namespace DL
open PySem L2

abbrev Tx := List Nat
def sx (t : Tx) : Str := ⟨t.toArray⟩
def T (s : Str) : Tx := s.cps.toList
theorem sx_T (s : Str) : sx (T s) = s := by cases s; simp [sx, T]
theorem T_sx (t : Tx) : T (sx t) = t := by simp [sx, T]
theorem sx_inj {a b : Tx} (h : sx a = sx b) : a = b := by rw [← T_sx a, ← T_sx b, h]
theorem sx_len (t : Tx) : (sx t).length = t.length := by simp [sx, PySem.Str.length]
theorem sx_add (a b : Tx) : sx a ++ sx b = sx (a ++ b) := by
  show Str.mk _ = Str.mk _
  simp [sx]

/-- data -/
inductive D where
  | non | bl (b : Bool) | int (i : Int) | str (x : Tx) | ref (a : Addr) | ty (n : String)
  | lst (ds : List D) | tup (ds : List D) | scr (ns : List Int)
  /-- an own class, by its name in the module -/
  | cl (x : Str)
  /-- a caught exception of an own class: where it stands, where its dict stands, its class, its fields -/
  | exc (a dd : Addr) (C : Str) (ns : List Str) (ds : List D)

/-- a key: an int or a text -/
abbrev DKey := Sum Int Tx
def kO : DKey → Key
  | .inl i => .inl i
  | .inr x => .inr (sx x)
theorem kO_inj {a b : DKey} (h : kO a = kO b) : a = b := by
  cases a <;> cases b <;> simp only [kO, Sum.inl.injEq, Sum.inr.injEq, reduceCtorEq] at h
  · rw [h]
  · rw [sx_inj h]
def kD : DKey → D
  | .inl i => .int i
  | .inr x => .str x

/-- what may change -/
inductive MO where
  | lst (ds : List D)
  | dK (kvs : List (DKey × D))
  /-- a dict that is walked: read only -/
  | fK (kvs : List (DKey × D)) (u : HO)
  | ins (C : Str) (fs : List (Str × D))
abbrev Mu := Addr → Option MO
/-- the pairs of a dict -/
def dOf : MO → Option (List (DKey × D))
  | .dK kvs => some kvs
  | .fK kvs _ => some kvs
  | _ => none
def put (M : Mu) (a : Addr) (o : MO) : Mu := fun b => if b = a then some o else M b
def del (M : Mu) (a : Addr) : Mu := fun b => if b = a then none else M b
theorem put_same {M : Mu} {a : Addr} {o : MO} : put M a o a = some o := if_pos rfl
theorem put_ne {M : Mu} {a b : Addr} {o : MO} (h : b ≠ a) : put M a o b = M b := if_neg h
theorem del_same {M : Mu} {a : Addr} : del M a a = none := if_pos rfl
theorem del_ne {M : Mu} {a b : Addr} (h : b ≠ a) : del M a b = M b := if_neg h
theorem put_put {M : Mu} {a : Addr} {o p : MO} : put (put M a o) a p = put M a p := by
  funext b
  by_cases e : b = a
  · rw [e, put_same, put_same]
  · rw [put_ne e, put_ne e, put_ne e]
theorem del_put {M : Mu} {a : Addr} {o : MO} : del (put M a o) a = del M a := by
  funext b
  by_cases e : b = a
  · rw [e, del_same, del_same]
  · rw [del_ne e, del_ne e, put_ne e]
theorem del_new {M : Mu} {a : Addr} (h : M a = none) : del M a = M := by
  funext b
  by_cases e : b = a
  · rw [e, del_same, h]
  · rw [del_ne e]
theorem del_put_new {M : Mu} {a : Addr} {o : MO} (h : M a = none) : del (put M a o) a = M := by rw [del_put, del_new h]
theorem put_eq {M : Mu} {a : Addr} {o : MO} (h : M a = some o) : put M a o = M := by
  funext b
  by_cases e : b = a
  · rw [e, put_same, h]
  · rw [put_ne e]

section
variable (K : PySem.W.Frag) (M : Mu) (H : Hp)
/-- a tuple of the written part -/
def WrT (a : Addr) (vs : List V) : Prop := ∃ (o : Obj) (its : Array Value) (n : Nat), K.lookup a = some o ∧ o.cls = .type "tuple" ∧ o.data = .seq its n ∧ its.size ≤ sizeLine ∧ Vals vs its.toList
def WrL (a : Addr) (vs : List V) : Prop := ∃ (o : Obj) (its : Array Value) (n : Nat), K.lookup a = some o ∧ o.cls = .type "list" ∧ o.dict = none ∧ o.data = .seq its n ∧ its.size ≤ sizeLine ∧ Vals vs its.toList
mutual
/-- the value v is the data d -/
def Rep : D → V → Prop
  | .non, v => v = .non
  | .bl b, v => v = .bl b
  | .int i, v => v = .int i
  | .str x, v => v = .str (sx x)
  | .ref a, v => v = .ref a
  | .ty n, v => v = .ty n
  | .cl x, v => v = .ref (He.ga K x)
  | .scr ns, v => ∃ a, v = .ref a ∧ (((∃ o, H a = some (.frz o (.lst (ns.map V.int)))) ∧ M a = none) ∨ WrL K a (ns.map V.int))
  | .lst ds, v => ∃ a vs, v = .ref a ∧ H a = some (.lst vs) ∧ M a = none ∧ Reps ds vs
  | .tup ds, v => ∃ a vs, v = .ref a ∧ ((H a = some (.tup vs) ∧ M a = none) ∨ WrT K a vs) ∧ Reps ds vs
  | .exc a dd _ ns ds, v => v = .ref a ∧ ∃ gs : List (Str × V), H dd = some (.xd gs) ∧ M dd = none ∧ gs.map (·.1) = ns ∧ Reps ds (gs.map (·.2))
def Reps : List D → List V → Prop
  | [], vs => vs = []
  | d :: ds, vs => ∃ v r, vs = v :: r ∧ Rep d v ∧ Reps ds r
end
def RepO : MO → HO → Prop
  | .lst ds, o => ∃ vs, o = .lst vs ∧ Reps K M H ds vs
  | .dK kvs, o => ∃ ks, o = .dK ks ∧ ks.map (·.1) = kvs.map (fun q => kO q.1) ∧ Reps K M H (kvs.map (·.2)) (ks.map (·.2))
  | .fK kvs u, o => o = u ∧ ∃ od ks, u = .frz od (.dK ks) ∧ ks.map (·.1) = kvs.map (fun q => kO q.1) ∧ Reps K M H (kvs.map (·.2)) (ks.map (·.2))
  | .ins C fs, o => ∃ dx gs, o = .ins (He.ga K C) dx gs ∧ gs.map (·.1) = fs.map (·.1) ∧ Reps K M H (fs.map (·.2)) (gs.map (·.2))
def Cor : Prop := ∀ a mo, M a = some mo → ∃ o, H a = some o ∧ RepO K M H mo o
def RepS : List (Option D) → List (Option V) → Prop
  | [], vs => vs = []
  | none :: ds, vs => ∃ v r, vs = v :: r ∧ RepS ds r
  | some d :: ds, vs => ∃ v r, vs = some v :: r ∧ Rep K M H d v ∧ RepS ds r
end
/-- a step: what is not to change stays -/
def Stp (M : Mu) (H : Hp) (M' : Mu) (H' : Hp) : Prop := ∀ b o, H b = some o → M b = none → H' b = some o ∧ M' b = none
theorem Stp.refl (M : Mu) (H : Hp) : Stp M H M H := fun _ _ h m => ⟨h, m⟩
theorem Stp.trans {M M1 M2 : Mu} {H H1 H2 : Hp} (a : Stp M H M1 H1) (b : Stp M1 H1 M2 H2) : Stp M H M2 H2 := fun c o h m => b c o (a c o h m).1 (a c o h m).2

section
variable {K : PySem.W.Frag} {M M' : Mu} {H H' : Hp}
mutual
theorem Rep.stp (s : Stp M H M' H') : ∀ {d : D} {v : V}, Rep K M H d v → Rep K M' H' d v
  | .non, _, h => h
  | .bl _, _, h => h
  | .int _, _, h => h
  | .str _, _, h => h
  | .ref _, _, h => h
  | .ty _, _, h => h
  | .cl _, _, h => h
  | .scr ns, v, h => by
    unfold Rep at h ⊢
    obtain ⟨a, e, h⟩ := h
    refine ⟨a, e, ?_⟩
    rcases h with ⟨⟨o, h1⟩, h2⟩ | h
    · obtain ⟨h1, h2⟩ := s a _ h1 h2
      exact .inl ⟨⟨o, h1⟩, h2⟩
    · exact .inr h
  | .lst ds, v, h => by
    unfold Rep at h ⊢
    obtain ⟨a, vs, e, h1, h2, h3⟩ := h
    obtain ⟨h1, h2⟩ := s a _ h1 h2
    exact ⟨a, vs, e, h1, h2, Reps.stp s h3⟩
  | .tup ds, v, h => by
    unfold Rep at h ⊢
    obtain ⟨a, vs, e, h1, h3⟩ := h
    refine ⟨a, vs, e, ?_, Reps.stp s h3⟩
    rcases h1 with ⟨h1, h2⟩ | h1
    · exact .inl (s a _ h1 h2)
    · exact .inr h1
  | .exc a dd C ns ds, v, h => by
    unfold Rep at h ⊢
    obtain ⟨e, gs, h1, h2, h3, h4⟩ := h
    obtain ⟨h1, h2⟩ := s dd _ h1 h2
    exact ⟨e, gs, h1, h2, h3, Reps.stp s h4⟩
theorem Reps.stp (s : Stp M H M' H') : ∀ {ds : List D} {vs : List V}, Reps K M H ds vs → Reps K M' H' ds vs
  | [], _, h => h
  | d :: ds, vs, h => by
    unfold Reps at h ⊢
    obtain ⟨v, r, e, h1, h2⟩ := h
    exact ⟨v, r, e, Rep.stp s h1, Reps.stp s h2⟩
end
theorem RepO.stp (s : Stp M H M' H') : ∀ {m : MO} {o : HO}, RepO K M H m o → RepO K M' H' m o
  | .lst _, _, ⟨vs, e, r⟩ => ⟨vs, e, r.stp s⟩
  | .dK _, _, ⟨ks, e, e2, r⟩ => ⟨ks, e, e2, r.stp s⟩
  | .fK _ _, _, ⟨e0, od, ks, e, e2, r⟩ => ⟨e0, od, ks, e, e2, r.stp s⟩
  | .ins _ _, _, ⟨dx, gs, e, e2, r⟩ => ⟨dx, gs, e, e2, r.stp s⟩
theorem RepS.stp (s : Stp M H M' H') : ∀ {ds : List (Option D)} {vs : List (Option V)}, RepS K M H ds vs → RepS K M' H' ds vs
  | [], _, h => h
  | none :: ds, _, ⟨v, r, e, h⟩ => ⟨v, r, e, RepS.stp s h⟩
  | some d :: ds, _, ⟨v, r, e, h1, h⟩ => ⟨v, r, e, h1.stp s, RepS.stp s h⟩

/-! lists of data -/
theorem Reps.nil : Reps K M H [] [] := rfl
theorem Reps.cons {d : D} {v : V} {ds : List D} {vs : List V} (h : Rep K M H d v) (t : Reps K M H ds vs) : Reps K M H (d :: ds) (v :: vs) := ⟨v, vs, rfl, h, t⟩
theorem Reps.length : ∀ {ds : List D} {vs : List V}, Reps K M H ds vs → vs.length = ds.length
  | [], _, h => by cases (show _ = [] from h); rfl
  | d :: ds, _, h => by
    obtain ⟨v, r, rfl, _, h⟩ := (show ∃ v r, _ = v :: r ∧ Rep K M H d v ∧ Reps K M H ds r from h)
    rw [List.length_cons, List.length_cons, h.length]
theorem Reps.uncons {d : D} {ds : List D} {vs : List V} (h : Reps K M H (d :: ds) vs) : ∃ v r, vs = v :: r ∧ Rep K M H d v ∧ Reps K M H ds r := h
theorem Reps.unnil {vs : List V} (h : Reps K M H [] vs) : vs = [] := h
theorem Reps.get : ∀ {ds : List D} {vs : List V} {i : Nat} {d : D}, Reps K M H ds vs → ds[i]? = some d → ∃ v, vs[i]? = some v ∧ Rep K M H d v
  | [], _, _, _, _, e => by simp at e
  | d :: ds, _, 0, x, h, e => by
    obtain ⟨v, r, rfl, h1, _⟩ := h.uncons
    simp at e; subst e
    exact ⟨v, rfl, h1⟩
  | d :: ds, _, i + 1, x, h, e => by
    obtain ⟨v, r, rfl, _, h⟩ := h.uncons
    obtain ⟨u, h1, h2⟩ := Reps.get (i := i) h (by simpa using e)
    exact ⟨u, by simpa using h1, h2⟩
theorem Reps.get_none {ds : List D} {vs : List V} {i : Nat} (h : Reps K M H ds vs) (e : ds[i]? = none) : vs[i]? = none := by
  rw [List.getElem?_eq_none_iff] at e ⊢
  rw [h.length]; exact e
theorem Reps.set {d : D} {v : V} (r : Rep K M H d v) : ∀ {ds : List D} {vs : List V} (i : Nat), Reps K M H ds vs → Reps K M H (ds.set i d) (vs.set i v)
  | [], _, _, h => by cases h.unnil; exact .nil
  | x :: ds, _, 0, h => by
    obtain ⟨u, s, rfl, h1, h2⟩ := h.uncons
    exact .cons r h2
  | x :: ds, _, i + 1, h => by
    obtain ⟨u, s, rfl, h1, h2⟩ := h.uncons
    exact .cons h1 (Reps.set r i h2)
theorem Reps.append : ∀ {ds es : List D} {vs us : List V}, Reps K M H ds vs → Reps K M H es us → Reps K M H (ds ++ es) (vs ++ us)
  | [], _, _, _, h, h2 => by cases h.unnil; exact h2
  | d :: ds, _, _, _, h, h2 => by
    obtain ⟨v, r, rfl, h1, h⟩ := h.uncons
    exact .cons h1 (h.append h2)
theorem Reps.snoc {ds : List D} {vs : List V} {d : D} {v : V} (h : Reps K M H ds vs) (h1 : Rep K M H d v) : Reps K M H (ds ++ [d]) (vs ++ [v]) := h.append (.cons h1 .nil)
theorem Reps.take : ∀ {ds : List D} {vs : List V} (n : Nat), Reps K M H ds vs → Reps K M H (ds.take n) (vs.take n)
  | _, _, 0, _ => by simp only [List.take_zero]; exact .nil
  | [], _, _ + 1, h => by cases h.unnil; exact .nil
  | d :: ds, _, n + 1, h => by
    obtain ⟨v, r, rfl, h1, h⟩ := h.uncons
    exact .cons h1 (Reps.take n h)
theorem Reps.drop : ∀ {ds : List D} {vs : List V} (n : Nat), Reps K M H ds vs → Reps K M H (ds.drop n) (vs.drop n)
  | _, _, 0, h => h
  | [], _, _ + 1, h => by cases h.unnil; exact .nil
  | d :: ds, _, n + 1, h => by
    obtain ⟨v, r, rfl, h1, h⟩ := h.uncons
    exact Reps.drop n h
theorem Reps.erase : ∀ {ds : List D} {vs : List V} (n : Nat), Reps K M H ds vs → Reps K M H (ds.eraseIdx n) (vs.eraseIdx n)
  | [], _, _, h => by cases h.unnil; exact .nil
  | d :: ds, _, 0, h => by
    obtain ⟨v, r, rfl, h1, h⟩ := h.uncons
    exact h
  | d :: ds, _, n + 1, h => by
    obtain ⟨v, r, rfl, h1, h⟩ := h.uncons
    exact .cons h1 (Reps.erase n h)
theorem Reps.dropLast {ds : List D} {vs : List V} (h : Reps K M H ds vs) : Reps K M H ds.dropLast vs.dropLast := by
  rw [List.dropLast_eq_take, List.dropLast_eq_take, h.length]
  exact h.take _
theorem Reps.reverse : ∀ {ds : List D} {vs : List V}, Reps K M H ds vs → Reps K M H ds.reverse vs.reverse
  | [], _, h => by cases h.unnil; exact .nil
  | d :: ds, _, h => by
    obtain ⟨v, r, rfl, h1, h⟩ := h.uncons
    rw [List.reverse_cons, List.reverse_cons]
    exact h.reverse.snoc h1
theorem Reps.strs : ∀ {xs : List Tx} {vs : List V}, Reps K M H (xs.map D.str) vs → vs = (xs.map sx).map V.str
  | [], _, h => h.unnil
  | x :: xs, _, h => by
    obtain ⟨v, r, rfl, h1, h⟩ := h.uncons
    rw [(show v = _ from h1), h.strs]; rfl
theorem Reps.of_strs : ∀ (xs : List Tx), Reps K M H (xs.map D.str) ((xs.map sx).map V.str)
  | [] => .nil
  | _ :: xs => .cons rfl (Reps.of_strs xs)
theorem Reps.ints : ∀ {xs : List Int} {vs : List V}, Reps K M H (xs.map D.int) vs → vs = xs.map V.int
  | [], _, h => h.unnil
  | x :: xs, _, h => by
    obtain ⟨v, r, rfl, h1, h⟩ := h.uncons
    rw [(show v = _ from h1), h.ints]; rfl
theorem Reps.of_ints : ∀ (xs : List Int), Reps K M H (xs.map D.int) (xs.map V.int)
  | [] => .nil
  | _ :: xs => .cons rfl (Reps.of_ints xs)
theorem Reps.bls : ∀ {xs : List Bool} {vs : List V}, Reps K M H (xs.map D.bl) vs → vs = xs.map V.bl
  | [], _, h => h.unnil
  | x :: xs, _, h => by
    obtain ⟨v, r, rfl, h1, h⟩ := h.uncons
    rw [(show v = _ from h1), h.bls]; rfl

/-! slots -/
theorem RepS.get : ∀ {ds : List (Option D)} {vs : List (Option V)} {i : Nat} {d : D}, RepS K M H ds vs → ds[i]? = some (some d) → ∃ v, vs[i]? = some (some v) ∧ Rep K M H d v
  | [], _, _, _, _, e => by simp at e
  | none :: ds, _, 0, _, _, e => by simp at e
  | some d :: ds, _, 0, _, ⟨v, r, e1, h1, _⟩, e => by
    subst e1; simp at e; subst e
    exact ⟨v, rfl, h1⟩
  | none :: ds, _, i + 1, d, ⟨v, r, e1, h⟩, e => by
    subst e1
    obtain ⟨u, h1, h2⟩ := RepS.get (i := i) (d := d) h (by simpa using e)
    exact ⟨u, by simpa using h1, h2⟩
  | some _ :: ds, _, i + 1, d, ⟨v, r, e1, _, h⟩, e => by
    subst e1
    obtain ⟨u, h1, h2⟩ := RepS.get (i := i) (d := d) h (by simpa using e)
    exact ⟨u, by simpa using h1, h2⟩
theorem RepS.set {d : D} {v : V} (rp : Rep K M H d v) : ∀ {ds : List (Option D)} {vs : List (Option V)} (i : Nat), RepS K M H ds vs → RepS K M H (ds.set i (some d)) (vs.set i (some v))
  | [], _, _, h => by cases (show _ = [] from h); exact rfl
  | none :: ds, _, 0, ⟨u, r, e, h⟩ => by subst e; exact ⟨v, r, rfl, rp, h⟩
  | some _ :: ds, _, 0, ⟨u, r, e, _, h⟩ => by subst e; exact ⟨v, r, rfl, rp, h⟩
  | none :: ds, _, i + 1, ⟨u, r, e, h⟩ => by subst e; exact ⟨u, r.set i (some v), rfl, RepS.set rp i h⟩
  | some x :: ds, _, i + 1, ⟨u, r, e, h1, h⟩ => by subst e; exact ⟨u, r.set i (some v), rfl, h1, RepS.set rp i h⟩
theorem RepS.none : ∀ {ds : List (Option D)} {vs : List (Option V)} (i : Nat) (x : Option V), RepS K M H ds vs → RepS K M H (ds.set i none) (vs.set i x)
  | [], _, _, _, h => by cases (show _ = [] from h); exact rfl
  | .none :: ds, _, 0, x, ⟨u, r, e, h⟩ => by subst e; exact ⟨x, r, rfl, h⟩
  | some _ :: ds, _, 0, x, ⟨u, r, e, _, h⟩ => by subst e; exact ⟨x, r, rfl, h⟩
  | .none :: ds, _, i + 1, x, ⟨u, r, e, h⟩ => by subst e; exact ⟨u, r.set i x, rfl, RepS.none i x h⟩
  | some y :: ds, _, i + 1, x, ⟨u, r, e, h1, h⟩ => by subst e; exact ⟨u, r.set i x, rfl, h1, RepS.none i x h⟩
theorem RepS.start : ∀ {ds : List D} {vs : List V} (n : Nat), Reps K M H ds vs → RepS K M H (ds.map some ++ List.replicate n Option.none) (vs.map some ++ List.replicate n Option.none)
  | [], _, n, h => by
    cases h.unnil
    show RepS K M H (List.replicate n Option.none) (List.replicate n Option.none)
    induction n with
    | zero => exact rfl
    | succ n ih => exact ⟨.none, _, rfl, ih⟩
  | d :: ds, _, n, h => by
    obtain ⟨v, r, rfl, h1, h⟩ := h.uncons
    exact ⟨v, _, rfl, h1, RepS.start n h⟩

/-! steps -/
theorem Cor.free (c : Cor K M H) {p : Addr} (h : H p = none) : M p = none := by
  cases e : M p with
  | none => rfl
  | some mo => obtain ⟨o, h2, _⟩ := c p mo e; rw [h] at h2; cases h2
theorem Stp.new {p : Addr} {o : HO} (h : H p = none) : Stp M H M (upd H p o) := fun b u e m => ⟨by rw [upd_ne (ne_of_none e h)]; exact e, m⟩
theorem Stp.newM {p : Addr} {o : HO} {mo : MO} (h : H p = none) : Stp M H (put M p mo) (upd H p o) := fun b u e m =>
  have n := ne_of_none e h
  ⟨by rw [upd_ne n]; exact e, by rw [put_ne n]; exact m⟩
theorem Stp.write {a : Addr} {o : HO} {mo mo' : MO} (h : M a = some mo) : Stp M H (put M a mo') (upd H a o) := fun b u e m => by
  have n : b ≠ a := fun z => by rw [z, h] at m; cases m
  exact ⟨by rw [upd_ne n]; exact e, by rw [put_ne n]; exact m⟩
theorem Stp.frz {a : Addr} : Stp M H (del M a) H := fun b u e m => ⟨e, by
  by_cases z : b = a
  · rw [z, del_same]
  · rw [del_ne z]; exact m⟩
theorem Cor.new (c : Cor K M H) {p : Addr} {o : HO} (h : H p = none) : Cor K M (upd H p o) := fun a mo e => by
  obtain ⟨u, h1, r⟩ := c a mo e
  exact ⟨u, by rw [upd_ne (ne_of_none h1 h)]; exact h1, r.stp (Stp.new h)⟩
theorem Cor.newM (c : Cor K M H) {p : Addr} {o : HO} {mo : MO} (h : H p = none) (r0 : RepO K M H mo o) : Cor K (put M p mo) (upd H p o) := fun a m e => by
  by_cases z : a = p
  · subst z
    rw [put_same] at e; cases e
    exact ⟨o, upd_same, r0.stp (Stp.newM h)⟩
  · rw [put_ne z] at e
    obtain ⟨u, h1, r⟩ := c a m e
    exact ⟨u, by rw [upd_ne z]; exact h1, r.stp (Stp.newM h)⟩
theorem Cor.write (c : Cor K M H) {a : Addr} {o : HO} {mo mo' : MO} (h : M a = some mo) (r0 : RepO K M H mo' o) : Cor K (put M a mo') (upd H a o) := fun b m e => by
  by_cases z : b = a
  · subst z
    rw [put_same] at e; cases e
    exact ⟨o, upd_same, r0.stp (Stp.write h)⟩
  · rw [put_ne z] at e
    obtain ⟨u, h1, r⟩ := c b m e
    exact ⟨u, by rw [upd_ne z]; exact h1, r.stp (Stp.write h)⟩
theorem Cor.frz (c : Cor K M H) {a : Addr} : Cor K (del M a) H := fun b m e => by
  have z : b ≠ a := fun z => by rw [z, del_same] at e; cases e
  rw [del_ne z] at e
  obtain ⟨u, h1, r⟩ := c b m e
  exact ⟨u, h1, r.stp Stp.frz⟩
end
end DL

namespace DL
open PySem L2

abbrev DSt := List (Option D)
abbrev DK := D → Mu → Prop
/-- an exception: its class, its fields -/
structure XD where
  cls : Str
  fs : List (Str × D)
abbrev DX := XD → Mu → Prop
abbrev DR (α : Type) := DSt → Mu → (α → Mu → Prop) → DX → Prop
abbrev DTE := DR D
abbrev DTT := DR Bool
abbrev DTA := DR (List D)
def RepX (K : PySem.W.Frag) (M : Mu) (H : Hp) (x : XD) (c : Value) (d : Option Addr) : Prop :=
  c = .ref (He.ga K x.cls) ∧ match d with
    | none => x.fs = []
    | some a => ∃ gs, H a = some (.xd gs) ∧ M a = none ∧ gs.map (·.1) = x.fs.map (·.1) ∧ Reps K M H (x.fs.map (·.2)) (gs.map (·.2))
theorem RepX.stp {K : PySem.W.Frag} {M M' : Mu} {H H' : Hp} {x : XD} {c : Value} {d : Option Addr} (h : RepX K M H x c d) (s : Stp M H M' H') : RepX K M' H' x c d := by
  obtain ⟨e, h⟩ := h
  refine ⟨e, ?_⟩
  cases d with
  | none => exact h
  | some a =>
    obtain ⟨gs, h1, h2, h3, h4⟩ := h
    obtain ⟨h1, h2⟩ := s a _ h1 h2
    exact ⟨gs, h1, h2, h3, h4.stp s⟩

/-- where a reading stands: the values by trees, what is wanted behind it -/
structure Sit (K : PySem.W.Frag) (W : WX) {α β : Type} (R : Mu → Hp → α → β → Prop) (τ : DSt) (M : Mu) (σ : L2.St) (H : Hp) (Q0 : α → Mu → Prop) (E0 : DX) (Q : β → Hp → Prop) : Prop where
  rs : RepS K M H τ σ
  co : Cor K M H
  q : ∀ d M' v H', Q0 d M' → R M' H' d v → Cor K M' H' → Stp M H M' H' → Q v H'
  e : ∀ x M' c d H', E0 x M' → RepX K M' H' x c d → Cor K M' H' → Stp M H M' H' → W c d σ H'
/-- a reading over data, as a reading over the heap -/
def lif (K : PySem.W.Frag) (W : WX) {α β : Type} (R : Mu → Hp → α → β → Prop) (t : DR α) (σ : L2.St) (H : Hp) (Q : β → Hp → Prop) : Prop :=
  ∃ τ M Q0 E0, Sit K W R τ M σ H Q0 E0 Q ∧ t τ M Q0 E0
abbrev RD (K : PySem.W.Frag) : Mu → Hp → D → V → Prop := fun M H d v => Rep K M H d v
abbrev RB : Mu → Hp → Bool → Bool → Prop := fun _ _ a b => b = a
abbrev RA (K : PySem.W.Frag) : Mu → Hp → List D → List V → Prop := fun M H d v => Reps K M H d v
section
variable {K : PySem.W.Frag} {W : WX} {α β γ δ : Type} {R : Mu → Hp → α → β → Prop} {R1 : Mu → Hp → γ → δ → Prop} {τ : DSt} {M M1 : Mu} {σ : L2.St} {H H1 : Hp} {Q0 : α → Mu → Prop} {E0 : DX} {Q : β → Hp → Prop}
theorem Sit.go (S : Sit K W R τ M σ H Q0 E0 Q) (c : Cor K M1 H1) (s : Stp M H M1 H1) : Sit K W R τ M1 σ H1 Q0 E0 Q :=
  ⟨S.rs.stp s, c, fun d M' v H' h r c' s' => S.q d M' v H' h r c' (s.trans s'), fun x M' c d H' h r c' s' => S.e x M' c d H' h r c' (s.trans s')⟩
/-- a part is read, then the rest -/
theorem Sit.sub (S : Sit K W R τ M σ H Q0 E0 Q) {t : DR γ} {G : γ → Mu → Prop} {Q1 : δ → Hp → Prop} (h : t τ M G E0)
    (k : ∀ d M1 v H1, G d M1 → R1 M1 H1 d v → Sit K W R τ M1 σ H1 Q0 E0 Q → Stp M H M1 H1 → Q1 v H1) : lif K W R1 t σ H Q1 :=
  ⟨τ, M, G, E0, ⟨S.rs, S.co, fun d M' v H' g r c s => k d M' v H' g r (S.go c s) s, S.e⟩, h⟩
/-- the value is there -/
theorem Sit.end_ (S : Sit K W R τ M σ H Q0 E0 Q) {d : α} {v : β} (h : Q0 d M) (r : R M H d v) : Q v H := S.q d M v H h r S.co (Stp.refl _ _)
end

theorem PE.of {X : Cx} {e : Expr} {t t0 : TE} (h : PE X e t0) (k : ∀ σ H Q, t σ H Q → t0 σ H Q) : PE X e t := ⟨fun pins s σ H Q I q => h.run pins s σ H Q I (k σ H Q q)⟩
theorem PT.of {X : Cx} {e : Expr} {t t0 : TT} (h : PT X e t0) (k : ∀ σ H Q, t σ H Q → t0 σ H Q) : PT X e t := ⟨fun pins s σ H Q I q => h.run pins s σ H Q I (k σ H Q q)⟩
theorem PA.of {X : Cx} {e : List Expr} {t t0 : TA} (h : PA X e t0) (k : ∀ σ H Q, t σ H Q → t0 σ H Q) : PA X e t := ⟨fun pos pins s σ H Q I q => h.run pos pins s σ H Q I (k σ H Q q)⟩
theorem PS.of {X : Cx} {e : Stmt} {t t0 : TS} (h : PS X e t0) (k : ∀ D σ H, t D σ H → t0 D σ H) : PS X e t := ⟨fun pins s σ H D I q => h.run pins s σ H D I (k D σ H q)⟩
theorem PSs.of {X : Cx} {e : List Stmt} {t t0 : TS} (h : PSs X e t0) (k : ∀ D σ H, t D σ H → t0 D σ H) : PSs X e t := ⟨fun pins s σ H D I q => h.run pins s σ H D I (k D σ H q)⟩

/-- a context that is fit for us: W takes what is raised -/
structure Gd (X : Cx) (W : WX) : Prop where
  calm : X.calm = true
  tk : Takes X W
  hu : X.A.units + 64 < cLine
  own : PassesOwn (model X.prog X.w) X.A X.env X.xe
  nd : X.N.Nodup
theorem Gd.hu1 {X : Cx} {W : WX} (G : Gd X W) : X.A.units + 1 < cLine := Nat.lt_of_le_of_lt (Nat.add_le_add_left (by decide) _) G.hu

/-- an expression, a test, arguments over data -/
abbrev DE (X : Cx) (W : WX) (e : Expr) (t : DTE) : Prop := PE X e (lif X.K W (RD X.K) t)
abbrev DT (X : Cx) (W : WX) (e : Expr) (t : DTT) : Prop := PT X e (lif X.K W RB t)
abbrev DA (X : Cx) (W : WX) (es : List Expr) (t : DTA) : Prop := PA X es (lif X.K W (RA X.K) t)

/-! ### readings over data -/
def dVar (i : Nat) : DTE := fun τ M Q _ => match τ[i]? with
  | some (some d) => Q d M
  | _ => False
def dC (d : D) : DTE := fun _ M Q _ => Q d M
abbrev DOp := D → D → Mu → DK → Prop
def dOp (g : DOp) (ta tb : DTE) : DTE := fun τ M Q E => ta τ M (fun x M1 => tb τ M1 (fun y M2 => g x y M2 Q) E) E
abbrev DUn := D → Mu → DK → Prop
def dUn (g : DUn) (ta : DTE) : DTE := fun τ M Q E => ta τ M (fun x M1 => g x M1 Q) E

section
variable {X : Cx} {W : WX} {a b c e : Expr} {ta tb tc : DTE} {pos : Pos}
theorem de_var (i : Nat) {x : Str} (hN : X.N[i]? = some x := by rfl) (hv : Vis X.env.scope x := by first | exact Or.inl rfl | exact Or.inr (Or.inl rfl) | exact Or.inr (Or.inr rfl)) (hd : (x == ("__debug__" : Str)) = false := by decide)
    (hcd : (x == ("__classdict__" : Str)) = false := by decide) : DE X W (.Name x pos) (dVar i) := by
  refine PE.of (pe_var hN hv hd hcd) fun σ H Q ⟨τ, M, Q0, E0, S, h⟩ => ?_
  unfold dVar at h
  split at h
  · rename_i d e
    obtain ⟨v, e2, r⟩ := S.rs.get e
    exact ⟨v, e2, S.end_ h r⟩
  · exact h.elim
theorem de_c {t0 : TE} {d : D} {v : V} (h : PE X e (tC v)) (r : ∀ M H, Rep X.K M H d v) : DE X W e (dC d) := by
  refine PE.of h fun σ H Q ⟨τ, M, Q0, E0, S, h⟩ => ?_
  exact S.end_ h (r M H)
theorem de_int {i : Int} {j : Nat} : DE X W (.Constant (.int i) j pos) (dC (.int i)) := de_c (t0 := tC .non) pe_int fun _ _ => rfl
theorem de_bl {i : Bool} {j : Nat} : DE X W (.Constant (.bool i) j pos) (dC (.bl i)) := de_c (t0 := tC .non) pe_bl fun _ _ => rfl
theorem de_non {j : Nat} : DE X W (.Constant .none j pos) (dC .non) := de_c (t0 := tC .non) pe_non fun _ _ => rfl
theorem de_str {x : Str} {j : Nat} : DE X W (.Constant (.str x) j pos) (dC (.str (T x))) := de_c (t0 := tC .non) pe_str fun _ _ => by
  show V.str x = V.str (sx (T x))
  rw [sx_T]
/-- a module's constant -/
theorem de_glob {x : Str} {d : D} {v : V} {u : Value} (hg : Gl X x) (hm : X.mg x = some u) (r : RelV v u) (rd : ∀ M H, Rep X.K M H d v) (hd : (x == ("__debug__" : Str)) = false := by decide) : DE X W (.Name x pos) (dC d) :=
  de_c (t0 := tC .non) (pe_glob hg hm r hd) rd

/-- an operation over data against one over the heap -/
def OpD (K : PySem.W.Frag) (g : DOp) (r : R2) : Prop := ∀ (M : Mu) (H : Hp) (x y : D) (v u : V) (Q0 : DK) (Q : VK), Cor K M H → Rep K M H x v → Rep K M H y u → g x y M Q0 →
  (∀ d M' z H', Q0 d M' → Rep K M' H' d z → Cor K M' H' → Stp M H M' H' → Q z H') → r v u H Q
def UnD (K : PySem.W.Frag) (g : DUn) (r : V → Hp → VK → Prop) : Prop := ∀ (M : Mu) (H : Hp) (x : D) (v : V) (Q0 : DK) (Q : VK), Cor K M H → Rep K M H x v → g x M Q0 →
  (∀ d M' z H', Q0 d M' → Rep K M' H' d z → Cor K M' H' → Stp M H M' H' → Q z H') → r v H Q
theorem lif_op {g : DOp} {r : R2} (o : OpD X.K g r) {σ : L2.St} {H : Hp} {Q : VK} (h : lif X.K W (RD X.K) (dOp g ta tb) σ H Q) : tOp r (lif X.K W (RD X.K) ta) (lif X.K W (RD X.K) tb) σ H Q := by
  obtain ⟨τ, M, Q0, E0, S, h⟩ := h
  refine S.sub h fun d M1 v H1 h1 r1 S1 s1 => ?_
  refine S1.sub h1 fun d2 M2 v2 H2 h2 r2 S2 s2 => ?_
  exact o M2 H2 d d2 v v2 Q0 Q S2.co (r1.stp s2) r2 h2 S2.q
theorem de_op {op : Operator} {g : DOp} {r : R2} (ho : OpR X (binaryOp op) r) (o : OpD X.K g r) (ha : DE X W a ta) (hb : DE X W b tb) : DE X W (.BinOp a op b pos) (dOp g ta tb) :=
  PE.of (pe_op ho ha hb) fun _ _ _ h => lif_op o h
theorem de_un {op : UnaryOp} {g : DUn} {r : V → Hp → VK → Prop} (ho : UnR X (unaryOp op) r) (o : UnD X.K g r) (ha : DE X W a ta) : DE X W (.UnaryOp op a pos) (dUn g ta) := by
  refine PE.of (pe_un ho ha) fun σ H Q ⟨τ, M, Q0, E0, S, h⟩ => ?_
  refine S.sub h fun d M1 v H1 h1 r1 S1 s1 => ?_
  exact o M1 H1 d v Q0 Q S1.co r1 h1 S1.q
theorem de_cmp {op : CmpOp} {g : DOp} {r : R2} (ho : OpR X (compareOp op) r) (o : OpD X.K g r) (ha : DE X W a ta) (hb : DE X W b tb) (hm : behindInMarks op b = false) : DE X W (.Compare a [op] [b] pos) (dOp g ta tb) :=
  PE.of (pe_cmpR ho ha hb hm) fun _ _ _ h => lif_op o h
end
end DL

namespace DL
open PySem L2

theorem line24 : (sizeLine : Nat) = 16777216 := sizeLine_eq
/-! ### tests -/
def dTest (t : DTE) : DTT := fun τ M Q E => t τ M (fun d M1 => match d with
  | .bl b => Q b M1
  | _ => False) E
def dAnd (t u : DTT) : DTT := fun τ M Q E => t τ M (fun b M1 => if b = true then u τ M1 Q E else Q false M1) E
def dOr (t u : DTT) : DTT := fun τ M Q E => t τ M (fun b M1 => if b = true then Q true M1 else u τ M1 Q E) E
def dNot (t : DTT) : DTT := fun τ M Q E => t τ M (fun b M1 => Q (!b) M1) E
def dAndV (t u : DTE) : DTE := fun τ M Q E => t τ M (fun d M1 => match d with
  | .bl b => if b = true then u τ M1 Q E else Q (.bl false) M1
  | _ => False) E
def dOrV (t u : DTE) : DTE := fun τ M Q E => t τ M (fun d M1 => match d with
  | .bl b => if b = true then Q (.bl true) M1 else u τ M1 Q E
  | _ => False) E
def dNotV (t : DTE) : DTE := fun τ M Q E => t τ M (fun d M1 => match d with
  | .bl b => Q (.bl (!b)) M1
  | _ => False) E
def dIf (t : DTT) (ta tb : DTE) : DTE := fun τ M Q E => t τ M (fun b M1 => if b = true then ta τ M1 Q E else tb τ M1 Q E) E
/-- a value's truth -/
def truD (M : Mu) : D → Option Bool
  | .non => some false
  | .bl b => some b
  | .int i => some (i != 0)
  | .str x => some !x.isEmpty
  | .lst ds => some !ds.isEmpty
  | .tup ds => some !ds.isEmpty
  | .ref a => match M a with
    | some (.lst ds) => some !ds.isEmpty
    | some (.dK kvs) => some !kvs.isEmpty
    | _ => none
  | .ty _ => none
  | .scr _ => none
  | .cl _ => none
  | .exc _ _ _ _ _ => none
def dTru (t : DTE) : DTT := fun τ M Q E => t τ M (fun d M1 => match d with
  | .str x => x.length ≤ 16777216 ∧ Q (!x.isEmpty) M1
  | d => match truD M1 d with
    | some b => Q b M1
    | none => False) E
abbrev DW (X : Cx) (W : WX) (e : Expr) (t : DTT) : Prop := PW X e (lif X.K W RB t)
theorem PW.of {X : Cx} {e : Expr} {t t0 : TT} (h : PW X e t0) (k : ∀ σ H Q, t σ H Q → t0 σ H Q) : PW X e t := ⟨fun w pins s σ H Q I q => h.run w pins s σ H Q I (k σ H Q q)⟩
theorem isE_len {α β : Type} {a : List α} {b : List β} (h : a.length = b.length) : a.isEmpty = b.isEmpty := by
  cases a <;> cases b <;> simp at h ⊢
section
variable {X : Cx} {W : WX} {a b c e o : Expr} {rest es : List Expr} {ta tb tc te to : DTE} {t u v : DTT} {pos apos cpos : Pos}
theorem lif_test {σ : L2.St} {H : Hp} {Q : Bool → Hp → Prop} (h : lif X.K W RB (dTest ta) σ H Q) : lif X.K W (RD X.K) ta σ H (fun x H' => ∃ k, x = .bl k ∧ Q k H') := by
  obtain ⟨τ, M, Q0, E0, S, h⟩ := h
  refine S.sub h fun d M1 v H1 h1 r1 S1 s1 => ?_
  cases d with
  | bl b => exact ⟨b, r1, S1.end_ h1 rfl⟩
  | _ => exact h1.elim
theorem dt_cmp {op : CmpOp} {g : DOp} {r : R2} (ho : OpR X (compareOp op) r) (oo : OpD X.K g r) (ha : DE X W a ta) (hb : DE X W b tb) (hm : behindInMarks op b = false) : DT X W (.Compare a [op] [b] pos) (dTest (dOp g ta tb)) :=
  PT.of (pt_cmpR ho ha hb hm) fun _ _ _ h => lif_op oo (lif_test h)
theorem dt_bl (ha : DE X W a ta) (he : ∀ whole, isTrue a X.env whole = (do let v ← whole; standAt a.pos; holding [v] (truthy v)) := by intro _; rfl) : DT X W a (dTest ta) :=
  PT.of (pt_val ha he) fun _ _ _ h => lif_test h
theorem dt_tru (ha : DE X W a ta) (he : ∀ whole, isTrue a X.env whole = (do let v ← whole; standAt a.pos; holding [v] (truthy v)) := by intro _; rfl) : DT X W a (dTru ta) := by
  refine PT.of (pt_truth ha he) fun σ H Q ⟨τ, M, Q0, E0, S, h⟩ => ?_
  refine S.sub h fun d M1 v H1 h1 r1 S1 s1 => ?_
  have z : ∀ k, TruV X.K v H1 k → Q0 k M1 → ∃ k, TruV X.K v H1 k ∧ Q k H1 := fun k h q => ⟨k, h, S1.end_ q rfl⟩
  cases d with
  | non => cases r1; exact z false rfl h1
  | bl b => cases r1; exact z b rfl h1
  | int i => cases r1; exact z _ rfl h1
  | str x =>
    cases r1
    refine z (!x.isEmpty) ⟨by rw [sx_len, line24]; exact h1.1, ?_⟩ h1.2
    rw [sx_len]
    cases x with
    | nil => rfl
    | cons a l =>
      show true = _
      have : ((List.length (a :: l) : Int) != 0) = true := by
        rw [bne_iff_ne]
        simp only [List.length_cons]
        omega
      exact this.symm
  | ty n => exact h1.elim
  | scr n => exact h1.elim
  | cl n => exact h1.elim
  | exc _ _ _ _ _ => exact h1.elim
  | lst ds =>
    obtain ⟨a, vs, e, hh, hm, hr⟩ := (show ∃ a vs, _ from r1)
    subst e
    exact z (!ds.isEmpty) (.inl ⟨vs, .inl (.inl hh), by rw [isE_len hr.length]⟩) h1
  | tup ds =>
    obtain ⟨a, vs, e, hh, hr⟩ := (show ∃ a vs, _ from r1)
    subst e
    exact z (!ds.isEmpty) (.inr (.inl ⟨vs, hh.elim (fun q => .inl (.inl q.1)) .inr, by rw [isE_len hr.length]⟩)) h1
  | ref a =>
    cases r1
    have h2 : (match (match M1 a with
      | some (.lst ds) => some !ds.isEmpty
      | some (.dK kvs) => some !kvs.isEmpty
      | _ => none) with
      | some b => Q0 b M1
      | none => False) := h1
    cases q : M1 a with
    | none => rw [q] at h2; exact h2.elim
    | some mo =>
      rw [q] at h2
      obtain ⟨ho, e1, e2⟩ := S1.co a mo q
      cases mo with
      | lst ds =>
        obtain ⟨vs, e, hr⟩ := e2
        subst e
        exact z (!ds.isEmpty) (.inl ⟨vs, .inl (.inl e1), by rw [isE_len hr.length]⟩) h2
      | dK kvs =>
        obtain ⟨ks, e, e3, hr⟩ := e2
        subst e
        refine z (!kvs.isEmpty) (.inr (.inr ⟨ks, e1, ?_⟩)) h2
        have := congrArg List.length e3
        rw [List.length_map, List.length_map] at this
        rw [isE_len this]
      | _ => exact h2.elim
theorem dt_not (h : DT X W a t) : DT X W (.UnaryOp .Not a pos) (dNot t) := PT.of (pt_not h) fun σ H Q ⟨τ, M, Q0, E0, S, h⟩ =>
  S.sub h fun d M1 v H1 h1 r1 S1 s1 => by cases r1; exact S1.end_ h1 rfl
theorem dw_and1 (h : DT X W a t) : DW X W (.BoolOp .And [a] pos) t := pw_and1 h
theorem dw_or1 (h : DT X W a t) : DW X W (.BoolOp .Or [a] pos) t := pw_or1 h
theorem dw_and (ha : DT X W a t) (hb : DW X W (.BoolOp .And (b :: rest) pos) u) : DW X W (.BoolOp .And (a :: b :: rest) pos) (dAnd t u) :=
  PW.of (pw_and ha hb) fun σ H Q ⟨τ, M, Q0, E0, S, h⟩ => S.sub h fun d M1 v H1 h1 r1 S1 s1 => by
    cases r1
    cases d with
    | true => exact S1.sub h1 fun d M2 v H2 h2 r2 S2 s2 => by cases r2; exact S2.end_ h2 rfl
    | false => exact S1.end_ h1 rfl
theorem dw_or (ha : DT X W a t) (hb : DW X W (.BoolOp .Or (b :: rest) pos) u) : DW X W (.BoolOp .Or (a :: b :: rest) pos) (dOr t u) :=
  PW.of (pw_or ha hb) fun σ H Q ⟨τ, M, Q0, E0, S, h⟩ => S.sub h fun d M1 v H1 h1 r1 S1 s1 => by
    cases r1
    cases d with
    | false => exact S1.sub h1 fun d M2 v H2 h2 r2 S2 s2 => by cases r2; exact S2.end_ h2 rfl
    | true => exact S1.end_ h1 rfl
theorem dt_w (h : DW X W a t) : DT X W a t := PW.pt h
theorem de_one {op : BoolOp} (h : DE X W a ta) : DE X W (.BoolOp op [a] pos) ta := pe_one h
theorem de_and (ha : DE X W a ta) (hb : DE X W (.BoolOp .And (b :: rest) pos) tb) : DE X W (.BoolOp .And (a :: b :: rest) pos) (dAndV ta tb) :=
  PE.of (pe_and ha hb) fun σ H Q ⟨τ, M, Q0, E0, S, h⟩ => S.sub h fun d M1 v H1 h1 r1 S1 s1 => by
    cases d with
    | bl c =>
      refine ⟨c, r1, ?_⟩
      cases c with
      | true => exact S1.sub h1 fun d M2 v H2 h2 r2 S2 s2 => S2.end_ h2 r2
      | false => exact S1.end_ h1 rfl
    | _ => exact h1.elim
theorem de_or (ha : DE X W a ta) (hb : DE X W (.BoolOp .Or (b :: rest) pos) tb) : DE X W (.BoolOp .Or (a :: b :: rest) pos) (dOrV ta tb) :=
  PE.of (pe_or ha hb) fun σ H Q ⟨τ, M, Q0, E0, S, h⟩ => S.sub h fun d M1 v H1 h1 r1 S1 s1 => by
    cases d with
    | bl c =>
      refine ⟨c, r1, ?_⟩
      cases c with
      | false => exact S1.sub h1 fun d M2 v H2 h2 r2 S2 s2 => S2.end_ h2 r2
      | true => exact S1.end_ h1 rfl
    | _ => exact h1.elim
theorem de_not (ha : DE X W a ta) : DE X W (.UnaryOp .Not a pos) (dNotV ta) :=
  PE.of (pe_not ha) fun σ H Q ⟨τ, M, Q0, E0, S, h⟩ => S.sub h fun d M1 v H1 h1 r1 S1 s1 => by
    cases d with
    | bl c => exact ⟨c, r1, S1.end_ h1 rfl⟩
    | _ => exact h1.elim
theorem de_if (hc : DT X W c t) (ha : DE X W a ta) (hb : DE X W b tb) : DE X W (.IfExp c a b pos) (dIf t ta tb) :=
  PE.of (pe_ifExp hc ha hb) fun σ H Q ⟨τ, M, Q0, E0, S, h⟩ => S.sub h fun d M1 v H1 h1 r1 S1 s1 => by
    cases r1
    cases d with
    | true => exact S1.sub h1 fun d M2 v H2 h2 r2 S2 s2 => S2.end_ h2 r2
    | false => exact S1.sub h1 fun d M2 v H2 h2 r2 S2 s2 => S2.end_ h2 r2

/-! ### arguments, displays -/
def daNil : DTA := fun _ M Q _ => Q [] M
def daCons (te : DTE) (ta : DTA) : DTA := fun τ M Q E => te τ M (fun d M1 => ta τ M1 (fun ds M2 => Q (d :: ds) M2) E) E
def dLst (ta : DTA) : DTE := fun τ M Q E => ta τ M (fun ds M1 => ds.length ≤ 16777216 ∧ Q (.lst ds) M1) E
def dLstM (ta : DTA) : DTE := fun τ M Q E => ta τ M (fun ds M1 => ds.length ≤ 16777216 ∧ ∀ p, M1 p = none → Q (.ref p) (put M1 p (.lst ds))) E
def dTup (ta : DTA) : DTE := fun τ M Q E => ta τ M (fun ds M1 => ds.length ≤ 16777216 ∧ Q (.tup ds) M1) E
variable {tl : DTA}
theorem da_nil : DA X W [] daNil := PA.of pa_nil fun σ H Q ⟨τ, M, Q0, E0, S, h⟩ => S.end_ h Reps.nil
theorem da_cons (ha : DE X W e te) (hr : DA X W es tl) (hs : starEach (e :: es) X.env = (false, eval e X.env) :: starEach es X.env := by rfl) : DA X W (e :: es) (daCons te tl) :=
  PA.of (pa_cons ha hr hs) fun σ H Q ⟨τ, M, Q0, E0, S, h⟩ => S.sub h fun d M1 v H1 h1 r1 S1 s1 => S1.sub h1 fun ds M2 vs H2 h2 r2 S2 s2 => S2.end_ h2 (.cons (r1.stp s2) r2)
theorem rep_lst {K : PySem.W.Frag} {M : Mu} {H : Hp} {p : Addr} {ds : List D} {vs : List V} (h : H p = some (.lst vs)) (m : M p = none) (r : Reps K M H ds vs) : Rep K M H (.lst ds) (.ref p) := by
  unfold Rep
  exact ⟨p, vs, rfl, h, m, r⟩
theorem rep_tup {K : PySem.W.Frag} {M : Mu} {H : Hp} {p : Addr} {ds : List D} {vs : List V} (h : H p = some (.tup vs)) (m : M p = none) (r : Reps K M H ds vs) : Rep K M H (.tup ds) (.ref p) := by
  unfold Rep
  exact ⟨p, vs, rfl, .inl ⟨h, m⟩, r⟩
/-- a new list, not to be changed -/
theorem new_lst {K : PySem.W.Frag} {M : Mu} {H : Hp} {ds : List D} {vs : List V} {Q0 : DK} {Q : VK} (c : Cor K M H) (r : Reps K M H ds vs) (h : Q0 (.lst ds) M)
    (q : ∀ d M' z H', Q0 d M' → Rep K M' H' d z → Cor K M' H' → Stp M H M' H' → Q z H') (p : Addr) (hp : H p = none) : Q (.ref p) (upd H p (.lst vs)) :=
  q _ M _ _ h (rep_lst upd_same (c.free hp) (r.stp (Stp.new hp))) (c.new hp) (Stp.new hp)
theorem new_tup {K : PySem.W.Frag} {M : Mu} {H : Hp} {ds : List D} {vs : List V} {Q0 : DK} {Q : VK} (c : Cor K M H) (r : Reps K M H ds vs) (h : Q0 (.tup ds) M)
    (q : ∀ d M' z H', Q0 d M' → Rep K M' H' d z → Cor K M' H' → Stp M H M' H' → Q z H') (p : Addr) (hp : H p = none) : Q (.ref p) (upd H p (.tup vs)) :=
  q _ M _ _ h (rep_tup upd_same (c.free hp) (r.stp (Stp.new hp))) (c.new hp) (Stp.new hp)
theorem new_lstM {K : PySem.W.Frag} {M : Mu} {H : Hp} {ds : List D} {vs : List V} {Q0 : DK} {Q : VK} (c : Cor K M H) (r : Reps K M H ds vs) (h : ∀ p, M p = none → Q0 (.ref p) (put M p (.lst ds)))
    (q : ∀ d M' z H', Q0 d M' → Rep K M' H' d z → Cor K M' H' → Stp M H M' H' → Q z H') (p : Addr) (hp : H p = none) : Q (.ref p) (upd H p (.lst vs)) :=
  q _ _ _ _ (h p (c.free hp)) rfl (c.newM hp ⟨vs, rfl, r⟩) (Stp.newM hp)
theorem de_lst (h : DA X W es tl) : DE X W (.List es pos) (dLst tl) := PE.of (pe_lst h) fun σ H Q ⟨τ, M, Q0, E0, S, h⟩ => S.sub h fun ds M1 vs H1 h1 r1 S1 s1 =>
  ⟨by rw [r1.length, line24]; exact h1.1, new_lst S1.co r1 h1.2 S1.q⟩
theorem de_lstM (h : DA X W es tl) : DE X W (.List es pos) (dLstM tl) := PE.of (pe_lst h) fun σ H Q ⟨τ, M, Q0, E0, S, h⟩ => S.sub h fun ds M1 vs H1 h1 r1 S1 s1 =>
  ⟨by rw [r1.length, line24]; exact h1.1, new_lstM S1.co r1 h1.2 S1.q⟩
theorem de_tup {x1 : Nat} (h : DA X W es tl) : DE X W (.Tuple es x1 pos) (dTup tl) := PE.of (pe_tup h) fun σ H Q ⟨τ, M, Q0, E0, S, h⟩ => S.sub h fun ds M1 vs H1 h1 r1 S1 s1 =>
  ⟨by rw [r1.length, line24]; exact h1.1, new_tup S1.co r1 h1.2 S1.q⟩
/-- what may change is to change no more (nothing is done) -/
def dFrz (te : DTE) : DTE := fun τ M Q E => te τ M (fun d M1 => match d with
  | .ref a => (match M1 a with
    | some (.lst ds) => Q (.lst ds) (del M1 a)
    | _ => False)
  | _ => False) E
theorem de_frz (h : DE X W e te) : DE X W e (dFrz te) := PE.of h fun σ H Q ⟨τ, M, Q0, E0, S, h⟩ => S.sub h fun d M1 v H1 h1 r1 S1 s1 => by
  cases d with
  | ref a =>
    cases r1
    have h2 : (match M1 a with
      | some (.lst ds) => Q0 (.lst ds) (del M1 a)
      | _ => False) := h1
    cases q : M1 a with
    | none => rw [q] at h2; exact h2.elim
    | some mo =>
      rw [q] at h2
      cases mo with
      | lst ds =>
        obtain ⟨o, e1, vs, e2, r⟩ := S1.co a _ q
        subst e2
        exact S1.q _ _ _ _ h2 (rep_lst e1 del_same (r.stp Stp.frz)) S1.co.frz Stp.frz
      | _ => exact h2.elim
  | _ => exact h1.elim

/-! ### calls -/
abbrev DSp := List D → Mu → DK → DX → Prop
def lsp (K : PySem.W.Frag) (sp : DSp) : Sp := fun vs H Q E => ∃ ds M Q0 E0, Reps K M H ds vs ∧ Cor K M H ∧ sp ds M Q0 E0 ∧ (∀ d M' v H', Q0 d M' → Rep K M' H' d v → Cor K M' H' → Stp M H M' H' → Q v H') ∧
  ∀ x M' c d H', E0 x M' → RepX K M' H' x c d → Cor K M' H' → Stp M H M' H' → E c d H'
/-- the module's name x is a def that keeps sp -/
structure FnM (P : Program) (w : World) (K : PySem.W.Frag) (mg : Str → Option Value) (base : Heap) (k : Nat) (x : Str) (sp : DSp) : Prop where
  ex : ∃ f fd ps, FnOk P w K mg base (L2.CX P w) k f fd ps (lsp K sp) ∧ mg x = some (.ref f) ∧ PySem.W.keepIn K (.ref f) = true ∧ Binds K fd ps []
def dCall (sp : DSp) (ta : DTA) : DTE := fun τ M Q E => ta τ M (fun ds M1 => sp ds M1 Q E) E
theorem de_call {k : Nat} {x : Str} {sp : DSp} {p : Pos} (F : FnM X.prog X.w X.K X.mg X.base k x sp) (G : Gd X W) (hr : Room k X.A) (ha : DA X W (e :: es) tl) (hg : Gl X x := by rfl) (hdb : (x == ("__debug__" : Str)) = false := by decide)
    (he : starEach (e :: es) X.env = (false, eval e X.env) :: starEach es X.env := by rfl) (hpl : (backTo pos (starEach es X.env)).any (·.1) = false := by rfl) : DE X W (.Call (.Name x p) (e :: es) [] pos) (dCall sp tl) := by
  obtain ⟨f, fd, ps, Fk, hm, hk, hb⟩ := F.ex
  exact PE.of (pe_callS Fk hr hg hm hk hb (E := WE W) (passAt G.tk) ha hdb he hpl) fun σ H Q ⟨τ, M, Q0, E0, S, h⟩ => S.sub h fun ds M1 vs H1 h1 r1 S1 s1 =>
    ⟨ds, M1, Q0, E0, r1, S1.co, h1, S1.q, S1.e⟩

/-! ### subscripts, slices -/
def cut {α : Type} (xs : List α) (lo hi : Option Int) : List α := (xs.drop (HT.sIx xs.length 0 lo)).take (HT.sIx xs.length xs.length hi - HT.sIx xs.length 0 lo)
abbrev DTO := DR (Option Int)
abbrev RO : Mu → Hp → Option Int → Option Int → Prop := fun _ _ a b => b = a
abbrev DO (X : Cx) (W : WX) (e : Option Expr) (t : DTO) : Prop := PO X e (lif X.K W RO t)
theorem PO.of {X : Cx} {e : Option Expr} {t t0 : TO} (h : PO X e t0) (k : ∀ σ H Q, t σ H Q → t0 σ H Q) : PO X e t := ⟨fun pins s σ H Q I q => h.run pins s σ H Q I (k σ H Q q)⟩
def doNone : DTO := fun _ M Q _ => Q none M
def doSome (te : DTE) : DTO := fun τ M Q E => te τ M (fun d M1 => match d with
  | .int i => Q (some i) M1
  | _ => False) E
theorem do_none : DO X W none doNone := PO.of po_none fun σ H Q ⟨τ, M, Q0, E0, S, h⟩ => S.end_ h rfl
theorem do_some (h : DE X W e te) : DO X W (some e) (doSome te) := PO.of (po_some h) fun σ H Q ⟨τ, M, Q0, E0, S, h⟩ => S.sub h fun d M1 v H1 h1 r1 S1 s1 => by
  cases d with
  | int i => exact ⟨i, r1, S1.end_ h1 rfl⟩
  | _ => exact h1.elim
def gSl (d : D) (lo hi : Option Int) (M : Mu) (Q : DK) : Prop := match d with
  | .str x => x.length ≤ 16777216 ∧ Q (.str (cut x lo hi)) M
  | .lst ds => Q (.lst (cut ds lo hi)) M
  | .tup ds => ¬ (HT.sIx ds.length 0 lo = 0 ∧ HT.sIx ds.length ds.length hi = ds.length) ∧ Q (.tup (cut ds lo hi)) M
  | .ref a => (match M a with
    | some (.lst ds) => Q (.lst (cut ds lo hi)) M
    | _ => False)
  | _ => False
def dSl (te : DTE) (tl th : DTO) : DTE := fun τ M Q E => te τ M (fun d M1 => tl τ M1 (fun lo M2 => th τ M2 (fun hi M3 => gSl d lo hi M3 Q) E) E) E
theorem cut_rep {K : PySem.W.Frag} {M : Mu} {H : Hp} {ds : List D} {vs : List V} (lo hi : Option Int) (r : Reps K M H ds vs) : Reps K M H (cut ds lo hi) (cutV vs lo hi) := by
  unfold cut cutV
  rw [r.length]
  exact (r.drop _).take _
theorem de_sl {lo hi : Option Expr} {tl th : DTO} {p2 : Pos} (he : DE X W e te) (hl : DO X W lo tl) (hu : DO X W hi th) : DE X W (.Subscript e (.Slice lo hi none p2) pos) (dSl te tl th) :=
  PE.of (pe_slice (sl_list.or (sl_str.or sl_tup)) he hl hu) fun σ H Q ⟨τ, M, Q0, E0, S, h⟩ => S.sub h fun d M1 v H1 h1 r1 S1 s1 => S1.sub h1 fun l M2 v2 H2 h2 r2 S2 s2 => S2.sub h2 fun u M3 v3 H3 h3 r3 S3 s3 => by
    cases r2
    cases r3
    have r := r1.stp (s2.trans s3)
    cases d with
    | str x =>
      cases r
      refine .inr (.inl ⟨sx x, rfl, by rw [sx_len, line24]; exact h3.1, S3.end_ h3.2 ?_⟩)
      show V.str (cutS (sx x) l u) = V.str (sx (cut x l u))
      unfold cutS cut
      rw [sx_len]
      rfl
    | lst ds =>
      obtain ⟨a, vs, e, hh, hm, hr⟩ := (show ∃ a vs, _ from r)
      exact .inl ⟨a, vs, e, .inl (.inl hh), new_lst S3.co (cut_rep l u hr) h3 S3.q⟩
    | tup ds =>
      obtain ⟨a, vs, e, hh, hr⟩ := (show ∃ a vs, _ from r)
      exact .inr (.inr ⟨a, vs, e, hh.elim (fun q => .inl (.inl q.1)) .inr, by rw [hr.length]; exact h3.1, new_tup S3.co (cut_rep l u hr) h3.2 S3.q⟩)
    | ref a =>
      cases r
      have h2 : (match M3 a with
        | some (.lst ds) => Q0 (.lst (cut ds l u)) M3
        | _ => False) := h3
      cases q : M3 a with
      | none => rw [q] at h2; exact h2.elim
      | some mo =>
        rw [q] at h2
        cases mo with
        | lst ds =>
          obtain ⟨o, e1, vs, e2, hr⟩ := S3.co a _ q
          subst e2
          exact .inl ⟨a, vs, rfl, .inl (.inl e1), new_lst S3.co (cut_rep l u hr) h2 S3.q⟩
        | _ => exact h2.elim
    | _ => exact h3.elim
end
end DL

namespace DL
open PySem L2

/-! ### operators -/
def gAdd : DOp := fun x y M Q => match x, y with
  | .int i, .int j => Q (.int (i + j)) M
  | .str a, .str b => a.length + b.length ≤ 16777216 ∧ Q (.str (a ++ b)) M
  | .lst a, .lst b => a.length + b.length ≤ 16777216 ∧ Q (.lst (a ++ b)) M
  | .tup a, .tup b => a ≠ [] ∧ a.length + b.length ≤ 16777216 ∧ Q (.tup (a ++ b)) M
  | .ref p, .lst b => (match M p with
    | some (.lst a) => a.length + b.length ≤ 16777216 ∧ Q (.lst (a ++ b)) M
    | _ => False)
  | .lst a, .ref p => (match M p with
    | some (.lst b) => a.length + b.length ≤ 16777216 ∧ Q (.lst (a ++ b)) M
    | _ => False)
  | _, _ => False
def gSub : DOp := fun x y M Q => match x, y with
  | .int i, .int j => Q (.int (i - j)) M
  | _, _ => False
def gMul : DOp := fun x y M Q => match x, y with
  | .int i, .int j => CMul i j ∧ Q (.int (i * j)) M
  | _, _ => False
def gDiv : DOp := fun x y M Q => match x, y with
  | .int i, .int j => CDiv i j ∧ Q (.int (i / j)) M
  | _, _ => False
def gMod : DOp := fun x y M Q => match x, y with
  | .int i, .int j => 0 < j ∧ Q (.int (i % j)) M
  | _, _ => False
def gPow : DOp := fun x y M Q => match x, y with
  | .int i, .int j => CPow i j ∧ Q (.int (i ^ j.toNat)) M
  | _, _ => False
def gNeg : DUn := fun x M Q => match x with
  | .int i => Q (.int (-i)) M
  | _ => False
def gInt (p : Int → Int → Bool) : DOp := fun x y M Q => match x, y with
  | .int i, .int j => Q (.bl (p i j)) M
  | _, _ => False
abbrev gLt : DOp := gInt fun i j => decide (i < j)
abbrev gLe : DOp := gInt fun i j => decide (i ≤ j)
abbrev gGt : DOp := gInt fun i j => decide (j < i)
abbrev gGe : DOp := gInt fun i j => decide (j ≤ i)
section
variable {K : PySem.W.Frag}
theorem od_int {g : Int → Int → V} {gd : Int → Int → D} (hg : ∀ i j M H, Rep K M H (gd i j) (g i j)) {f : DOp} (hf : ∀ x y M Q, f x y M Q → ∃ i j, x = .int i ∧ y = .int j ∧ Q (gd i j) M) : OpD K f (rI0 g) :=
  fun M H x y v u Q0 Q c rx ry h q => by
    obtain ⟨i, j, rfl, rfl, h'⟩ := hf x y M Q0 h
    cases rx; cases ry
    exact ⟨i, j, rfl, rfl, q _ M _ H h' (hg i j M H) c (Stp.refl M H)⟩
theorem od_intC {C : Int → Int → Prop} {g : Int → Int → V} {gd : Int → Int → D} (hg : ∀ i j M H, Rep K M H (gd i j) (g i j)) {f : DOp} (hf : ∀ x y M Q, f x y M Q → ∃ i j, x = .int i ∧ y = .int j ∧ C i j ∧ Q (gd i j) M) : OpD K f (rI C g) :=
  fun M H x y v u Q0 Q c rx ry h q => by
    obtain ⟨i, j, rfl, rfl, hc, h'⟩ := hf x y M Q0 h
    cases rx; cases ry
    exact ⟨i, j, rfl, rfl, hc, q _ M _ H h' (hg i j M H) c (Stp.refl M H)⟩
theorem od_sub : OpD K gSub (rI0 fun i j => .int (i - j)) := od_int (gd := fun i j => .int (i - j)) (fun _ _ _ _ => rfl) fun x y M Q h => by
  cases x <;> cases y <;> first | exact ⟨_, _, rfl, rfl, h⟩ | exact h.elim
theorem od_mul : OpD K gMul (rI CMul fun i j => .int (i * j)) := od_intC (gd := fun i j => .int (i * j)) (fun _ _ _ _ => rfl) fun x y M Q h => by
  cases x <;> cases y <;> first | exact ⟨_, _, rfl, rfl, h⟩ | exact h.elim
theorem od_div : OpD K gDiv (rI CDiv fun i j => .int (i / j)) := od_intC (gd := fun i j => .int (i / j)) (fun _ _ _ _ => rfl) fun x y M Q h => by
  cases x <;> cases y <;> first | exact ⟨_, _, rfl, rfl, h⟩ | exact h.elim
theorem od_mod : OpD K gMod (rI (fun _ j => 0 < j) fun i j => .int (i % j)) := od_intC (gd := fun i j => .int (i % j)) (fun _ _ _ _ => rfl) fun x y M Q h => by
  cases x <;> cases y <;> first | exact ⟨_, _, rfl, rfl, h⟩ | exact h.elim
theorem od_pow : OpD K gPow (rI CPow fun i j => .int (i ^ j.toNat)) := od_intC (gd := fun i j => .int (i ^ j.toNat)) (fun _ _ _ _ => rfl) fun x y M Q h => by
  cases x <;> cases y <;> first | exact ⟨_, _, rfl, rfl, h⟩ | exact h.elim
theorem od_b {p : Int → Int → Bool} : OpD K (gInt p) (rI0 fun i j => .bl (p i j)) := od_int (gd := fun i j => .bl (p i j)) (fun _ _ _ _ => rfl) fun x y M Q h => by
  cases x <;> cases y <;> first | exact ⟨_, _, rfl, rfl, h⟩ | exact h.elim
theorem ud_neg : UnD K gNeg (rU fun i => .int (-i)) := fun M H x v Q0 Q c r h q => by
  cases x with
  | int i => cases r; exact ⟨i, rfl, q _ M _ H h rfl c (Stp.refl M H)⟩
  | _ => exact h.elim
def rAddA (K : PySem.W.Frag) : R2 := fun x y H Q => (rI0 (fun i j => .int (i + j)) x y H Q ∨ (∃ i j, x = .str i ∧ y = .str j ∧ i.length + j.length ≤ sizeLine ∧ Q (.str (i ++ j)) H)) ∨ (rCat x y H Q ∨ rCatT K x y H Q)
theorem op_addA {X : Cx} : OpR X (binaryOp .Add) (rAddA X.K) := (op_add.or op_add_str).or (op_cat.or op_catT)
theorem rep_of_lst {M : Mu} {H : Hp} {ds : List D} {v : V} (r : Rep K M H (.lst ds) v) : ∃ a vs, v = .ref a ∧ H a = some (.lst vs) ∧ M a = none ∧ Reps K M H ds vs := r
theorem rep_of_tup {M : Mu} {H : Hp} {ds : List D} {v : V} (r : Rep K M H (.tup ds) v) : ∃ a vs, v = .ref a ∧ ((H a = some (.tup vs) ∧ M a = none) ∨ WrT K a vs) ∧ Reps K M H ds vs := r
theorem sqT_of {H : Hp} {M : Mu} {a : Addr} {vs : List V} (h : (H a = some (.tup vs) ∧ M a = none) ∨ WrT K a vs) : SqT K H a vs := h.elim (fun q => .inl (.inl q.1)) .inr
theorem mu_lst {M : Mu} {H : Hp} {a : Addr} {ds : List D} (c : Cor K M H) (h : M a = some (.lst ds)) : ∃ vs, H a = some (.lst vs) ∧ Reps K M H ds vs := by
  obtain ⟨o, e1, vs, e2, hr⟩ := c a _ h
  exact ⟨vs, by rw [e1, e2], hr⟩
theorem mu_dK {M : Mu} {H : Hp} {a : Addr} {kvs : List (DKey × D)} (c : Cor K M H) (h : M a = some (.dK kvs)) : ∃ ks, H a = some (.dK ks) ∧ ks.map (·.1) = kvs.map (fun q => kO q.1) ∧ Reps K M H (kvs.map (·.2)) (ks.map (·.2)) := by
  obtain ⟨o, e1, ks, e2, e3, hr⟩ := c a _ h
  exact ⟨ks, by rw [e1, e2], e3, hr⟩
theorem mu_fK {M : Mu} {H : Hp} {a : Addr} {kvs : List (DKey × D)} {u : HO} (c : Cor K M H) (h : M a = some (.fK kvs u)) : ∃ od ks, H a = some (.frz od (.dK ks)) ∧ u = .frz od (.dK ks) ∧ ks.map (·.1) = kvs.map (fun q => kO q.1) ∧ Reps K M H (kvs.map (·.2)) (ks.map (·.2)) := by
  obtain ⟨o, e1, e0, od, ks, e2, e3, hr⟩ := c a _ h
  exact ⟨od, ks, by rw [e1, e0, e2], e2, e3, hr⟩
/-- either of the two -/
theorem mu_dR {M : Mu} {H : Hp} {a : Addr} {mo : MO} {kvs : List (DKey × D)} (c : Cor K M H) (h : M a = some mo) (hk : dOf mo = some kvs) : ∃ ks, Rd H a (.dK ks) ∧ ks.map (·.1) = kvs.map (fun q => kO q.1) ∧ Reps K M H (kvs.map (·.2)) (ks.map (·.2)) := by
  cases mo with
  | dK l =>
    cases hk
    obtain ⟨ks, h1, h2, h3⟩ := mu_dK c h
    exact ⟨ks, .inl h1, h2, h3⟩
  | fK l u =>
    cases hk
    obtain ⟨od, ks, h1, _, h2, h3⟩ := mu_fK c h
    exact ⟨ks, .inr ⟨od, h1⟩, h2, h3⟩
  | _ => cases hk
theorem od_add : OpD K gAdd (rAddA K) := fun M H x y v u Q0 Q c rx ry h q => by
  cases x with
  | int i =>
    cases y with
    | int j =>
      cases rx; cases ry
      exact .inl (.inl ⟨i, j, rfl, rfl, q _ M _ H h rfl c (Stp.refl M H)⟩)
    | _ => exact h.elim
  | str i =>
    cases y with
    | str j =>
      cases rx; cases ry
      refine .inl (.inr ⟨sx i, sx j, rfl, rfl, by rw [sx_len, sx_len, line24]; exact h.1, ?_⟩)
      rw [sx_add]
      exact q _ M _ H h.2 rfl c (Stp.refl M H)
    | _ => exact h.elim
  | lst xs =>
    obtain ⟨a, vs, rfl, ha, ma, ra⟩ := rep_of_lst rx
    cases y with
    | lst ys =>
      obtain ⟨b, us, rfl, hb, mb, rb⟩ := rep_of_lst ry
      exact .inr (.inl ⟨a, b, vs, us, rfl, rfl, ha, hb, by rw [ra.length, rb.length, line24]; exact h.1, new_lst c (ra.append rb) h.2 q⟩)
    | ref b =>
      cases ry
      have h2 : (match M b with
        | some (.lst ys) => xs.length + ys.length ≤ 16777216 ∧ Q0 (.lst (xs ++ ys)) M
        | _ => False) := h
      cases e : M b with
      | none => rw [e] at h2; exact h2.elim
      | some mo =>
        rw [e] at h2
        cases mo with
        | lst ys =>
          obtain ⟨us, hb, rb⟩ := mu_lst c e
          exact .inr (.inl ⟨a, b, vs, us, rfl, rfl, ha, hb, by rw [ra.length, rb.length, line24]; exact h2.1, new_lst c (ra.append rb) h2.2 q⟩)
        | _ => exact h2.elim
    | _ => exact h.elim
  | tup xs =>
    obtain ⟨a, vs, rfl, ha, ra⟩ := rep_of_tup rx
    cases y with
    | tup ys =>
      obtain ⟨b, us, rfl, hb, rb⟩ := rep_of_tup ry
      refine .inr (.inr ⟨a, b, vs, us, rfl, rfl, sqT_of ha, sqT_of hb, ?_, by rw [ra.length, rb.length, line24]; exact h.2.1, fun z => ?_, fun _ => new_tup c (ra.append rb) h.2.2 q⟩)
      rotate_left
      · have l := rb.length
        rw [z] at l
        have e : ys = [] := List.eq_nil_of_length_eq_zero l.symm
        subst e
        have h3 := h.2.2
        rw [List.append_nil] at h3
        exact q _ M _ H h3 rx c (Stp.refl M H)
      intro z
      have := ra.length
      rw [z] at this
      exact h.1 (List.eq_nil_of_length_eq_zero this.symm)
    | _ => exact h.elim
  | ref a =>
    cases rx
    cases y with
    | lst ys =>
      obtain ⟨b, us, rfl, hb, mb, rb⟩ := rep_of_lst ry
      have h2 : (match M a with
        | some (.lst xs) => xs.length + ys.length ≤ 16777216 ∧ Q0 (.lst (xs ++ ys)) M
        | _ => False) := h
      cases e : M a with
      | none => rw [e] at h2; exact h2.elim
      | some mo =>
        rw [e] at h2
        cases mo with
        | lst xs =>
          obtain ⟨vs, ha, ra⟩ := mu_lst c e
          exact .inr (.inl ⟨a, b, vs, us, rfl, rfl, ha, hb, by rw [ra.length, rb.length, line24]; exact h2.1, new_lst c (ra.append rb) h2.2 q⟩)
        | _ => exact h2.elim
    | _ => exact h.elim
  | _ => exact h.elim

/-! ### == -/
mutual
def pd : D → PyData
  | .non => .none
  | .bl b => .bool b
  | .int i => .int i
  | .str x => .str (sx x)
  | .ref _ => .dict []
  | .ty _ => .dict []
  | .scr _ => .dict []
  | .cl _ => .dict []
  | .exc _ _ _ _ _ => .dict []
  | .lst ds => .list (pds ds)
  | .tup ds => .tuple (pds ds)
def pds : List D → List PyData
  | [] => []
  | d :: ds => pd d :: pds ds
end
mutual
/-- plain data: no object but lists and tuples -/
def plain : D → Bool
  | .ref _ => false
  | .ty _ => false
  | .scr _ => false
  | .cl _ => false
  | .exc _ _ _ _ _ => false
  | .lst ds => plains ds
  | .tup ds => plains ds
  | _ => true
def plains : List D → Bool
  | [] => true
  | d :: ds => plain d && plains ds
end
mutual
theorem dp_of {M : Mu} {H : Hp} : ∀ {d : D} {v : V}, plain d = true → Rep K M H d v → Dp K H v (pd d)
  | .non, v, _, r => by cases (show v = _ from r); exact .non
  | .bl _, v, _, r => by cases (show v = _ from r); exact .bl _
  | .int _, v, _, r => by cases (show v = _ from r); exact .int _
  | .str _, v, _, r => by cases (show v = _ from r); exact .str _
  | .ref _, _, h, _ => by cases h
  | .ty _, _, h, _ => by cases h
  | .scr _, _, h, _ => by cases h
  | .cl _, _, h, _ => by cases h
  | .exc _ _ _ _ _, _, h, _ => by cases h
  | .lst ds, v, h, r => by
    obtain ⟨a, vs, rfl, ha, _, ra⟩ := rep_of_lst r
    unfold pd
    exact .lst (.inl (.inl ha)) (dps_of h ra)
  | .tup ds, v, h, r => by
    obtain ⟨a, vs, rfl, ha, ra⟩ := rep_of_tup r
    unfold pd
    exact .tup (sqT_of ha) (dps_of h ra)
theorem dps_of {M : Mu} {H : Hp} : ∀ {ds : List D} {vs : List V}, plains ds = true → Reps K M H ds vs → DpAll K H vs (pds ds)
  | [], vs, _, r => by cases (show vs = [] from r); exact .nil
  | d :: ds, vs, h, r => by
    obtain ⟨v, u, rfl, r1, r2⟩ := r.uncons
    have h2 : plain d = true ∧ plains ds = true := by
      have : (plain d && plains ds) = true := h
      rwa [Bool.and_eq_true] at this
    exact .cons (dp_of h2.1 r1) (dps_of h2.2 r2)
end
/-- fit for == -/
def eqOk (d : D) : Bool := plain d && SeqAt.shaped (pd d)
/-- scalars of unlike kinds that are never equal -/
def unlike : D → D → Bool
  | .non, .int _ => true | .int _, .non => true | .non, .bl _ => true | .bl _, .non => true | .non, .str _ => true | .str _, .non => true
  | .int _, .str _ => true | .str _, .int _ => true | .bl _, .str _ => true | .str _, .bl _ => true
  | _, _ => false
def gEqN (nb : Bool → Bool) : DOp := fun x y M Q => match x, y with
  | .int i, .int j => Q (.bl (nb (decide (i = j)))) M
  | .str a, .str b => Q (.bl (nb (decide (a = b)))) M
  | .bl a, .bl b => Q (.bl (nb (decide (a = b)))) M
  | .non, .non => Q (.bl (nb true)) M
  | .lst a, .lst b => eqOk (.lst a) = true ∧ eqOk (.lst b) = true ∧ Q (.bl (nb (PyData.eqv (.list (pds a)) (.list (pds b))))) M
  | .tup a, .tup b => eqOk (.tup a) = true ∧ eqOk (.tup b) = true ∧ Q (.bl (nb (PyData.eqv (.tuple (pds a)) (.tuple (pds b))))) M
  | .ref p, .lst b => (match M p with
    | some (.lst a) => eqOk (.lst a) = true ∧ eqOk (.lst b) = true ∧ Q (.bl (nb (PyData.eqv (.list (pds a)) (.list (pds b))))) M
    | _ => False)
  | .lst a, .ref p => (match M p with
    | some (.lst b) => eqOk (.lst a) = true ∧ eqOk (.lst b) = true ∧ Q (.bl (nb (PyData.eqv (.list (pds a)) (.list (pds b))))) M
    | _ => False)
  | x, y => unlike x y = true ∧ Q (.bl (nb false)) M
abbrev gEq : DOp := gEqN id
abbrev gNe : DOp := gEqN not
def rEqN (nb : Bool → Bool) (K : PySem.W.Frag) : R2 := fun x y H Q => (scal x y = true ∧ Q (.bl (nb (decide (x = y)))) H) ∨ ∃ d e, Dp K H x d ∧ Dp K H y e ∧ SeqAt.shaped d = true ∧ SeqAt.shaped e = true ∧ Q (.bl (nb (PyData.eqv d e))) H
theorem op_eqN {X : Cx} {W : WX} (G : Gd X W) : OpR X (compareOp .Eq) (rEqN id X.K) := op_eq.or (op_eqD G.hu)
theorem op_neN {X : Cx} {W : WX} (G : Gd X W) : OpR X (compareOp .NotEq) (rEqN not X.K) := op_ne.or (op_neD G.hu)
theorem ba {a b : Bool} (h : (a && b) = true) : a = true ∧ b = true := Bool.and_eq_true_iff.mp h
theorem dp_mu {M : Mu} {H : Hp} {a : Addr} {ds : List D} (c : Cor K M H) (h : M a = some (.lst ds)) (p : plain (.lst ds) = true) : Dp K H (.ref a) (pd (.lst ds)) := by
  obtain ⟨vs, ha, ra⟩ := mu_lst c h
  unfold pd
  exact .lst (.inl (.inl ha)) (dps_of p ra)
theorem od_eq {nb : Bool → Bool} : OpD K (gEqN nb) (rEqN nb K) := fun M H x y v u Q0 Q c rx ry h q => by
  have fin : ∀ b, Q0 (.bl b) M → Q (.bl b) H := fun b z => q _ M _ H z rfl c (Stp.refl M H)
  have deep : ∀ {x y : D} {v u : V}, Dp K H v (pd x) → Dp K H u (pd y) → eqOk x = true → eqOk y = true → Q0 (.bl (nb (PyData.eqv (pd x) (pd y)))) M → rEqN nb K v u H Q := fun {x y v u} d1 d2 ex ey z =>
    .inr ⟨_, _, d1, d2, (ba ex).2, (ba ey).2, fin _ z⟩
  have un : ∀ b, unlike x y = true → b = false → Q0 (.bl (nb b)) M → scal v u = true → decide (v = u) = false → rEqN nb K v u H Q := fun b _ eb z s e => .inl ⟨s, by rw [e, ← eb]; exact fin _ z⟩
  cases x with
  | non => cases y <;> first
    | (cases rx; cases ry; exact .inl ⟨rfl, fin _ h⟩)
    | (cases rx; cases ry; exact .inl ⟨rfl, fin _ h.2⟩)
    | exact absurd h.1 Bool.false_ne_true
  | bl a => cases y <;> first
    | (cases rx; cases ry; refine .inl ⟨rfl, ?_⟩; rename_i b; rw [show decide (V.bl a = V.bl b) = decide (a = b) by simp]; exact fin _ h)
    | (cases rx; cases ry; exact .inl ⟨rfl, fin _ h.2⟩)
    | exact absurd h.1 Bool.false_ne_true
  | int a => cases y <;> first
    | (cases rx; cases ry; refine .inl ⟨rfl, ?_⟩; rename_i b; rw [show decide (V.int a = V.int b) = decide (a = b) by simp]; exact fin _ h)
    | (cases rx; cases ry; exact .inl ⟨rfl, fin _ h.2⟩)
    | exact absurd h.1 Bool.false_ne_true
  | str a => cases y <;> first
    | (cases rx; cases ry; refine .inl ⟨rfl, ?_⟩; rename_i b; rw [show decide (V.str (sx a) = V.str (sx b)) = decide (a = b) by
          rw [decide_eq_decide]; exact ⟨fun z => sx_inj (V.str.inj z), fun z => by rw [z]⟩]; exact fin _ h)
    | (cases rx; cases ry; exact .inl ⟨rfl, fin _ h.2⟩)
    | exact absurd h.1 Bool.false_ne_true
  | lst a => cases y with
    | lst b => exact deep (x := .lst a) (y := .lst b) (dp_of (ba h.1).1 rx) (dp_of (ba h.2.1).1 ry) h.1 h.2.1 (by unfold pd; exact h.2.2)
    | ref p =>
      cases ry
      have h2 : (match M p with
        | some (.lst b) => eqOk (.lst a) = true ∧ eqOk (.lst b) = true ∧ Q0 (.bl (nb (PyData.eqv (.list (pds a)) (.list (pds b))))) M
        | _ => False) := h
      cases e : M p with
      | none => rw [e] at h2; exact h2.elim
      | some mo =>
        rw [e] at h2
        cases mo with
        | lst b => exact deep (x := .lst a) (y := .lst b) (dp_of (ba h2.1).1 rx) (dp_mu c e (ba h2.2.1).1) h2.1 h2.2.1 (by unfold pd; exact h2.2.2)
        | _ => exact h2.elim
    | _ => exact absurd h.1 Bool.false_ne_true
  | tup a => cases y with
    | tup b => exact deep (x := .tup a) (y := .tup b) (dp_of (ba h.1).1 rx) (dp_of (ba h.2.1).1 ry) h.1 h.2.1 (by unfold pd; exact h.2.2)
    | _ => exact absurd h.1 Bool.false_ne_true
  | ref p => cases y with
    | lst b =>
      cases rx
      have h2 : (match M p with
        | some (.lst a) => eqOk (.lst a) = true ∧ eqOk (.lst b) = true ∧ Q0 (.bl (nb (PyData.eqv (.list (pds a)) (.list (pds b))))) M
        | _ => False) := h
      cases e : M p with
      | none => rw [e] at h2; exact h2.elim
      | some mo =>
        rw [e] at h2
        cases mo with
        | lst a => exact deep (x := .lst a) (y := .lst b) (dp_mu c e (ba h2.1).1) (dp_of (ba h2.2.1).1 ry) h2.1 h2.2.1 (by unfold pd; exact h2.2.2)
        | _ => exact h2.elim
    | _ => exact absurd h.1 Bool.false_ne_true
  | ty _ => cases y <;> exact absurd h.1 Bool.false_ne_true
  | scr _ => cases y <;> exact absurd h.1 Bool.false_ne_true
  | cl _ => cases y <;> exact absurd h.1 Bool.false_ne_true
  | exc _ _ _ _ _ => cases y <;> exact absurd h.1 Bool.false_ne_true
end
end DL

namespace DL
open PySem L2

/-! ### a[i] -/
def lookK (kvs : List (DKey × D)) (k : DKey) : Option D := (kvs.find? fun q => decide (q.1 = k)).map (·.2)
def gIx : DOp := fun x y M Q => match x, y with
  | .lst ds, .int i => (match atI ds i with
    | some d => Q d M
    | none => False)
  | .tup ds, .int i => (match atI ds i with
    | some d => Q d M
    | none => False)
  | .str x, .int i => x.length ≤ 16777216 ∧ (match atI x i with
    | some c => Q (.str [c]) M
    | none => False)
  | .ref a, .int i => (match M a with
    | some (.lst ds) => (match atI ds i with
      | some d => Q d M
      | none => False)
    | some (.dK kvs) => (match lookK kvs (.inl i) with
      | some d => Q d M
      | none => False)
    | some (.fK kvs _) => (match lookK kvs (.inl i) with
      | some d => Q d M
      | none => False)
    | _ => False)
  | .ref a, .str x => (match M a with
    | some (.dK kvs) => (match lookK kvs (.inr x) with
      | some d => Q d M
      | none => False)
    | some (.fK kvs _) => (match lookK kvs (.inr x) with
      | some d => Q d M
      | none => False)
    | _ => False)
  | _, _ => False
section
variable {K : PySem.W.Frag} {M : Mu} {H : Hp}
theorem atI_rep {ds : List D} {vs : List V} {i : Int} {d : D} (r : Reps K M H ds vs) (h : atI ds i = some d) : ∃ v, atI vs i = some v ∧ Rep K M H d v := by
  unfold atI at h ⊢
  rw [r.length]
  cases e : ixN ds.length i with
  | none => rw [e] at h; cases h
  | some j =>
    rw [e] at h
    exact r.get h
theorem kO_dec (a b : DKey) : decide (kO a = kO b) = decide (a = b) := decide_eq_decide.mpr ⟨kO_inj, fun e => by rw [e]⟩
theorem look_rep {k : DKey} : ∀ {kvs : List (DKey × D)} {ks : List (Key × V)}, ks.map (·.1) = kvs.map (fun q => kO q.1) → Reps K M H (kvs.map (·.2)) (ks.map (·.2)) →
    match lookK kvs k with
    | some d => ∃ v, valV ks (kO k) = some v ∧ Rep K M H d v
    | none => valV ks (kO k) = none
  | [], [], _, _ => rfl
  | [], _ :: _, h, _ => by cases h
  | _ :: _, [], h, _ => by cases h
  | (a, d) :: kvs, (b, v) :: ks, h, r => by
    have h1 : b = kO a ∧ ks.map (·.1) = kvs.map (fun q => kO q.1) := by
      simp only [List.map_cons, List.cons.injEq] at h
      exact h
    obtain ⟨v', u', e, r1, r2⟩ := r.uncons
    have e2 : v = v' ∧ ks.map (·.2) = u' := by
      simp only [List.map_cons, List.cons.injEq] at e
      exact e
    have ih := look_rep (k := k) h1.2 (by rw [e2.2]; exact r2)
    unfold lookK valV
    rw [List.find?_cons, List.find?_cons]
    show match Option.map (fun z : DKey × D => z.2) (match decide (a = k) with | true => some (a, d) | false => kvs.find? fun q => decide (q.1 = k)) with
      | some d => ∃ w, Option.map (fun z : Key × V => z.2) (match decide (b = kO k) with | true => some (b, v) | false => ks.find? fun q => decide (q.1 = kO k)) = some w ∧ Rep K M H d w
      | none => _
    rw [h1.1, kO_dec]
    cases q : decide (a = k) with
    | true => exact ⟨v, rfl, by rw [e2.1]; exact r1⟩
    | false => exact ih
end
def rIxA (K : PySem.W.Frag) : R2 := fun x y H Q => (rIx K x y H Q) ∨ ∃ a v, x = .ref a ∧ DGet H a y (some v) ∧ Q v H
theorem ix_dict {X : Cx} {W : WX} (G : Gd X W) : IxR X (fun x y H Q => ∃ a v, x = .ref a ∧ DGet H a y (some v) ∧ Q v H) := by
  intro value slice pins s σ H x y v u Q I rx ry h hs
  obtain ⟨a, w, rfl, g, q⟩ := h
  cases rx
  exact PyProof.Rows.tail_any (dict_typeIs I g) PySem.F.slot_dict_getitem.lookup (d_getItem G.hu1 I g ry fun w' s3 I3 rw' => ⟨w, H, I3, rw', q⟩) hs
section
variable {K : PySem.W.Frag}
theorem od_ix : OpD K gIx (rIxA K) := fun M H x y v u Q0 Q c rx ry h q => by
  have fin : ∀ d w, Q0 d M → Rep K M H d w → Q w H := fun d w z r => q _ M _ H z r c (Stp.refl M H)
  cases x with
  | lst ds =>
    cases y with
    | int i =>
      obtain ⟨a, vs, rfl, ha, ma, ra⟩ := rep_of_lst rx
      cases ry
      have h2 : (match atI ds i with
        | some d => Q0 d M
        | none => False) := h
      cases e : atI ds i with
      | none => rw [e] at h2; exact h2.elim
      | some d =>
        rw [e] at h2
        obtain ⟨w, e2, r2⟩ := atI_rep ra e
        exact .inl (.inl ⟨a, vs, i, w, rfl, rfl, .inl (.inl ha), e2, fin d w h2 r2⟩)
    | _ => exact h.elim
  | tup ds =>
    cases y with
    | int i =>
      obtain ⟨a, vs, rfl, ha, ra⟩ := rep_of_tup rx
      cases ry
      have h2 : (match atI ds i with
        | some d => Q0 d M
        | none => False) := h
      cases e : atI ds i with
      | none => rw [e] at h2; exact h2.elim
      | some d =>
        rw [e] at h2
        obtain ⟨w, e2, r2⟩ := atI_rep ra e
        exact .inl (.inr (.inl ⟨a, vs, i, w, rfl, rfl, sqT_of ha, e2, fin d w h2 r2⟩))
    | _ => exact h.elim
  | str x =>
    cases y with
    | int i =>
      cases rx; cases ry
      obtain ⟨h1, h2⟩ : x.length ≤ 16777216 ∧ (match atI x i with
        | some c => Q0 (.str [c]) M
        | none => False) := h
      cases e : atI x i with
      | none => rw [e] at h2; exact h2.elim
      | some d =>
        rw [e] at h2
        exact .inl (.inr (.inr ⟨sx x, i, d, rfl, rfl, by rw [sx_len, line24]; exact h1, e, fin _ _ h2 rfl⟩))
    | _ => exact h.elim
  | ref a =>
    cases rx
    cases y with
    | int i =>
      cases ry
      have h2 : (match M a with
        | some (.lst ds) => (match atI ds i with
          | some d => Q0 d M
          | none => False)
        | some (.dK kvs) => (match lookK kvs (.inl i) with
          | some d => Q0 d M
          | none => False)
        | some (.fK kvs _) => (match lookK kvs (.inl i) with
          | some d => Q0 d M
          | none => False)
        | _ => False) := h
      cases e : M a with
      | none => rw [e] at h2; exact h2.elim
      | some mo =>
        rw [e] at h2
        cases mo with
        | lst ds =>
          obtain ⟨vs, ha, ra⟩ := mu_lst c e
          have h3 : (match atI ds i with
            | some d => Q0 d M
            | none => False) := h2
          cases e : atI ds i with
          | none => rw [e] at h3; exact h3.elim
          | some d =>
            rw [e] at h3
            obtain ⟨w, e2, r2⟩ := atI_rep ra e
            exact .inl (.inl ⟨a, vs, i, w, rfl, rfl, .inl (.inl ha), e2, fin d w h3 r2⟩)
        | dK kvs =>
          obtain ⟨ks, ha, ek, ra⟩ := mu_dK c e
          have h3 : (match lookK kvs (.inl i) with
            | some d => Q0 d M
            | none => False) := h2
          have l := look_rep (k := .inl i) ek ra
          cases e : lookK kvs (.inl i) with
          | none => rw [e] at h3; exact h3.elim
          | some d =>
            rw [e] at h3 l
            obtain ⟨w, e2, r2⟩ := l
            exact .inr ⟨a, w, rfl, .inl ⟨ks, .inl i, .inl ha, rfl, e2.symm⟩, fin d w h3 r2⟩
        | fK kvs fu =>
          obtain ⟨od, ks, ha, _, ek, ra⟩ := mu_fK c e
          have h3 : (match lookK kvs (.inl i) with
            | some d => Q0 d M
            | none => False) := h2
          have l := look_rep (k := .inl i) ek ra
          cases e : lookK kvs (.inl i) with
          | none => rw [e] at h3; exact h3.elim
          | some d =>
            rw [e] at h3 l
            obtain ⟨w, e2, r2⟩ := l
            exact .inr ⟨a, w, rfl, .inl ⟨ks, .inl i, .inr ⟨od, ha⟩, rfl, e2.symm⟩, fin d w h3 r2⟩
        | _ => exact h2.elim
    | str x =>
      cases ry
      have h2 : (match M a with
        | some (.dK kvs) => (match lookK kvs (.inr x) with
          | some d => Q0 d M
          | none => False)
        | some (.fK kvs _) => (match lookK kvs (.inr x) with
          | some d => Q0 d M
          | none => False)
        | _ => False) := h
      cases e : M a with
      | none => rw [e] at h2; exact h2.elim
      | some mo =>
        rw [e] at h2
        cases mo with
        | dK kvs =>
          obtain ⟨ks, ha, ek, ra⟩ := mu_dK c e
          have h3 : (match lookK kvs (.inr x) with
            | some d => Q0 d M
            | none => False) := h2
          have l := look_rep (k := .inr x) ek ra
          cases e : lookK kvs (.inr x) with
          | none => rw [e] at h3; exact h3.elim
          | some d =>
            rw [e] at h3 l
            obtain ⟨w, e2, r2⟩ := l
            exact .inr ⟨a, w, rfl, .inl ⟨ks, .inr (sx x), .inl ha, rfl, e2.symm⟩, fin d w h3 r2⟩
        | fK kvs fu =>
          obtain ⟨od, ks, ha, _, ek, ra⟩ := mu_fK c e
          have h3 : (match lookK kvs (.inr x) with
            | some d => Q0 d M
            | none => False) := h2
          have l := look_rep (k := .inr x) ek ra
          cases e : lookK kvs (.inr x) with
          | none => rw [e] at h3; exact h3.elim
          | some d =>
            rw [e] at h3 l
            obtain ⟨w, e2, r2⟩ := l
            exact .inr ⟨a, w, rfl, .inl ⟨ks, .inr (sx x), .inr ⟨od, ha⟩, rfl, e2.symm⟩, fin d w h3 r2⟩
        | _ => exact h2.elim
    | _ => exact h.elim
  | _ => exact h.elim
end
section
variable {X : Cx} {W : WX} {a b c e o : Expr} {rest es : List Expr} {ta tb tc te to : DTE} {tl : DTA} {pos apos cpos p : Pos}
theorem de_ix (G : Gd X W) (ha : DE X W a ta) (hb : DE X W b tb) (hs : PlainIx b := by intro _ _; rfl) : DE X W (.Subscript a b pos) (dOp gIx ta tb) :=
  PE.of (pe_ix ((ix_seq).or (ix_dict G)) ha hb hs) fun _ _ _ h => lif_op od_ix h

/-! ### in -/
def flatD : D → Bool
  | .non => true
  | .bl _ => true
  | .int _ => true
  | .str _ => true
  | _ => false
def eqF : D → D → Bool
  | .non, .non => true
  | .bl a, .bl b => a == b
  | .bl a, .int b => (if a then 1 else 0) == b
  | .int a, .bl b => a == (if b then 1 else 0)
  | .int a, .int b => a == b
  | .str a, .str b => a == b
  | _, _ => false
def inD (x : D) (ys : List D) : Bool := ys.any fun y => eqF y x
def gInN (nb : Bool → Bool) : DOp := fun x y M Q => match x, y with
  | .str [c], .str z => Q (.bl (nb (decide (c ∈ z)))) M
  | x, .lst ys => flatD x = true ∧ ys.all flatD = true ∧ Q (.bl (nb (inD x ys))) M
  | x, .tup ys => flatD x = true ∧ ys.all flatD = true ∧ Q (.bl (nb (inD x ys))) M
  | .int i, .ref a => (match M a with
    | some (.lst ys) => ys.all flatD = true ∧ Q (.bl (nb (inD (.int i) ys))) M
    | some (.dK kvs) => Q (.bl (nb (lookK kvs (.inl i)).isSome)) M
    | some (.fK kvs _) => Q (.bl (nb (lookK kvs (.inl i)).isSome)) M
    | _ => False)
  | .str x, .ref a => (match M a with
    | some (.lst ys) => ys.all flatD = true ∧ Q (.bl (nb (inD (.str x) ys))) M
    | some (.dK kvs) => Q (.bl (nb (lookK kvs (.inr x)).isSome)) M
    | some (.fK kvs _) => Q (.bl (nb (lookK kvs (.inr x)).isSome)) M
    | _ => False)
  | _, _ => False
abbrev gIn : DOp := gInN id
abbrev gNotIn : DOp := gInN not
def rInN (nb : Bool → Bool) (K : PySem.W.Frag) : R2 := fun x y H Q => (∃ (c : Nat) (z : Str), x = .str ⟨#[c]⟩ ∧ y = .str z ∧ Q (.bl (nb (decide (c ∈ z.cps.toList)))) H) ∨
  (∃ p xs, y = .ref p ∧ (SqL K H p xs ∨ SqT K H p xs) ∧ flatV x = true ∧ xs.all flatV = true ∧ Q (.bl (nb (inV x xs))) H) ∨ ∃ a o, y = .ref a ∧ DGet H a x o ∧ Q (.bl (nb o.isSome)) H
theorem op_inN (G : Gd X W) : OpR X (compareOp .In) (rInN id X.K) := by
  intro pins s σ H x y v u Q I rx ry h
  rcases h with h | ⟨p, xs, e1, e2, e3, e4, h⟩ | ⟨a, o, e, g, h⟩
  · exact op_in_sign pins s σ H x y v u Q I rx ry h
  · exact op_in_seq pins s σ H x y v u Q I rx ry ⟨p, xs, e1, e2, e3, e4, h⟩
  · subst e
    cases ry
    exact d_in G.hu1 I g rx fun s3 I3 => ⟨.bl o.isSome, H, I3, rfl, h⟩
theorem op_notInN (G : Gd X W) : OpR X (compareOp .NotIn) (rInN not X.K) := by
  intro pins s σ H x y v u Q I rx ry h
  rcases h with h | ⟨p, xs, e1, e2, e3, e4, h⟩ | ⟨a, o, e, g, h⟩
  · exact op_notInS pins s σ H x y v u Q I rx ry h
  · exact op_notIn_seq pins s σ H x y v u Q I rx ry ⟨p, xs, e1, e2, e3, e4, h⟩
  · subst e
    cases ry
    exact d_notIn G.hu1 I g rx fun s3 I3 => ⟨.bl (!o.isSome), H, I3, rfl, h⟩
end
section
variable {K : PySem.W.Frag} {M : Mu} {H : Hp}
theorem flat_rep {d : D} {v : V} (f : flatD d = true) (r : Rep K M H d v) : flatV v = true := by
  cases d with
  | non => cases (show v = _ from r); rfl
  | bl _ => cases (show v = _ from r); rfl
  | int _ => cases (show v = _ from r); rfl
  | str _ => cases (show v = _ from r); rfl
  | _ => cases f
theorem eqF_rep {d e : D} {v u : V} (f : flatD d = true) (g : flatD e = true) (r : Rep K M H d v) (s : Rep K M H e u) : eqV v u = eqF d e := by
  cases d <;> first
    | (cases f; done)
    | (cases r; cases e <;> first
      | (cases g; done)
      | (cases s; rfl)
      | (cases s; rename_i a b; show (sx a == sx b) = (a == b); rw [Bool.eq_iff_iff, beq_iff_eq, beq_iff_eq]; exact ⟨sx_inj, fun z => by rw [z]⟩))
theorem in_rep {d : D} {v : V} (f : flatD d = true) (r : Rep K M H d v) : ∀ {ds : List D} {vs : List V}, ds.all flatD = true → Reps K M H ds vs → vs.all flatV = true ∧ inV v vs = inD d ds
  | [], vs, _, h => by cases h.unnil; exact ⟨rfl, rfl⟩
  | e :: ds, vs, g, h => by
    obtain ⟨u, us, rfl, h1, h2⟩ := h.uncons
    rw [List.all_cons, Bool.and_eq_true] at g
    obtain ⟨i1, i2⟩ := in_rep f r g.2 h2
    refine ⟨by rw [List.all_cons, Bool.and_eq_true]; exact ⟨flat_rep g.1 h1, i1⟩, ?_⟩
    show (eqV u v || inV v us) = (eqF e d || inD d ds)
    rw [eqF_rep g.1 f h1 r, i2]
theorem od_in {nb : Bool → Bool} : OpD K (gInN nb) (rInN nb K) := fun M H x y v u Q0 Q c rx ry h q => by
  have fin : ∀ b, Q0 (.bl b) M → Q (.bl b) H := fun b z => q _ M _ H z rfl c (Stp.refl M H)
  have seq : ∀ {x : D} {v : V} {ys : List D} {p : Addr} {us : List V}, Rep K M H x v → (SqL K H p us ∨ SqT K H p us) → Reps K M H ys us → flatD x = true → ys.all flatD = true → Q0 (.bl (nb (inD x ys))) M → rInN nb K v (.ref p) H Q :=
    fun {x v ys p us} r1 s r2 f g z => by
      obtain ⟨i1, i2⟩ := in_rep f r1 g r2
      exact .inr (.inl ⟨p, us, rfl, s, flat_rep f r1, i1, by rw [i2]; exact fin _ z⟩)
  have dic : ∀ {k : DKey} {kvs : List (DKey × D)} {p : Addr} {mo : MO}, M p = some mo → dOf mo = some kvs → Q0 (.bl (nb (lookK kvs k).isSome)) M → rInN nb K (kV (kO k)) (.ref p) H Q := fun {k kvs p mo} e ed z => by
    obtain ⟨ks, ha, ek, ra⟩ := mu_dR c e ed
    have l := look_rep (k := k) ek ra
    refine .inr (.inr ⟨p, valV ks (kO k), rfl, .inl ⟨ks, kO k, ha, rfl, rfl⟩, ?_⟩)
    cases e2 : lookK kvs k with
    | none => rw [e2] at l z; rw [l]; exact fin _ z
    | some d =>
      rw [e2] at l z
      obtain ⟨w, e3, _⟩ := l
      rw [e3]
      exact fin _ z
  have lstC : ∀ {ys : List D}, y = .lst ys → flatD x = true ∧ ys.all flatD = true ∧ Q0 (.bl (nb (inD x ys))) M → rInN nb K v u H Q := fun {ys} e z => by
    subst e
    obtain ⟨b, us, rfl, hb, mb, rb⟩ := rep_of_lst ry
    exact seq rx (.inl (.inl (.inl hb))) rb z.1 z.2.1 z.2.2
  have tupC : ∀ {ys : List D}, y = .tup ys → flatD x = true ∧ ys.all flatD = true ∧ Q0 (.bl (nb (inD x ys))) M → rInN nb K v u H Q := fun {ys} e z => by
    subst e
    obtain ⟨b, us, rfl, hb, rb⟩ := rep_of_tup ry
    exact seq rx (.inr (sqT_of hb)) rb z.1 z.2.1 z.2.2
  cases y with
  | str z =>
    cases x with
    | str w =>
      cases w with
      | nil => exact h.elim
      | cons a l => cases l with
        | nil =>
          cases rx; cases ry
          exact .inl ⟨a, sx z, rfl, rfl, fin _ h⟩
        | cons _ _ => exact h.elim
    | _ => exact h.elim
  | lst ys => cases x <;> first
    | exact lstC rfl h
    | (rename_i w; cases w with
      | nil => exact lstC rfl h
      | cons a l => cases l <;> exact lstC rfl h)
  | tup ys => cases x <;> first
    | exact tupC rfl h
    | (rename_i w; cases w with
      | nil => exact tupC rfl h
      | cons a l => cases l <;> exact tupC rfl h)
  | ref p =>
    cases ry
    cases x with
    | int i =>
      cases rx
      have h2 : (match M p with
        | some (.lst ys) => ys.all flatD = true ∧ Q0 (.bl (nb (inD (.int i) ys))) M
        | some (.dK kvs) => Q0 (.bl (nb (lookK kvs (.inl i)).isSome)) M
        | some (.fK kvs _) => Q0 (.bl (nb (lookK kvs (.inl i)).isSome)) M
        | _ => False) := h
      cases e : M p with
      | none => rw [e] at h2; exact h2.elim
      | some mo =>
        rw [e] at h2
        cases mo with
        | lst ys =>
          obtain ⟨vs, ha, ra⟩ := mu_lst c e
          exact seq (x := .int i) rfl (.inl (.inl (.inl ha))) ra rfl h2.1 h2.2
        | dK kvs => exact dic (k := .inl i) e rfl h2
        | fK kvs fu => exact dic (k := .inl i) e rfl h2
        | _ => exact h2.elim
    | str x =>
      cases rx
      have h2 : (match M p with
        | some (.lst ys) => ys.all flatD = true ∧ Q0 (.bl (nb (inD (.str x) ys))) M
        | some (.dK kvs) => Q0 (.bl (nb (lookK kvs (.inr x)).isSome)) M
        | some (.fK kvs _) => Q0 (.bl (nb (lookK kvs (.inr x)).isSome)) M
        | _ => False) := by
        cases x with
        | nil => exact h
        | cons a l => cases l <;> exact h
      cases e : M p with
      | none => rw [e] at h2; exact h2.elim
      | some mo =>
        rw [e] at h2
        cases mo with
        | lst ys =>
          obtain ⟨vs, ha, ra⟩ := mu_lst c e
          exact seq (x := .str x) rfl (.inl (.inl (.inl ha))) ra rfl h2.1 h2.2
        | dK kvs => exact dic (k := .inr x) e rfl h2
        | fK kvs fu => exact dic (k := .inr x) e rfl h2
        | _ => exact h2.elim
    | _ => exact h.elim
  | _ => cases x <;> first
    | exact h.elim
    | (rename_i w; cases w with
      | nil => exact h.elim
      | cons a l => cases l <;> exact h.elim)
end
end DL

namespace DL
open PySem L2

/-! ### built-in functions -/
abbrev DCb := List D → Mu → DK → Prop
def dCB (g : DCb) (ta : DTA) : DTE := fun τ M Q E => ta τ M (fun ds M1 => g ds M1 Q) E
def CbD (K : PySem.W.Frag) (g : DCb) (r : List V → Hp → VK → Prop) : Prop := ∀ (M : Mu) (H : Hp) (xs : List D) (vs : List V) (Q0 : DK) (Q : VK), Cor K M H → Reps K M H xs vs → g xs M Q0 →
  (∀ d M' z H', Q0 d M' → Rep K M' H' d z → Cor K M' H' → Stp M H M' H' → Q z H') → r vs H Q
section
variable {X : Cx} {W : WX} {a b c e o : Expr} {rest es : List Expr} {ta tb tc te to : DTE} {tl : DTA} {pos apos cpos p : Pos} {x : Str} {id T : String} {g : DCb} {r : List V → Hp → VK → Prop}
theorem lif_cb (k : CbD X.K g r) {σ : L2.St} {H : Hp} {Q : VK} (h : lif X.K W (RD X.K) (dCB g tl) σ H Q) : tCB r (lif X.K W (RA X.K) tl) σ H Q := by
  obtain ⟨τ, M, Q0, E0, S, h⟩ := h
  exact S.sub h fun ds M1 vs H1 h1 r1 S1 s1 => k M1 H1 ds vs Q0 Q S1.co r1 h1 S1.q
theorem de_callB (k : CbD X.K g r) (hc : CallR X (.builtin id) r) (hm : X.mg x = none) (hv : bootBuiltins x = some (.builtin id)) (ha : DA X W (e :: es) tl) (hg : Gl X x := by rfl) (hn : x ≠ "__name__" := by decide) (hdb : (x == ("__debug__" : Str)) = false := by decide)
    (he : starEach (e :: es) X.env = (false, eval e X.env) :: starEach es X.env := by rfl) (hpl : (backTo pos (starEach es X.env)).any (·.1) = false := by rfl) : DE X W (.Call (.Name x p) (e :: es) [] pos) (dCB g tl) :=
  PE.of (pe_callB hc hg hm hv ha hn hdb he hpl) fun _ _ _ h => lif_cb k h
theorem de_callTy (k : CbD X.K g r) (hc : CallR X (.type T) r) (hm : X.mg x = none) (hv : bootBuiltins x = some (.type T)) (ha : DA X W (e :: es) tl) (hg : Gl X x := by rfl) (hn : x ≠ "__name__" := by decide) (hdb : (x == ("__debug__" : Str)) = false := by decide)
    (he : starEach (e :: es) X.env = (false, eval e X.env) :: starEach es X.env := by rfl) (hpl : (backTo pos (starEach es X.env)).any (·.1) = false := by rfl) : DE X W (.Call (.Name x p) (e :: es) [] pos) (dCB g tl) :=
  PE.of (pe_callTy hc hg hm hv ha hn hdb he hpl) fun _ _ _ h => lif_cb k h
/-- the name of a built-in class -/
theorem de_ty (hm : X.mg x = none) (hv : bootBuiltins x = some (.type T)) (hg : Gl X x := by rfl) (hn : x ≠ "__name__" := by decide) (hdb : (x == ("__debug__" : Str)) = false := by decide) : DE X W (.Name x pos) (dC (.ty T)) :=
  de_c (t0 := tC .non) (pe_bltn (v := .ty T) hg hm hv rfl hn hdb) fun _ _ => rfl
end
def gLen : DCb := fun xs M Q => match xs with
  | [.str x] => x.length ≤ 16777216 ∧ Q (.int x.length) M
  | [.lst ds] => Q (.int ds.length) M
  | [.tup ds] => Q (.int ds.length) M
  | [.scr ns] => Q (.int ns.length) M
  | [.ref a] => (match M a with
    | some (.lst ds) => Q (.int ds.length) M
    | some (.dK kvs) => Q (.int kvs.length) M
    | _ => False)
  | _ => False
def gInt1 : DCb := fun xs M Q => match xs with
  | [.int i] => Q (.int i) M
  | [.bl b] => Q (.int (if b then 1 else 0)) M
  | _ => False
def gMin2 : DCb := fun xs M Q => match xs with
  | [.int i, .int j] => Q (.int (if j < i then j else i)) M
  | _ => False
def gMax2 : DCb := fun xs M Q => match xs with
  | [.int i, .int j] => Q (.int (if j > i then j else i)) M
  | _ => False
def gList : DCb := fun xs M Q => match xs with
  | [.lst ds] => Q (.lst ds) M
  | [.tup ds] => Q (.lst ds) M
  | [.scr ns] => Q (.lst (ns.map D.int)) M
  | [.ref a] => (match M a with
    | some (.lst ds) => Q (.lst ds) M
    | _ => False)
  | _ => False
def gListM : DCb := fun xs M Q => match xs with
  | [.lst ds] => ∀ p, M p = none → Q (.ref p) (put M p (.lst ds))
  | [.tup ds] => ∀ p, M p = none → Q (.ref p) (put M p (.lst ds))
  | [.scr ns] => ∀ p, M p = none → Q (.ref p) (put M p (.lst (ns.map D.int)))
  | [.ref a] => (match M a with
    | some (.lst ds) => ∀ p, M p = none → Q (.ref p) (put M p (.lst ds))
    | _ => False)
  | _ => False
def tyD (M : Mu) : D → Option String
  | .non => some "NoneType"
  | .bl _ => some "bool"
  | .int _ => some "int"
  | .str _ => some "str"
  | .lst _ => some "list"
  | .tup _ => some "tuple"
  | .ref a => (match M a with
    | some (.lst _) => some "list"
    | some (.dK _) => some "dict"
    | _ => none)
  | .ty _ => none
  | .scr _ => none
  | .cl _ => none
  | .exc _ _ _ _ _ => none
def isaB (a b : String) : Bool := a == b || (a == "bool" && b == "int")
def gIsi : DCb := fun xs M Q => match xs with
  | [d, .ty T] => (match tyD M d with
    | some n => ["bool", "int", "str", "list", "tuple", "dict"].contains T = true ∧ Q (.bl (isaB n T)) M
    | none => False)
  | _ => False
theorem kit_isa : (["NoneType", "bool", "int", "str", "list", "tuple", "dict"].all fun a => ["bool", "int", "str", "list", "tuple", "dict"].all fun b => decide (kitB a b = some (isaB a b))) = true := by decide +kernel
theorem kit_is {a b : String} (ha : a ∈ ["NoneType", "bool", "int", "str", "list", "tuple", "dict"]) (hb : ["bool", "int", "str", "list", "tuple", "dict"].contains b = true) : kitB a b = some (isaB a b) :=
  of_decide_eq_true (List.all_eq_true.mp (List.all_eq_true.mp kit_isa a ha) b (by simpa using hb))
def rLenA (K : PySem.W.Frag) : List V → Hp → VK → Prop := fun xs H Q => (∃ p ys, xs = [.ref p] ∧ (SqL K H p ys ∨ SqT K H p ys) ∧ Q (.int ys.length) H) ∨ ((∃ z, xs = [.str z] ∧ z.length ≤ sizeLine ∧ Q (.int z.length) H) ∨ ∃ p kvs, xs = [.ref p] ∧ H p = some (.dK kvs) ∧ Q (.int kvs.length) H)
section
variable {K : PySem.W.Frag}
theorem scr_sq {M : Mu} {H : Hp} {a : Addr} {vs : List V} (h : ((∃ o, H a = some (.frz o (.lst vs))) ∧ M a = none) ∨ WrL K a vs) : SqL K H a vs := h.elim (fun q => .inl (.inr q.1)) .inr
theorem cb_len : CbD K gLen (rLenA K) := fun M H xs vs Q0 Q c r h q => by
  have fin : ∀ i : Int, Q0 (.int i) M → Q (.int i) H := fun b z => q _ M _ H z rfl c (Stp.refl M H)
  match xs, h with
  | [.str x], h =>
    obtain ⟨v, u, rfl, r1, r2⟩ := r.uncons
    cases r2.unnil; cases r1
    refine .inr (.inl ⟨sx x, rfl, by rw [sx_len, line24]; exact h.1, ?_⟩)
    rw [sx_len]
    exact fin _ h.2
  | [.lst ds], h =>
    obtain ⟨v, u, rfl, r1, r2⟩ := r.uncons
    cases r2.unnil
    obtain ⟨a, vs, rfl, ha, ma, ra⟩ := rep_of_lst r1
    exact .inl ⟨a, vs, rfl, .inl (.inl (.inl ha)), by rw [ra.length]; exact fin _ h⟩
  | [.tup ds], h =>
    obtain ⟨v, u, rfl, r1, r2⟩ := r.uncons
    cases r2.unnil
    obtain ⟨a, vs, rfl, ha, ra⟩ := rep_of_tup r1
    exact .inl ⟨a, vs, rfl, .inr (sqT_of ha), by rw [ra.length]; exact fin _ h⟩
  | [.scr ns], h =>
    obtain ⟨v, u, rfl, r1, r2⟩ := r.uncons
    cases r2.unnil
    obtain ⟨a, rfl, ha⟩ := (show ∃ a, v = .ref a ∧ _ from r1)
    exact .inl ⟨a, _, rfl, .inl (scr_sq ha), by rw [List.length_map]; exact fin _ h⟩
  | [.ref a], h =>
    obtain ⟨v, u, rfl, r1, r2⟩ := r.uncons
    cases r2.unnil; cases r1
    have h2 : (match M a with
      | some (.lst ds) => Q0 (.int ds.length) M
      | some (.dK kvs) => Q0 (.int kvs.length) M
      | _ => False) := h
    cases e : M a with
    | none => rw [e] at h2; exact h2.elim
    | some mo =>
      rw [e] at h2
      cases mo with
      | lst ds =>
        obtain ⟨vs, ha, ra⟩ := mu_lst c e
        exact .inl ⟨a, vs, rfl, .inl (.inl (.inl ha)), by rw [ra.length]; exact fin _ h2⟩
      | dK kvs =>
        obtain ⟨ks, ha, ek, ra⟩ := mu_dK c e
        have l := congrArg List.length ek
        rw [List.length_map, List.length_map] at l
        exact .inr (.inr ⟨a, ks, rfl, ha, by rw [l]; exact fin _ h2⟩)
      | _ => exact h2.elim
theorem cb_int : CbD K gInt1 (fun xs H Q => (∃ i, xs = [.int i] ∧ Q (.int i) H) ∨ ∃ k, xs = [.bl k] ∧ Q (.int (if k then 1 else 0)) H) := fun M H xs vs Q0 Q c r h q => by
  match xs, h with
  | [.int i], h =>
    obtain ⟨v, u, rfl, r1, r2⟩ := r.uncons
    cases r2.unnil; cases r1
    exact .inl ⟨i, rfl, q _ M _ H h rfl c (Stp.refl M H)⟩
  | [.bl i], h =>
    obtain ⟨v, u, rfl, r1, r2⟩ := r.uncons
    cases r2.unnil; cases r1
    exact .inr ⟨i, rfl, q _ M _ H h rfl c (Stp.refl M H)⟩
theorem cb_min : CbD K gMin2 (fun xs H Q => ∃ i j, xs = [.int i, .int j] ∧ Q (.int (if j < i then j else i)) H) := fun M H xs vs Q0 Q c r h q => by
  match xs, h with
  | [.int i, .int j], h =>
    obtain ⟨v, u, rfl, r1, r2⟩ := r.uncons
    obtain ⟨v, u, rfl, r3, r4⟩ := r2.uncons
    cases r4.unnil; cases r1; cases r3
    exact ⟨i, j, rfl, q _ M _ H h rfl c (Stp.refl M H)⟩
theorem cb_max : CbD K gMax2 (fun xs H Q => ∃ i j, xs = [.int i, .int j] ∧ Q (.int (if j > i then j else i)) H) := fun M H xs vs Q0 Q c r h q => by
  match xs, h with
  | [.int i, .int j], h =>
    obtain ⟨v, u, rfl, r1, r2⟩ := r.uncons
    obtain ⟨v, u, rfl, r3, r4⟩ := r2.uncons
    cases r4.unnil; cases r1; cases r3
    exact ⟨i, j, rfl, q _ M _ H h rfl c (Stp.refl M H)⟩
abbrev rListA (K : PySem.W.Frag) : List V → Hp → VK → Prop := fun xs H Q => ∃ p ys, xs = [.ref p] ∧ (SqL K H p ys ∨ SqT K H p ys) ∧ ∀ l, H l = none → Q (.ref l) (upd H l (.lst ys))
theorem cb_list : CbD K gList (rListA K) := fun M H xs vs Q0 Q c r h q => by
  match xs, h with
  | [.lst ds], h =>
    obtain ⟨v, u, rfl, r1, r2⟩ := r.uncons
    cases r2.unnil
    obtain ⟨a, vs, rfl, ha, ma, ra⟩ := rep_of_lst r1
    exact ⟨a, vs, rfl, .inl (.inl (.inl ha)), new_lst c ra h q⟩
  | [.tup ds], h =>
    obtain ⟨v, u, rfl, r1, r2⟩ := r.uncons
    cases r2.unnil
    obtain ⟨a, vs, rfl, ha, ra⟩ := rep_of_tup r1
    exact ⟨a, vs, rfl, .inr (sqT_of ha), new_lst c ra h q⟩
  | [.scr ns], h =>
    obtain ⟨v, u, rfl, r1, r2⟩ := r.uncons
    cases r2.unnil
    obtain ⟨a, rfl, ha⟩ := (show ∃ a, v = .ref a ∧ _ from r1)
    exact ⟨a, _, rfl, .inl (scr_sq ha), new_lst c (Reps.of_ints ns) h q⟩
  | [.ref a], h =>
    obtain ⟨v, u, rfl, r1, r2⟩ := r.uncons
    cases r2.unnil; cases r1
    have h2 : (match M a with
      | some (.lst ds) => Q0 (.lst ds) M
      | _ => False) := h
    cases e : M a with
    | none => rw [e] at h2; exact h2.elim
    | some mo =>
      rw [e] at h2
      cases mo with
      | lst ds =>
        obtain ⟨vs, ha, ra⟩ := mu_lst c e
        exact ⟨a, vs, rfl, .inl (.inl (.inl ha)), new_lst c ra h2 q⟩
      | _ => exact h2.elim
theorem cb_listM : CbD K gListM (rListA K) := fun M H xs vs Q0 Q c r h q => by
  match xs, h with
  | [.lst ds], h =>
    obtain ⟨v, u, rfl, r1, r2⟩ := r.uncons
    cases r2.unnil
    obtain ⟨a, vs, rfl, ha, ma, ra⟩ := rep_of_lst r1
    exact ⟨a, vs, rfl, .inl (.inl (.inl ha)), new_lstM c ra h q⟩
  | [.tup ds], h =>
    obtain ⟨v, u, rfl, r1, r2⟩ := r.uncons
    cases r2.unnil
    obtain ⟨a, vs, rfl, ha, ra⟩ := rep_of_tup r1
    exact ⟨a, vs, rfl, .inr (sqT_of ha), new_lstM c ra h q⟩
  | [.scr ns], h =>
    obtain ⟨v, u, rfl, r1, r2⟩ := r.uncons
    cases r2.unnil
    obtain ⟨a, rfl, ha⟩ := (show ∃ a, v = .ref a ∧ _ from r1)
    exact ⟨a, _, rfl, .inl (scr_sq ha), new_lstM c (Reps.of_ints ns) h q⟩
  | [.ref a], h =>
    obtain ⟨v, u, rfl, r1, r2⟩ := r.uncons
    cases r2.unnil; cases r1
    have h2 : (match M a with
      | some (.lst ds) => ∀ p, M p = none → Q0 (.ref p) (put M p (.lst ds))
      | _ => False) := h
    cases e : M a with
    | none => rw [e] at h2; exact h2.elim
    | some mo =>
      rw [e] at h2
      cases mo with
      | lst ds =>
        obtain ⟨vs, ha, ra⟩ := mu_lst c e
        exact ⟨a, vs, rfl, .inl (.inl (.inl ha)), new_lstM c ra h2 q⟩
      | _ => exact h2.elim
theorem ty_rep {M : Mu} {H : Hp} {d : D} {v : V} {n : String} (c : Cor K M H) (r : Rep K M H d v) (h : tyD M d = some n) : TyX K H v (.type n) ∧ n ∈ ["NoneType", "bool", "int", "str", "list", "tuple", "dict"] := by
  cases d with
  | non => cases r; cases h; exact ⟨.base .non, by decide⟩
  | bl _ => cases r; cases h; exact ⟨.base (.bl _), by decide⟩
  | int _ => cases r; cases h; exact ⟨.base (.int _), by decide⟩
  | str _ => cases r; cases h; exact ⟨.base (.str _), by decide⟩
  | lst ds =>
    cases h
    obtain ⟨a, vs, rfl, ha, ma, ra⟩ := rep_of_lst r
    exact ⟨.base (.lst ha), by decide⟩
  | tup ds =>
    cases h
    obtain ⟨a, vs, rfl, ha, ra⟩ := rep_of_tup r
    refine ⟨?_, by decide⟩
    rcases ha with ha | ⟨o, its, n, e1, e2, _⟩
    · exact .base (.tup ha.1)
    · exact .kTuple e1 e2
  | ref a =>
    cases r
    have h2 : (match M a with
      | some (.lst _) => some "list"
      | some (.dK _) => some "dict"
      | _ => none) = some n := h
    cases e : M a with
    | none => rw [e] at h2; cases h2
    | some mo =>
      rw [e] at h2
      cases mo with
      | lst ds =>
        cases h2
        obtain ⟨vs, ha, ra⟩ := mu_lst c e
        exact ⟨.base (.lst ha), by decide⟩
      | dK kvs =>
        cases h2
        obtain ⟨vs, ha, _, ra⟩ := mu_dK c e
        exact ⟨.base (.dK ha), by decide⟩
      | _ => cases h2
  | ty _ => cases h
  | scr _ => cases h
  | cl _ => cases h
  | exc _ _ _ _ _ => cases h
theorem cb_isi : CbD K gIsi (rIsi K) := fun M H xs vs Q0 Q c r h q => by
  match xs, h with
  | [d, .ty T], h =>
    obtain ⟨v, u, rfl, r1, r2⟩ := r.uncons
    obtain ⟨w, u, rfl, r3, r4⟩ := r2.uncons
    cases r4.unnil; cases r3
    have h2 : (match tyD M d with
      | some n => ["bool", "int", "str", "list", "tuple", "dict"].contains T = true ∧ Q0 (.bl (isaB n T)) M
      | none => False) := h
    cases e : tyD M d with
    | none => rw [e] at h2; exact h2.elim
    | some n =>
      rw [e] at h2
      obtain ⟨t1, t2⟩ := ty_rep c r1 e
      exact ⟨v, .ty T, .type n, .type T, _, rfl, .ty T, t1, kit_ty (kit_is t2 h2.1), q _ M _ H h2.2 rfl c (Stp.refl M H)⟩
end
theorem call_lenA {X : Cx} : CallR X (.builtin "len") (rLenA X.K) := call_len_seq.or (call_len_str.or call_lenD)
end DL

namespace DL
open PySem L2

/-! ### methods of built-in types -/
abbrev DMt := D → List D → Mu → DK → Prop
/-- is the value of that built-in type? -/
def isTy (T : String) (M : Mu) : D → Prop
  | .str _ => T = "str"
  | .lst _ => T = "list"
  | .ref a => match M a with
    | some (.lst _) => T = "list"
    | some (.dK _) => T = "dict"
    | _ => False
  | _ => False
def dMt (T : String) (g : DMt) (to : DTE) (ta : DTA) : DTE := fun τ M Q E => to τ M (fun d M1 => isTy T M1 d ∧ ta τ M1 (fun ds M2 => g d ds M2 Q) E) E
def dMt0 (T : String) (g : DMt) (to : DTE) : DTE := fun τ M Q E => to τ M (fun d M1 => isTy T M1 d ∧ g d [] M1 Q) E
def MtD (K : PySem.W.Frag) (g : DMt) (r : V → List V → Hp → VK → Prop) : Prop := ∀ (M : Mu) (H : Hp) (x : D) (v : V) (xs : List D) (vs : List V) (Q0 : DK) (Q : VK), Cor K M H → Rep K M H x v → Reps K M H xs vs → g x xs M Q0 →
  (∀ d M' z H', Q0 d M' → Rep K M' H' d z → Cor K M' H' → Stp M H M' H' → Q z H') → r v vs H Q
theorem isTy_rep {K : PySem.W.Frag} {M : Mu} {H : Hp} {T : String} {d : D} {v : V} (c : Cor K M H) (r : Rep K M H d v) (h : isTy T M d) : tyV K T v H := by
  cases d with
  | str x => cases r; exact h
  | lst ds =>
    obtain ⟨a, vs, rfl, ha, ma, ra⟩ := rep_of_lst r
    exact .inl ⟨h, vs, .inl (.inl ha)⟩
  | ref a =>
    cases r
    have h2 : (match M a with
      | some (.lst _) => T = "list"
      | some (.dK _) => T = "dict"
      | _ => False) := h
    cases e : M a with
    | none => rw [e] at h2; exact h2.elim
    | some mo =>
      rw [e] at h2
      cases mo with
      | lst ds =>
        obtain ⟨vs, ha, ra⟩ := mu_lst c e
        exact .inl ⟨h2, vs, .inl (.inl ha)⟩
      | dK kvs =>
        obtain ⟨ks, ha, _, ra⟩ := mu_dK c e
        exact .inr (.inr (.inl ⟨h2, .inl ⟨ks, ha⟩⟩))
      | _ => exact h2.elim
  | _ => exact h.elim
section
variable {X : Cx} {W : WX} {a b c e o : Expr} {rest es : List Expr} {ta tb tc te to : DTE} {tl : DTA} {pos apos cpos p : Pos} {name : Str} {id T : String} {g : DMt} {r : V → List V → Hp → VK → Prop}
theorem de_mt (pa : PlainAttrs T) (slot : Slot T name id) (hty : typeOf (.builtin id) = pure (.type "method_descriptor")) (k : MtD X.K g r) (hm : MtR X id r) (ho : DE X W o to) (ha : DA X W (e :: es) tl)
    (hbase : attributeBase o name X.env (eval o X.env) = eval o X.env := by rfl)
    (hfew : ((backTo cpos (starEach (e :: es) X.env)).all (fun x => !x.1) && (backToKw cpos (keywordEach [] X.env)).all (fun x => x.1.isSome)
      && decide ((e :: es).length + ([] : List Keyword).length + (if ([] : List Keyword).isEmpty then 0 else 1) < 30)) = true := by rfl)
    (hline : (apos.endLine == cpos.line) = true := by rfl) (hs : starEach (e :: es) X.env = (false, eval e X.env) :: starEach es X.env := by rfl) (hplain : (backTo cpos (starEach es X.env)).any (·.1) = false := by rfl) :
    DE X W (.Call (.Attribute o name apos) (e :: es) [] cpos) (dMt T g to tl) :=
  PE.of (pe_bm pa slot hty hm ho ha hbase hfew hline hs hplain) fun σ H Q ⟨τ, M, Q0, E0, S, h⟩ => S.sub h fun d M1 v H1 h1 r1 S1 s1 =>
    ⟨isTy_rep S1.co r1 h1.1, S1.sub h1.2 fun ds M2 vs H2 h2 r2 S2 s2 => k M2 H2 d v ds vs Q0 Q S2.co (r1.stp s2) r2 h2 S2.q⟩
theorem de_mt0 (pa : PlainAttrs T) (slot : Slot T name id) (hty : typeOf (.builtin id) = pure (.type "method_descriptor")) (k : MtD X.K g r) (hm : MtR X id r) (ho : DE X W o to)
    (hbase : attributeBase o name X.env (eval o X.env) = eval o X.env := by rfl) (hline : (apos.endLine == cpos.line) = true := by rfl) : DE X W (.Call (.Attribute o name apos) [] [] cpos) (dMt0 T g to) :=
  PE.of (pe_bm0 pa slot hty hm ho hbase hline) fun σ H Q ⟨τ, M, Q0, E0, S, h⟩ => S.sub h fun d M1 v H1 h1 r1 S1 s1 =>
    ⟨isTy_rep S1.co r1 h1.1, k M1 H1 d v [] [] Q0 Q S1.co r1 .nil h1.2 S1.q⟩
end
def gAppend : DMt := fun x xs M Q => match x, xs with
  | .ref a, [y] => (match M a with
    | some (.lst ds) => ds.length < 16777216 ∧ Q .non (put M a (.lst (ds ++ [y])))
    | _ => False)
  | _, _ => False
/-- the texts, one behind another -/
def joinT (s : Tx) : List Tx → Tx := TL.joinL s
def gJoin : DMt := fun x xs M Q => match x, xs with
  | .str s, [.lst ds] => ∃ ys : List Tx, ds = ys.map D.str ∧ (ys.map (·.length)).sum + ys.length * s.length ≤ 16777216 ∧ Q (.str (joinT s ys)) M
  | .str s, [.tup ds] => ∃ ys : List Tx, ds = ys.map D.str ∧ (ys.map (·.length)).sum + ys.length * s.length ≤ 16777216 ∧ Q (.str (joinT s ys)) M
  | .str s, [.ref a] => (match M a with
    | some (.lst ds) => ∃ ys : List Tx, ds = ys.map D.str ∧ (ys.map (·.length)).sum + ys.length * s.length ≤ 16777216 ∧ Q (.str (joinT s ys)) M
    | _ => False)
  | _, _ => False
def gStarts : DMt := fun x xs M Q => match x, xs with
  | .str a, [.str b] => Q (.bl (b.isPrefixOf a)) M
  | _, _ => False
section
variable {K : PySem.W.Frag}
theorem md_append : MtD K gAppend rAppend := fun M H x v xs vs Q0 Q c rx r h q => by
  match x, xs, h with
  | .ref a, [y], h =>
    obtain ⟨u, us, rfl, r1, r2⟩ := r.uncons
    cases r2.unnil; cases rx
    have h2 : (match M a with
      | some (.lst ds) => ds.length < 16777216 ∧ Q0 .non (put M a (.lst (ds ++ [y])))
      | _ => False) := h
    cases e : M a with
    | none => rw [e] at h2; exact h2.elim
    | some mo =>
      rw [e] at h2
      cases mo with
      | lst ds =>
        obtain ⟨vs, ha, ra⟩ := mu_lst c e
        exact ⟨a, vs, u, rfl, rfl, ha, by rw [ra.length, line24]; exact h2.1, q _ _ _ _ h2.2 rfl (c.write e ⟨_, rfl, ra.snoc r1⟩) (Stp.write e)⟩
      | _ => exact h2.elim
theorem tl_sx (t : Tx) : TL.tl (sx t) = t := T_sx t
theorem join_sx (s : Tx) (ys : List Tx) : PySem.Txt.join (sx s) (ys.map sx) = sx (joinT s ys) := by
  refine TL.ext_tl ?_
  rw [tl_sx, TL.join_eq]
  refine (TL.tl_join (sx s) (ys.map sx)).trans ?_
  rw [tl_sx, List.map_map]
  have : (TL.tl ∘ sx) = (id : Tx → Tx) := funext fun t => tl_sx t
  rw [this, List.map_id]
  rfl
theorem md_join : MtD K gJoin (fun x xs H Q => ∃ a p, ∃ ys : List Str, x = .str a ∧ xs = [.ref p] ∧ (SqL K H p (ys.map V.str) ∨ SqT K H p (ys.map V.str)) ∧
    (ys.map (·.length)).sum + ys.length * a.length ≤ 16777216 ∧ Q (.str (PySem.Txt.join a ys)) H) := fun M H x v xs vs Q0 Q c rx r h q => by
  have fin : ∀ {s : Tx} {p : Addr} {ds : List D} {vs : List V}, (SqL K H p vs ∨ SqT K H p vs) → Reps K M H ds vs → (∃ ys : List Tx, ds = ys.map D.str ∧ (ys.map (·.length)).sum + ys.length * s.length ≤ 16777216 ∧ Q0 (.str (joinT s ys)) M) →
      ∃ a p', ∃ ys : List Str, V.str (sx s) = .str a ∧ [V.ref p] = [.ref p'] ∧ (SqL K H p' (ys.map V.str) ∨ SqT K H p' (ys.map V.str)) ∧ (ys.map (·.length)).sum + ys.length * a.length ≤ 16777216 ∧ Q (.str (PySem.Txt.join a ys)) H :=
    fun {s p ds vs} sq ra ⟨ys, e, hz, z⟩ => by
      subst e
      have e := ra.strs
      subst e
      refine ⟨sx s, p, ys.map sx, rfl, rfl, sq, ?_, ?_⟩
      · rw [List.map_map, List.length_map, sx_len]
        have : ((fun x : Str => x.length) ∘ sx) = fun t : Tx => t.length := funext fun t => sx_len t
        rw [this]
        exact hz
      · rw [join_sx]
        exact q _ M _ H z rfl c (Stp.refl M H)
  match x, xs, h with
  | .str s, [.lst ds], h =>
    obtain ⟨u, us, rfl, r1, r2⟩ := r.uncons
    cases r2.unnil; cases rx
    obtain ⟨a, vs, rfl, ha, ma, ra⟩ := rep_of_lst r1
    exact fin (.inl (.inl (.inl ha))) ra h
  | .str s, [.tup ds], h =>
    obtain ⟨u, us, rfl, r1, r2⟩ := r.uncons
    cases r2.unnil; cases rx
    obtain ⟨a, vs, rfl, ha, ra⟩ := rep_of_tup r1
    exact fin (.inr (sqT_of ha)) ra h
  | .str s, [.ref a], h =>
    obtain ⟨u, us, rfl, r1, r2⟩ := r.uncons
    cases r2.unnil; cases rx; cases r1
    have h2 : (match M a with
      | some (.lst ds) => ∃ ys : List Tx, ds = ys.map D.str ∧ (ys.map (·.length)).sum + ys.length * s.length ≤ 16777216 ∧ Q0 (.str (joinT s ys)) M
      | _ => False) := h
    cases e : M a with
    | none => rw [e] at h2; exact h2.elim
    | some mo =>
      rw [e] at h2
      cases mo with
      | lst ds =>
        obtain ⟨vs, ha, ra⟩ := mu_lst c e
        exact fin (.inl (.inl (.inl ha))) ra h2
      | _ => exact h2.elim
theorem starts_sx (a b : Tx) : PySem.Txt.startswith (sx a) (sx b) = b.isPrefixOf a := by
  show (decide (0 + (sx b).length ≤ (sx a).length) && Builtin.Str.subAt (sx a) (sx b) 0) = _
  rw [PySem.StrLaws.subAt_eq]
  rw [Bool.eq_iff_iff, Bool.and_eq_true, decide_eq_true_iff, List.isPrefixOf_iff_prefix, sx_len, sx_len]
  show (0 + b.length ≤ a.length ∧ ((a.drop 0).take b.length == b) = true) ↔ _
  rw [List.drop_zero, beq_iff_eq, List.prefix_iff_eq_take]
  constructor
  · intro z; exact z.2.symm
  · intro z
    refine ⟨?_, z.symm⟩
    have := congrArg List.length z
    rw [List.length_take] at this
    omega
theorem md_starts : MtD K gStarts (fun x xs H Q => ∃ a b, x = .str a ∧ xs = [.str b] ∧ Q (.bl (PySem.Txt.startswith a b)) H) := fun M H x v xs vs Q0 Q c rx r h q => by
  match x, xs, h with
  | .str a, [.str b], h =>
    obtain ⟨u, us, rfl, r1, r2⟩ := r.uncons
    cases r2.unnil; cases rx; cases r1
    refine ⟨sx a, sx b, rfl, rfl, ?_⟩
    rw [starts_sx]
    exact q _ M _ H h rfl c (Stp.refl M H)
end
end DL

namespace DL
open PySem L2

/-! ### statements -/
structure DEnds where
  nx : DSt → Mu → Prop
  rt : DK
  bk : DSt → Mu → Prop := fun _ _ => False
  ct : DSt → Mu → Prop := fun _ _ => False
  xc : XD → DSt → Mu → Prop := fun _ _ _ => False
abbrev DTS := DEnds → DSt → Mu → Prop
structure SitS (K : PySem.W.Frag) (W : WX) (τ : DSt) (M : Mu) (σ : L2.St) (H : Hp) (D0 : DEnds) (D1 : Ends) : Prop where
  rs : RepS K M H τ σ
  co : Cor K M H
  nx : ∀ τ' M' σ' H', D0.nx τ' M' → RepS K M' H' τ' σ' → Cor K M' H' → Stp M H M' H' → D1.nx σ' H'
  rt : ∀ d M' v H', D0.rt d M' → Rep K M' H' d v → Cor K M' H' → Stp M H M' H' → D1.rt v H'
  bk : ∀ τ' M' σ' H', D0.bk τ' M' → RepS K M' H' τ' σ' → Cor K M' H' → Stp M H M' H' → D1.bk σ' H'
  ct : ∀ τ' M' σ' H', D0.ct τ' M' → RepS K M' H' τ' σ' → Cor K M' H' → Stp M H M' H' → D1.ct σ' H'
  xc : ∀ x τ' M' c d σ' H', D0.xc x τ' M' → RepX K M' H' x c d → RepS K M' H' τ' σ' → Cor K M' H' → Stp M H M' H' → W c d σ' H'
def lifS (K : PySem.W.Frag) (W : WX) (t : DTS) : TS := fun D1 σ H => ∃ τ M D0, SitS K W τ M σ H D0 D1 ∧ t D0 τ M
abbrev DS (X : Cx) (W : WX) (st : Stmt) (t : DTS) : Prop := PS X st (lifS X.K W t)
abbrev DSs (X : Cx) (W : WX) (st : List Stmt) (t : DTS) : Prop := PSs X st (lifS X.K W t)
section
variable {K : PySem.W.Frag} {W : WX} {τ : DSt} {M M1 : Mu} {σ σ1 : L2.St} {H H1 : Hp} {D0 : DEnds} {D1 : Ends}
theorem SitS.go (S : SitS K W τ M σ H D0 D1) {τ1 : DSt} (r : RepS K M1 H1 τ1 σ1) (c : Cor K M1 H1) (s : Stp M H M1 H1) : SitS K W τ1 M1 σ1 H1 D0 D1 :=
  ⟨r, c, fun a b c d h r' c' s' => S.nx a b c d h r' c' (s.trans s'), fun a b c d h r' c' s' => S.rt a b c d h r' c' (s.trans s'), fun a b c d h r' c' s' => S.bk a b c d h r' c' (s.trans s'),
    fun a b c d h r' c' s' => S.ct a b c d h r' c' (s.trans s'), fun x a b c d e f h r' r2 c' s' => S.xc x a b c d e f h r' r2 c' (s.trans s')⟩
abbrev DEnds.ex (D0 : DEnds) (τ : DSt) : DX := fun x M => D0.xc x τ M
/-- an expression in a statement -/
theorem SitS.sub (S : SitS K W τ M σ H D0 D1) {γ δ : Type} {R1 : Mu → Hp → γ → δ → Prop} {t : DR γ} {G : γ → Mu → Prop} {Q1 : δ → Hp → Prop} (h : t τ M G (D0.ex τ))
    (k : ∀ d M1 v H1, G d M1 → R1 M1 H1 d v → SitS K W τ M1 σ H1 D0 D1 → Stp M H M1 H1 → Q1 v H1) : lif K W R1 t σ H Q1 :=
  ⟨τ, M, G, D0.ex τ, ⟨S.rs, S.co, fun d M' v H' g r c s => k d M' v H' g r (S.go (S.rs.stp s) c s) s, fun x M' c d H' h r c' s => S.xc x τ M' c d σ H' h r (S.rs.stp s) c' s⟩, h⟩
theorem SitS.next (S : SitS K W τ M σ H D0 D1) (h : D0.nx τ M) : D1.nx σ H := S.nx τ M σ H h S.rs S.co (Stp.refl M H)
end

/-- what a target does -/
abbrev DTG := D → DSt → Mu → (DSt → Mu → Prop) → DX → Prop
abbrev DTGs := List D → DSt → Mu → (DSt → Mu → Prop) → DX → Prop
structure SitG (K : PySem.W.Frag) (W : WX) (τ : DSt) (M : Mu) (σ : L2.St) (H : Hp) (Q0 : DSt → Mu → Prop) (E0 : DX) (Q : L2.St → Hp → Prop) : Prop where
  rs : RepS K M H τ σ
  co : Cor K M H
  q : ∀ τ' M' σ' H', Q0 τ' M' → RepS K M' H' τ' σ' → Cor K M' H' → Stp M H M' H' → Q σ' H'
  e : ∀ x M' c d H', E0 x M' → RepX K M' H' x c d → Cor K M' H' → Stp M H M' H' → W c d σ H'
def lifG (K : PySem.W.Frag) (W : WX) (g : DTG) : TG := fun v σ H Q => ∃ d τ M Q0 E0, Rep K M H d v ∧ SitG K W τ M σ H Q0 E0 Q ∧ g d τ M Q0 E0
def lifGs (K : PySem.W.Frag) (W : WX) (g : DTGs) : TGs := fun vs σ H Q => ∃ ds τ M Q0, Reps K M H ds vs ∧ SitG K W τ M σ H Q0 (fun _ _ => False) Q ∧ g ds τ M Q0 (fun _ _ => False)
abbrev DG (X : Cx) (W : WX) (tg : Expr) (g : DTG) : Prop := PG X tg (lifG X.K W g)
abbrev DGs (X : Cx) (W : WX) (tg : List Expr) (g : DTGs) : Prop := PGs X tg (lifGs X.K W g)
theorem PG.of {X : Cx} {e : Expr} {t t0 : TG} (h : PG X e t0) (k : ∀ v σ H Q, t v σ H Q → t0 v σ H Q) : PG X e t := ⟨fun pins s σ H v u Q I r q => h.run pins s σ H v u Q I r (k v σ H Q q)⟩
theorem PGs.of {X : Cx} {e : List Expr} {t t0 : TGs} (h : PGs X e t0) (k : ∀ v σ H Q, t v σ H Q → t0 v σ H Q) : PGs X e t := ⟨fun pins s σ H v u Q I r q => h.run pins s σ H v u Q I r (k v σ H Q q)⟩
def dgName (i : Nat) : DTG := fun d τ M Q _ => Q (τ.set i (some d)) M
def dgNil : DTGs := fun ds τ M Q _ => match ds with
  | [] => Q τ M
  | _ => False
/-- only names may stand in a tuple of targets: E is not asked -/
def dgCons (i : Nat) (u : DTGs) : DTGs := fun ds τ M Q E => match ds with
  | d :: r => u r (τ.set i (some d)) M Q E
  | _ => False
def dgTup (n : Nat) (u : DTGs) : DTG := fun d τ M Q _ => match d with
  | .tup ds => ds.length = n ∧ u ds τ M Q (fun _ _ => False)
  | _ => False
def dgLst (n : Nat) (u : DTGs) : DTG := fun d τ M Q _ => match d with
  | .lst ds => ds.length = n ∧ u ds τ M Q (fun _ _ => False)
  | _ => False
/-- o[i] = d -/
abbrev DSet := D → D → D → Mu → (Mu → Prop) → Prop
def gSet : DSet := fun o i d M Q => match o, i with
  | .ref a, .int k => (match M a with
    | some (.lst ds) => (match ixN ds.length k with
      | some j => Q (put M a (.lst (ds.set j d)))
      | none => False)
    | _ => False)
  | _, _ => False
def dgSub (to ti : DTE) (g : DSet) : DTG := fun d τ M Q E => to τ M (fun o M1 => ti τ M1 (fun i M2 => g o i d M2 (fun M3 => Q τ M3)) E) E
section
variable {X : Cx} {W : WX} {a b c e o i : Expr} {rest es : List Expr} {ta tb tc te to ti : DTE} {tl : DTA} {tt : DTT} {pos apos cpos p : Pos} {x : Str}
theorem SitG.sub {K : PySem.W.Frag} {τ : DSt} {M : Mu} {σ : L2.St} {H : Hp} {Q0 : DSt → Mu → Prop} {E0 : DX} {Q : L2.St → Hp → Prop} (S : SitG K W τ M σ H Q0 E0 Q) {γ δ : Type} {R1 : Mu → Hp → γ → δ → Prop} {t : DR γ} {G : γ → Mu → Prop} {Q1 : δ → Hp → Prop} (h : t τ M G E0)
    (k : ∀ d M1 v H1, G d M1 → R1 M1 H1 d v → SitG K W τ M1 σ H1 Q0 E0 Q → Stp M H M1 H1 → Q1 v H1) : lif K W R1 t σ H Q1 :=
  ⟨τ, M, G, E0, ⟨S.rs, S.co, fun d M' v H' g r c s => k d M' v H' g r ⟨S.rs.stp s, c, fun a b c d h r' c' s' => S.q a b c d h r' c' (s.trans s'), fun x M' c d H' h r c' s' => S.e x M' c d H' h r c' (s.trans s')⟩ s, S.e⟩, h⟩
theorem dg_name (j : Nat) (hN : X.N.Nodup) (hi : X.N[j]? = some x := by rfl) (hx : Loc X.env.scope x := by first | exact .inl rfl | exact .inr rfl) (hf : X.fn x = true ∨ X.env.scope.names.lookup x = some .local := by first | exact .inl rfl | exact .inr rfl) : DG X W (.Name x pos) (dgName j) :=
  PG.of (pg_name hN hi hx hf) fun v σ H Q ⟨d, τ, M, Q0, E0, r, S, h⟩ => S.q _ M _ H h (S.rs.set r j) S.co (Stp.refl M H)
theorem dgs_nil : DGs X W [] dgNil := PGs.of pgs_nil fun vs σ H Q ⟨ds, τ, M, Q0, r, S, h⟩ => by
  cases ds with
  | nil => exact ⟨r.unnil, S.q _ M _ H h S.rs S.co (Stp.refl M H)⟩
  | cons d r => exact h.elim
theorem dgs_cons (j : Nat) {u : DTGs} (hN : X.N.Nodup) (h2 : DGs X W es u) (hi : X.N[j]? = some x := by rfl) (hx : Loc X.env.scope x := by first | exact .inl rfl | exact .inr rfl) (hf : X.fn x = true ∨ X.env.scope.names.lookup x = some .local := by first | exact .inl rfl | exact .inr rfl)
    (hs : (assignEach (.Name x pos :: es) X.env).map (·.2) = assign (.Name x pos) X.env :: (assignEach es X.env).map (·.2) := by rfl) : DGs X W (.Name x pos :: es) (dgCons j u) :=
  PGs.of (pgs_cons (pg_name hN hi hx hf) h2 hs) fun vs σ H Q ⟨ds, τ, M, Q0, r, S, h⟩ => by
    cases ds with
    | nil => exact h.elim
    | cons d ds =>
      obtain ⟨v, us, rfl, r1, r2⟩ := r.uncons
      exact ⟨v, us, rfl, ds, τ.set j (some d), M, Q0, r2, ⟨S.rs.set r1 j, S.co, S.q, fun _ _ _ _ _ h => h.elim⟩, h⟩
theorem dg_tup {k n : Nat} {u : DTGs} (G : Gd X W) (h : DGs X W es u) (hn : (assignEach es X.env).length = n := by rfl) (hst : (assignEach es X.env).findIdx? (·.1) = none := by rfl) : DG X W (.Tuple es k pos) (dgTup n u) :=
  PG.of (pg_tup G.calm h hn hst) fun v σ H Q ⟨d, τ, M, Q0, E0, r, S, h⟩ => by
    cases d with
    | tup ds =>
      obtain ⟨a, vs, rfl, ha, ra⟩ := rep_of_tup r
      exact ⟨a, vs, rfl, sqT_of ha, by rw [ra.length]; exact h.1, ds, τ, M, Q0, ra, ⟨S.rs, S.co, S.q, fun _ _ _ _ _ h => h.elim⟩, h.2⟩
    | _ => exact h.elim
theorem dg_lst {k n : Nat} {u : DTGs} (G : Gd X W) (h : DGs X W es u) (hn : (assignEach es X.env).length = n := by rfl) (hst : (assignEach es X.env).findIdx? (·.1) = none := by rfl) : DG X W (.Tuple es k pos) (dgLst n u) :=
  PG.of (pg_lst G.calm h hn hst) fun v σ H Q ⟨d, τ, M, Q0, E0, r, S, h⟩ => by
    cases d with
    | lst ds =>
      obtain ⟨a, vs, rfl, ha, _, ra⟩ := rep_of_lst r
      exact ⟨a, vs, rfl, .inl (.inl ha), by rw [ra.length]; exact h.1, ds, τ, M, Q0, ra, ⟨S.rs, S.co, S.q, fun _ _ _ _ _ h => h.elim⟩, h.2⟩
    | _ => exact h.elim
theorem dg_set (ho : DE X W o to) (hi : DE X W i ti) (ha : ∀ v, assign (.Subscript o i pos) X.env v = (do
      let ov ← holding [v] (eval o X.env)
      let iv ← holding [v, ov] (eval i X.env)
      standAt pos
      holding [v, ov, iv] (setItem ov iv v)
      release [v, ov, iv] []) := by intro _; rfl) : DG X W (.Subscript o i pos) (dgSub to ti gSet) :=
  PG.of (pg_sub ho hi set_list ha) fun v σ H Q ⟨d, τ, M, Q0, E0, r, S, h⟩ => S.sub h fun x M1 v1 H1 h1 r1 S1 s1 => S1.sub h1 fun y M2 v2 H2 h2 r2 S2 s2 => by
    match x, y, h2 with
    | .ref a, .int k, h2 =>
      cases r1; cases r2
      have h3 : (match M2 a with
        | some (.lst ds) => (match ixN ds.length k with
          | some j => Q0 τ (put M2 a (.lst (ds.set j d)))
          | none => False)
        | _ => False) := h2
      cases e : M2 a with
      | none => rw [e] at h3; exact h3.elim
      | some mo =>
        rw [e] at h3
        cases mo with
        | lst ds =>
          obtain ⟨vs, hv, ra⟩ := mu_lst S2.co e
          have h4 : (match ixN ds.length k with
            | some j => Q0 τ (put M2 a (.lst (ds.set j d)))
            | none => False) := h3
          cases e2 : ixN ds.length k with
          | none => rw [e2] at h4; exact h4.elim
          | some j =>
            rw [e2] at h4
            refine ⟨a, vs, k, j, rfl, rfl, hv, by rw [ra.length]; exact e2, ?_⟩
            have st := Stp.write (H := H2) (o := .lst (vs.set j v)) (mo' := .lst (ds.set j d)) e
            exact S2.q _ _ _ _ h4 (S2.rs.stp st) (S2.co.write e ⟨_, rfl, ra.set ((r.stp s1).stp s2) j⟩) st
        | _ => exact h3.elim

/-! statements -/
def dPass : DTS := fun D τ M => D.nx τ M
def dSeq (t u : DTS) : DTS := fun D τ M => t { D with nx := u D } τ M
def dSet (i : Nat) (te : DTE) : DTS := fun D τ M => te τ M (fun d M1 => D.nx (τ.set i (some d)) M1) (D.ex τ)
def dAsg (te : DTE) (g : DTG) : DTS := fun D τ M => te τ M (fun d M1 => g d τ M1 D.nx (D.ex τ)) (D.ex τ)
def dDrop (te : DTE) : DTS := fun D τ M => te τ M (fun _ M1 => D.nx τ M1) (D.ex τ)
def dRet (te : DTE) : DTS := fun D τ M => te τ M D.rt (D.ex τ)
def dRetN : DTS := fun D _ M => D.rt .non M
def dIfS (c : DTT) (t u : DTS) : DTS := fun D τ M => c τ M (fun b M1 => if b = true then t D τ M1 else u D τ M1) (D.ex τ)
def dBrk : DTS := fun D τ M => D.bk τ M
def dCnt : DTS := fun D τ M => D.ct τ M
variable {st : Stmt} {sts : List Stmt} {t u : DTS}
theorem dss_nil : DSs X W [] dPass := PSs.of pss_nil fun D1 σ H ⟨τ, M, D0, S, h⟩ => S.next h
theorem dss_cons (h1 : DS X W st t) (h2 : DSs X W sts u) : DSs X W (st :: sts) (dSeq t u) := PSs.of (pss_cons h1 h2) fun D1 σ H ⟨τ, M, D0, S, h⟩ =>
  ⟨τ, M, { D0 with nx := u D0 }, ⟨S.rs, S.co, fun τ' M' σ' H' h r c s => ⟨τ', M', D0, S.go r c s, h⟩, S.rt, S.bk, S.ct, S.xc⟩, h⟩
theorem dss_one (h1 : DS X W st t) : DSs X W [st] t := pss_one h1
theorem ds_pass : DS X W (.Pass pos) dPass := PS.of ps_pass fun D1 σ H ⟨τ, M, D0, S, h⟩ => S.next h
theorem ds_break : DS X W (.Break pos) dBrk := PS.of ps_break fun D1 σ H ⟨τ, M, D0, S, h⟩ => S.bk τ M σ H h S.rs S.co (Stp.refl M H)
theorem ds_cont : DS X W (.Continue pos) dCnt := PS.of ps_continue fun D1 σ H ⟨τ, M, D0, S, h⟩ => S.ct τ M σ H h S.rs S.co (Stp.refl M H)
theorem ds_expr (he : DE X W e te) (hs : swapsWith e none pos.line X.env = pure false := by rfl) : DS X W (.Expr e pos) (dDrop te) := PS.of (ps_expr he hs) fun D1 σ H ⟨τ, M, D0, S, h⟩ =>
  S.sub h fun d M1 v H1 h1 r1 S1 s1 => S1.next h1
theorem ds_ret (he : DE X W e te) : DS X W (.Return (some e) pos) (dRet te) := PS.of (ps_ret he) fun D1 σ H ⟨τ, M, D0, S, h⟩ => S.sub h fun d M1 v H1 h1 r1 S1 s1 => S1.rt d M1 v H1 h1 r1 S1.co (Stp.refl M1 H1)
theorem ds_retN : DS X W (.Return none pos) dRetN := PS.of ps_retN fun D1 σ H ⟨τ, M, D0, S, h⟩ => S.rt .non M .non H h rfl S.co (Stp.refl M H)
theorem ds_set (j : Nat) {pos' : Pos} (G : Gd X W) (he : DE X W e te) (hi : X.N[j]? = some x := by rfl) (hx : Loc X.env.scope x := by first | exact .inl rfl | exact .inr rfl)
    (hs : swapsWith e (some (.Name x pos')) pos.line X.env = pure false := by rfl) (hf : X.fn x = true ∨ X.env.scope.names.lookup x = some .local := by first | exact .inl rfl | exact .inr rfl) : DS X W (.Assign [.Name x pos'] e pos) (dSet j te) :=
  PS.of (ps_set G.nd hi hx he hs hf) fun D1 σ H ⟨τ, M, D0, S, h⟩ => S.sub h fun d M1 v H1 h1 r1 S1 s1 => S1.nx _ M1 _ H1 h1 (S1.rs.set r1 j) S1.co (Stp.refl M1 H1)
theorem ds_asg {tg : Expr} {g : DTG} (he : DE X W e te) (hg : DG X W tg g) (hs : swapsWithSole [tg] e pos.line X.env = pure false := by rfl) (hw : swappedStores [tg] e X.env = pure none := by rfl)
    (h1 : (assignEach [tg] X.env).map (·.2) = [assign tg X.env] := by rfl) : DS X W (.Assign [tg] e pos) (dAsg te g) :=
  PS.of (ps_asg he hg hs hw h1) fun D1 σ H ⟨τ, M, D0, S, h⟩ => S.sub h fun d M1 v H1 h1 r1 S1 s1 =>
    ⟨d, τ, M1, D0.nx, D0.ex τ, r1, ⟨S1.rs, S1.co, S1.nx, fun x M' c d H' h r c' s' => S1.xc x τ M' c d σ H' h r (S1.rs.stp s') c' s'⟩, h1⟩
theorem ds_if {sa sb : List Stmt} (hc : DT X W c tt) (ha : DSs X W sa t) (hb : DSs X W sb u) : DS X W (.If c sa sb pos) (dIfS tt t u) :=
  PS.of (ps_if hc ha hb) fun D1 σ H ⟨τ, M, D0, S, h⟩ => S.sub h fun d M1 v H1 h1 r1 S1 s1 => by
    cases r1
    cases d with
    | true => exact ⟨τ, M1, D0, S1, h1⟩
    | false => exact ⟨τ, M1, D0, S1, h1⟩

/-! ### loops -/
/-- an iterator gives these data, whatever happens meanwhile -/
def ItOk (K : PySem.W.Frag) (M : Mu) (H : Hp) (ds : List D) (J : It) : Prop := ∀ M' H', Stp M H M' H' → Cor K M' H' →
  (∀ i, ds.length ≤ i → J.stop i H') ∧ (∀ i, i < ds.length → J.go i H') ∧ ∀ i d v H2, ds[i]? = some d → J.yld i H' v H2 → Rep K M' H2 d v ∧ Cor K M' H2 ∧ Stp M' H' M' H2
abbrev DTI := DR (List D)
abbrev DI (X : Cx) (W : WX) (tg iter : Expr) (ti : DTI) : Prop := PI X tg iter (lif X.K W (ItOk X.K) ti)
theorem PI.of {X : Cx} {tg e : Expr} {t t0 : TI} (h : PI X tg e t0) (k : ∀ σ H R, t σ H R → t0 σ H R) : PI X tg e t := ⟨fun pins s σ H R I q => h.run pins s σ H R I (k σ H R q)⟩
def wFor (g : DTG) (tb : DTS) (D0 : DEnds) : List D → DSt → Mu → Prop
  | [], τ, M => D0.nx τ M
  | d :: ds, τ, M => g d τ M (fun τ1 M1 => tb { D0 with nx := wFor g tb D0 ds, ct := wFor g tb D0 ds, bk := D0.nx } τ1 M1) (D0.ex τ)
def dFor (ti : DTI) (g : DTG) (tb : DTS) : DTS := fun D0 τ M => ti τ M (fun ds M1 => wFor g tb D0 ds τ M1) (D0.ex τ)
theorem ds_for {tg iter : Expr} {body : List Stmt} {ti : DTI} {g : DTG} {tb : DTS} (G : Gd X W) (hi : DI X W tg iter ti) (hg : DG X W tg g) (hb : DSs X W body tb) (hs : ∀ x, foldedSetIterable iter X.env x = pure x := by intro _; rfl) :
    DS X W (.For tg iter body [] pos) (dFor ti g tb) :=
  PS.of (ps_for G.own G.calm hi hg hb hs) fun D1 σ H ⟨τ, M, D0, S, h⟩ => S.sub h fun ds M1 J H1 h1 r1 S1 s1 => by
    refine ⟨fun i m σ2 H2 => m = ds.length - i ∧ i ≤ ds.length ∧ ∃ τ2 M2, Stp M1 H1 M2 H2 ∧ SitS X.K W τ2 M2 σ2 H2 D0 D1 ∧ wFor g tb D0 (ds.drop i) τ2 M2, ⟨ds.length, rfl, Nat.zero_le _, τ, M1, Stp.refl M1 H1, S1, h1⟩, ?_⟩
    rintro i m σ2 H2 ⟨rfl, hi, τ2, M2, s2, S2, h2⟩
    obtain ⟨k1, k2, k3⟩ := r1 M2 H2 s2 S2.co
    by_cases hlt : i < ds.length
    · have e : ds.drop i = ds[i] :: ds.drop (i + 1) := List.drop_eq_getElem_cons hlt
      rw [e] at h2
      refine .inr ⟨k2 i hlt, fun σ3 H3 => ∃ τ3 M3, Stp M1 H1 M3 H3 ∧ SitS X.K W τ3 M3 σ3 H3 D0 D1 ∧ wFor g tb D0 (ds.drop (i + 1)) τ3 M3, fun σ3 H3 q => ⟨ds.length - (i + 1), by omega, rfl, hlt, q⟩, fun x H3 y => ?_⟩
      obtain ⟨y1, y2, y3⟩ := k3 i ds[i] x H3 (List.getElem?_eq_getElem hlt) y
      have S3 := S2.go (S2.rs.stp y3) y2 y3
      refine ⟨ds[i], τ2, M2, _, D0.ex τ2, y1, ⟨S3.rs, S3.co, fun τ4 M4 σ4 H4 h4 r4 c4 s4 => ?_, fun x M' c d H' h r c' s' => S3.xc x τ2 M' c d σ2 H' h r (S3.rs.stp s') c' s'⟩, h2⟩
      have S4 := S3.go r4 c4 s4
      exact ⟨τ4, M4, { D0 with nx := wFor g tb D0 (ds.drop (i + 1)), ct := wFor g tb D0 (ds.drop (i + 1)), bk := D0.nx }, ⟨S4.rs, S4.co, fun a b c d h r c' s => ⟨a, b, (s2.trans (y3.trans s4)).trans s, S4.go r c' s, h⟩, S4.rt, S4.nx, fun a b c d h r c' s => ⟨a, b, (s2.trans (y3.trans s4)).trans s, S4.go r c' s, h⟩, S4.xc⟩, h4⟩
    · have e : i = ds.length := by omega
      rw [e, List.drop_length] at h2
      exact .inl ⟨k1 i (by omega), S2.next h2⟩
def dWhile (c : DTT) (tb : DTS) : DTS := fun D0 τ M => ∃ I : Nat → DSt → Mu → Prop, (∃ n, I n τ M) ∧ ∀ n τ M, I n τ M →
  c τ M (fun b M1 => if b = true then tb { D0 with nx := fun τ' M' => ∃ n', n' < n ∧ I n' τ' M', ct := fun τ' M' => ∃ n', n' < n ∧ I n' τ' M', bk := D0.nx } τ M1 else D0.nx τ M1) (D0.ex τ)
theorem ds_while {c : Expr} {body : List Stmt} {tc : DTT} {tb : DTS} (G : Gd X W) (hc : DT X W c tc) (hb : DSs X W body tb) : DS X W (.While c body [] pos) (dWhile tc tb) :=
  PS.of (ps_while G.own hc hb) fun D1 σ H ⟨τ, M, D0, S, I, ⟨n0, i0⟩, turn⟩ => by
    refine ⟨fun n σ2 H2 => ∃ τ2 M2, SitS X.K W τ2 M2 σ2 H2 D0 D1 ∧ I n τ2 M2, ⟨n0, τ, M, S, i0⟩, ?_⟩
    rintro n σ2 H2 ⟨τ2, M2, S2, i2⟩
    refine S2.sub (turn n τ2 M2 i2) fun b M3 v H3 h3 r3 S3 s3 => ?_
    cases r3
    cases b with
    | false => exact S3.next h3
    | true =>
      refine ⟨fun σ4 H4 => ∃ n', n' < n ∧ ∃ τ4 M4, SitS X.K W τ4 M4 σ4 H4 D0 D1 ∧ I n' τ4 M4, fun σ4 H4 ⟨n', l, q⟩ => ⟨n', l, q⟩, τ2, M3, { D0 with nx := fun τ' M' => ∃ n', n' < n ∧ I n' τ' M', ct := fun τ' M' => ∃ n', n' < n ∧ I n' τ' M', bk := D0.nx }, ⟨S3.rs, S3.co, ?_, S3.rt, S3.nx, ?_, S3.xc⟩, h3⟩
      · rintro a b c d ⟨n', l, q⟩ r c' s
        exact ⟨n', l, a, b, S3.go r c' s, q⟩
      · rintro a b c d ⟨n', l, q⟩ r c' s
        exact ⟨n', l, a, b, S3.go r c' s, q⟩

/-! what is walked -/
def diStr (te : DTE) : DTI := fun τ M Q E => te τ M (fun d M1 => match d with
  | .str x => Q (x.map fun c => D.str [c]) M1
  | _ => False) E
def diLst (te : DTE) : DTI := fun τ M Q E => te τ M (fun d M1 => match d with
  | .lst ds => Q ds M1
  | _ => False) E
def diTup (te : DTE) : DTI := fun τ M Q E => te τ M (fun d M1 => match d with
  | .tup ds => Q ds M1
  | _ => False) E
/-- 0, 1, .. below n; lo, lo + 1, .. -/
def upTo (lo : Int) (n : Nat) : List D := (List.range n).map fun i : Nat => D.int (lo + i)
def diRng1 (ta : DTA) : DTI := fun τ M Q E => ta τ M (fun ds M1 => match ds with
  | [.int j] => -(2 ^ 62) ≤ j ∧ j < 2 ^ 62 ∧ Q (upTo 0 j.toNat) M1
  | _ => False) E
def diRng2 (ta : DTA) : DTI := fun τ M Q E => ta τ M (fun ds M1 => match ds with
  | [.int i, .int j] => (-(2 ^ 62) ≤ i ∧ i < 2 ^ 62 ∧ -(2 ^ 62) ≤ j ∧ j < 2 ^ 62) ∧ Q (upTo i (j - i).toNat) M1
  | _ => False) E
theorem upTo_len (lo : Int) (n : Nat) : (upTo lo n).length = n := by simp [upTo]
theorem upTo_get {lo : Int} {n i : Nat} {d : D} (h : (upTo lo n)[i]? = some d) : d = .int (lo + i) := by
  unfold upTo at h
  rw [List.getElem?_map] at h
  cases e : (List.range n)[i]? with
  | none => rw [e] at h; cases h
  | some j =>
    rw [e] at h
    have := List.getElem?_range (n := n) (i := i)
    cases h
    have hl : i < n := by
      have := (List.getElem?_eq_some_iff.mp e).1
      simpa using this
    rw [List.getElem?_range hl] at e
    cases e
    rfl
theorem it_rng {K : PySem.W.Frag} {M : Mu} {H : Hp} (lo : Int) (n : Nat) : ItOk K M H (upTo lo n) (Itr lo n) := fun M' H' s c => by
  refine ⟨fun i h => by rw [upTo_len] at h; exact h, fun i h => by rw [upTo_len] at h; exact h, fun i d v H2 h y => ?_⟩
  obtain ⟨rfl, rfl⟩ := y
  rw [upTo_get h]
  exact ⟨rfl, c, Stp.refl M' _⟩
theorem it_lst {K : PySem.W.Frag} {M : Mu} {H : Hp} {a : Addr} {ds : List D} {vs : List V} (ha : H a = some (.lst vs)) (ma : M a = none) (ra : Reps K M H ds vs) : ItOk K M H ds (Itl K a) := fun M' H' s c => by
  have q : SqL K H' a vs := .inl (.inl (s a _ ha ma).1)
  have r := ra.stp s
  refine ⟨fun i h => ⟨vs, q, by rw [ra.length]; exact h⟩, fun i h => ?_, fun i d v H2 h y => ?_⟩
  · obtain ⟨v, h1, _⟩ := r.get (List.getElem?_eq_getElem h)
    exact ⟨vs, v, q, h1⟩
  · obtain ⟨rfl, y⟩ := y
    obtain ⟨u, h1, h2⟩ := r.get h
    have := y vs q
    rw [h1] at this
    cases this
    exact ⟨h2, c, Stp.refl M' _⟩
theorem it_tup {K : PySem.W.Frag} {M : Mu} {H : Hp} {a : Addr} {ds : List D} {vs : List V} (ha : (H a = some (.tup vs) ∧ M a = none) ∨ WrT K a vs) (ra : Reps K M H ds vs) : ItOk K M H ds (Itt K a) := fun M' H' s c => by
  have q : SqT K H' a vs := ha.elim (fun z => .inl (.inl (s a _ z.1 z.2).1)) .inr
  have r := ra.stp s
  refine ⟨fun i h => ⟨vs, q, by rw [ra.length]; exact h⟩, fun i h => ?_, fun i d v H2 h y => ?_⟩
  · obtain ⟨v, h1, _⟩ := r.get (List.getElem?_eq_getElem h)
    exact ⟨vs, v, q, h1⟩
  · obtain ⟨rfl, y⟩ := y
    obtain ⟨u, h1, h2⟩ := r.get h
    have := y vs q
    rw [h1] at this
    cases this
    exact ⟨h2, c, Stp.refl M' _⟩
theorem it_str {K : PySem.W.Frag} {M : Mu} {H : Hp} (x : Tx) : ItOk K M H (x.map fun c => D.str [c]) (Its (sx x)) := fun M' H' s c => by
  have e : (sx x).cps.size = x.length := by simp [sx]
  refine ⟨fun i h => by show (sx x).cps.size ≤ i; rw [e]; simpa using h, fun i h => by show i < (sx x).cps.size; rw [e]; simpa using h, fun i d v H2 h y => ?_⟩
  obtain ⟨rfl, k, hk, rfl⟩ := y
  rw [List.getElem?_map] at h
  have e2 : x[i]? = some k := by simpa [sx] using hk
  rw [e2] at h
  cases h
  exact ⟨rfl, c, Stp.refl M' _⟩
theorem di_str {tg : Expr} (h : DE X W e te) : DI X W tg e (diStr te) := PI.of (pi_str h) fun σ H R ⟨τ, M, Q0, E0, S, h⟩ => S.sub h fun d M1 v H1 h1 r1 S1 s1 => by
  cases d with
  | str x => exact ⟨sx x, r1, S1.end_ h1 (it_str x)⟩
  | _ => exact h1.elim
theorem di_lst {tg : Expr} (h : DE X W e te) : DI X W tg e (diLst te) := PI.of (pi_list h) fun σ H R ⟨τ, M, Q0, E0, S, h⟩ => S.sub h fun d M1 v H1 h1 r1 S1 s1 => by
  cases d with
  | lst ds =>
    obtain ⟨a, vs, rfl, ha, ma, ra⟩ := rep_of_lst r1
    exact ⟨a, rfl, ⟨vs, .inl (.inl ha)⟩, S1.end_ h1 (it_lst ha ma ra)⟩
  | _ => exact h1.elim
theorem di_tup {tg : Expr} (h : DE X W e te) : DI X W tg e (diTup te) := PI.of (pi_tup h) fun σ H R ⟨τ, M, Q0, E0, S, h⟩ => S.sub h fun d M1 v H1 h1 r1 S1 s1 => by
  cases d with
  | tup ds =>
    obtain ⟨a, vs, rfl, ha, ra⟩ := rep_of_tup r1
    exact ⟨a, rfl, ⟨vs, sqT_of ha⟩, S1.end_ h1 (it_tup ha ra)⟩
  | _ => exact h1.elim
theorem di_rng1 {tg : Expr} (hm : X.mg "range" = none) (ha : DA X W [a] tl) (hg : Gl X "range" := by rfl) (hs : starEach [a] X.env = [(false, eval a X.env)] := by rfl) : DI X W tg (.Call (.Name "range" p) [a] [] pos) (diRng1 tl) :=
  PI.of (pi_range1 hg hm ha hs) fun σ H R ⟨τ, M, Q0, E0, S, h⟩ => S.sub h fun ds M1 vs H1 h1 r1 S1 s1 => by
    match ds, h1 with
    | [.int j], h1 =>
      obtain ⟨v, u, rfl, r2, r3⟩ := r1.uncons
      cases r3.unnil; cases r2
      exact ⟨j, rfl, h1.1, h1.2.1, S1.end_ h1.2.2 (it_rng 0 _)⟩
theorem di_rng2 {tg : Expr} (hm : X.mg "range" = none) (ha : DA X W [a, b] tl) (hg : Gl X "range" := by rfl) (hs : starEach [a, b] X.env = [(false, eval a X.env), (false, eval b X.env)] := by rfl) (hs2 : starEach [b] X.env = [(false, eval b X.env)] := by rfl) :
    DI X W tg (.Call (.Name "range" p) [a, b] [] pos) (diRng2 tl) :=
  PI.of (pi_range2 hg hm ha hs hs2) fun σ H R ⟨τ, M, Q0, E0, S, h⟩ => S.sub h fun ds M1 vs H1 h1 r1 S1 s1 => by
    match ds, h1 with
    | [.int i, .int j], h1 =>
      obtain ⟨v, u, rfl, r2, r3⟩ := r1.uncons
      obtain ⟨v, u, rfl, r4, r5⟩ := r3.uncons
      cases r5.unnil; cases r2; cases r4
      exact ⟨i, j, rfl, h1.1, S1.end_ h1.2 (it_rng i _)⟩

end

/-! ### a def -/
/-- the def st keeps the promise sp: its body by a term t -/
theorem def_ok {P : Program} {w : World} {K : PySem.W.Frag} {mg : Str → Option Value} {base : Heap} {x qual : Str} {st : Stmt} {f : Addr} {fd : FuncData} {N ps : List Str} {k : Nat} {sp : DSp} {t : DTS}
    (F : FunD K x qual (defArgs st) (defBody st) (defScope st) [] [] f fd) (S : FnScope N ps (defScope st)) (len : ∀ ds M Q E, sp ds M Q E → ds.length = ps.length)
    (hd : ∀ (cdv : Value) (A : Around) (outer : List Env) (s : Shared) (H : Hp) (E : XK), Gd (cxOf (L2.CX P w) P w K mg base N qual (defScope st) f cdv A outer s H E) (fun c d _ H => E c d H) → Room k (cxOf (L2.CX P w) P w K mg base N qual (defScope st) f cdv A outer s H E).A →
      DSs (cxOf (L2.CX P w) P w K mg base N qual (defScope st) f cdv A outer s H E) (fun c d _ H => E c d H) (defBody st) t)
    (hp : ∀ ds M Q E, sp ds M Q E → t { nx := fun _ M' => Q .non M', rt := Q, xc := fun x _ M' => E x M' } (ds.map some ++ List.replicate (N.length - ps.length) none) M) :
    FnOk P w K mg base (L2.CX P w) (k + 1) f fd ps (lsp K sp) := by
  refine F.ok S (fun vs H Q E h => ?_) (fun cdv A outer s H vs Q E hr h => ?_)
  · obtain ⟨ds, M, Q0, E0, r, c, h, _⟩ := h
    rw [r.length]
    exact len ds M Q0 E0 h
  · obtain ⟨ds, M, Q0, E0, r, c, h, hq, he⟩ := h
    have hl := len ds M Q0 E0 h
    refine ⟨lifS K (fun c d _ H => E c d H) t, ?_, ?_⟩
    · refine hd cdv A outer s H E ?_ hr
      exact ⟨rfl, takes_of rfl rfl rfl rfl, by have := hr.un; show A.units + 3 + 64 < cLine; have e : (A.deeper (PyProof.Rows.envOfC qual (defScope st) s.heap.objs.size f cdv)).units = A.units + 3 := rfl; omega, passes_of rfl, S.nd⟩
    · refine ⟨_, M, { nx := fun _ M' => Q0 .non M', rt := Q0, xc := fun x _ M' => E0 x M' }, ⟨?_, c, fun τ' M' σ' H' h r c' s' => hq .non M' .non H' h rfl c' s', hq, fun _ _ _ _ h => h.elim, fun _ _ _ _ h => h.elim, fun x τ' M' c d σ' H' h r _ c' s' => he x M' c d H' h r c' s'⟩, hp ds M Q0 E0 h⟩
      unfold L2.start
      rw [r.length, hl]
      exact RepS.start _ r
theorem FnM.of {P : Program} {w : World} {K : PySem.W.Frag} {mg : Str → Option Value} {base : Heap} {k : Nat} {x : Str} {f : Addr} {fd : FuncData} {ps : List Str} {sp : DSp} (F : FnOk P w K mg base (L2.CX P w) k f fd ps (lsp K sp)) (hm : mg x = some (.ref f))
    (hk : PySem.W.keepIn K (.ref f) = true) (hb : Binds K fd ps []) : FnM P w K mg base k x sp := ⟨f, fd, ps, F, hm, hk, hb⟩
end DL

namespace DL
open PySem L2
section
variable {X : Cx} {W : WX} {a b c e o i : Expr} {rest es : List Expr} {ta tb tc te to ti : DTE} {tl : DTA} {tt : DTT} {pos apos cpos p : Pos} {x : Str}
/-! ### constants of the module -/
theorem de_gs {z : Str} (h : ∃ t, X.mg x = some (.str z t)) (hg : Gl X x := by rfl) (hd : (x == ("__debug__" : Str)) = false := by decide) : DE X W (.Name x pos) (dC (.str (T z))) := by
  obtain ⟨t, h⟩ := h
  refine de_glob (v := .str z) hg h ⟨t, rfl⟩ (fun M H => ?_) hd
  show V.str z = V.str (sx (T z))
  rw [sx_T]
theorem de_gsc {z : Str} {u : Tx} (h : ∃ t, X.mg x = some (.str z t)) (e : T z = u) (hg : Gl X x := by rfl) (hd : (x == ("__debug__" : Str)) = false := by decide) : DE X W (.Name x pos) (dC (.str u)) := by
  rw [← e]
  exact de_gs h hg hd
theorem de_strc {z : Str} {t : Tx} {j : Nat} (h : T z = t) : DE X W (.Constant (.str z) j pos) (dC (.str t)) := by
  rw [← h]
  exact de_str
theorem de_gi {z : Int} (h : ∃ t, X.mg x = some (.int z t)) (hg : Gl X x := by rfl) (hd : (x == ("__debug__" : Str)) = false := by decide) : DE X W (.Name x pos) (dC (.int z)) := by
  obtain ⟨t, h⟩ := h
  exact de_glob (v := .int z) hg h ⟨t, rfl⟩ (fun M H => rfl) hd
/-- a tuple of texts of the written part -/
theorem de_gt {f : Addr} {zs : List Str} (h : X.mg x = some (.ref f)) (hw : WrT X.K f (zs.map V.str)) (hg : Gl X x := by rfl) (hd : (x == ("__debug__" : Str)) = false := by decide) : DE X W (.Name x pos) (dC (.tup (zs.map fun z => D.str (T z)))) := by
  refine de_glob (v := .ref f) hg h rfl (fun M H => ?_) hd
  unfold Rep
  refine ⟨f, _, rfl, .inr hw, ?_⟩
  have e : zs.map (fun z => D.str (T z)) = (zs.map T).map D.str := by rw [List.map_map]; rfl
  have e2 : zs.map V.str = ((zs.map T).map sx).map V.str := by
    rw [List.map_map, List.map_map]
    exact List.map_congr_left fun z _ => by show V.str z = V.str (sx (T z)); rw [sx_T]
  rw [e, e2]
  exact Reps.of_strs _

/-! ### is None -/
def gIsNN (nb : Bool → Bool) : DOp := fun x y M Q => match y with
  | .non => (match x with
    | .non => Q (.bl (nb true)) M
    | _ => Q (.bl (nb false)) M)
  | _ => False
abbrev gIsN : DOp := gIsNN id
abbrev gNotN : DOp := gIsNN not
theorem od_isNN {K : PySem.W.Frag} {nb : Bool → Bool} : OpD K (gIsNN nb) (fun x y H Q => y = .non ∧ Q (.bl (nb (decide (x = .non)))) H) := fun M H x y v u Q0 Q c rx ry h q => by
  have fin : ∀ b, Q0 (.bl b) M → Q (.bl b) H := fun b z => q _ M _ H z rfl c (Stp.refl M H)
  cases y with
  | non =>
    cases ry
    refine ⟨rfl, ?_⟩
    cases x with
    | non => cases rx; exact fin _ h
    | bl _ => cases rx; exact fin _ h
    | int _ => cases rx; exact fin _ h
    | str _ => cases rx; exact fin _ h
    | ref _ => cases rx; exact fin _ h
    | ty _ => cases rx; exact fin _ h
    | scr _ => obtain ⟨a, rfl, _⟩ := (show ∃ a, v = .ref a ∧ _ from rx); exact fin _ h
    | cl _ => cases rx; exact fin _ h
    | exc _ _ _ _ _ => obtain ⟨rfl, _⟩ := (show v = _ ∧ _ from rx); exact fin _ h
    | lst _ => obtain ⟨a, vs, rfl, _⟩ := rep_of_lst rx; exact fin _ h
    | tup _ => obtain ⟨a, vs, rfl, _⟩ := rep_of_tup rx; exact fin _ h
  | _ => exact h.elim
theorem od_isN {K : PySem.W.Frag} : OpD K gIsN (fun x y H Q => y = .non ∧ Q (.bl (decide (x = .non))) H) := od_isNN (nb := id)
theorem od_notN {K : PySem.W.Frag} : OpD K gNotN (fun x y H Q => y = .non ∧ Q (.bl (!decide (x = .non))) H) := od_isNN (nb := not)

/-! ### a walk over what there is -/
def iAny (K : PySem.W.Frag) (te : TE) : TI := fun σ H R => te σ H fun v H1 => (∃ z, v = .str z ∧ R (Its z) H1) ∨ (∃ a, v = .ref a ∧ (∃ xs, SqL K H1 a xs) ∧ R (Itl K a) H1) ∨ ∃ a, v = .ref a ∧ (∃ xs, SqT K H1 a xs) ∧ R (Itt K a) H1
theorem pi_any {tg : Expr} {te : TE} (he : PE X e te) : PI X tg e (iAny X.K te) := ⟨fun pins s σ H R I h => thn (he.run pins s σ H _ I h) fun v s1 hv => by
  obtain ⟨y, H1, J1, ry, hy⟩ := hv
  rcases hy with ⟨z, rfl, hR⟩ | ⟨a, rfl, ⟨xs, hs⟩, hR⟩ | ⟨a, rfl, ⟨xs, hs⟩, hR⟩
  · obtain ⟨tk, rfl⟩ := ry
    cases hz : z.cps.all (· < 128) with
    | false => exact wpAny_pyIter_wide hz (pi_one (tk := s1.toks) J1 _ (turn_str _ z tk _ (.inr rfl)) ⟨_, Heap.get?_push_size _ rfl, rfl, rfl⟩ hR)
    | true => exact wpAny_pyIter_ascii hz (pi_one (tk := s1.toks) J1 _ (turn_str _ z tk _ (.inl rfl)) ⟨_, Heap.get?_push_size _ rfl, rfl, rfl⟩ hR)
  · cases ry
    obtain ⟨its, rv, pl, hz⟩ := J1.list hs
    exact wpAny_pyIter_list pl.isList (pi_one (tk := s1.toks) J1 _ (turn_list a _) ⟨_, Heap.get?_push_size _ rfl, rfl, rfl⟩ hR)
  · cases ry
    obtain ⟨its, rv, pl, hz⟩ := J1.tuple hs
    exact wpAny_pyIter_tuple pl (pi_one (tk := s1.toks) J1 _ (turn_tuple a _) ⟨_, Heap.get?_push_size _ rfl, rfl, rfl⟩ hR)⟩
/-- the items of a text, a list, a tuple -/
def itemsD : D → Option (List D)
  | .str x => some (x.map fun c => D.str [c])
  | .lst ds => some ds
  | .tup ds => some ds
  | _ => none
def diAny (te : DTE) : DTI := fun τ M Q E => te τ M (fun d M1 => match itemsD d with
  | some ds => Q ds M1
  | none => False) E
theorem di_any {tg : Expr} (h : DE X W e te) : DI X W tg e (diAny te) := PI.of (pi_any h) fun σ H R ⟨τ, M, Q0, E0, S, h⟩ => S.sub h fun d M1 v H1 h1 r1 S1 s1 => by
  cases d with
  | str x => exact .inl ⟨sx x, r1, S1.end_ h1 (it_str x)⟩
  | lst ds =>
    obtain ⟨a, vs, rfl, ha, ma, ra⟩ := rep_of_lst r1
    exact .inr (.inl ⟨a, rfl, ⟨vs, .inl (.inl ha)⟩, S1.end_ h1 (it_lst ha ma ra)⟩)
  | tup ds =>
    obtain ⟨a, vs, rfl, ha, ra⟩ := rep_of_tup r1
    exact .inr (.inr ⟨a, rfl, ⟨vs, sqT_of ha⟩, S1.end_ h1 (it_tup ha ra)⟩)
  | _ => exact h1.elim
/-- the law's own list of numbers -/
theorem it_scr {K : PySem.W.Frag} {M : Mu} {H : Hp} {a : Addr} {ns : List Int} (ha : ((∃ o, H a = some (.frz o (.lst (ns.map V.int)))) ∧ M a = none) ∨ WrL K a (ns.map V.int)) : ItOk K M H (ns.map D.int) (Itl K a) := fun M' H' s c => by
  have q : SqL K H' a (ns.map V.int) := scr_sq (M := M') (ha.elim (fun z => .inl (z.1.elim fun o e => ⟨⟨o, (s a _ e z.2).1⟩, (s a _ e z.2).2⟩)) .inr)
  have r : Reps K M' H' (ns.map D.int) (ns.map V.int) := Reps.of_ints ns
  refine ⟨fun i h => ⟨_, q, by rw [r.length]; exact h⟩, fun i h => ?_, fun i d v H2 h y => ?_⟩
  · obtain ⟨v, h1, _⟩ := r.get (List.getElem?_eq_getElem h)
    exact ⟨_, v, q, h1⟩
  · obtain ⟨rfl, y⟩ := y
    obtain ⟨u, h1, h2⟩ := r.get h
    have := y _ q
    rw [h1] at this
    cases this
    exact ⟨h2, c, Stp.refl M' _⟩
def diScr (te : DTE) : DTI := fun τ M Q E => te τ M (fun d M1 => match d with
  | .scr ns => Q (ns.map D.int) M1
  | _ => False) E
theorem di_scr {tg : Expr} (h : DE X W e te) : DI X W tg e (diScr te) := PI.of (pi_any h) fun σ H R ⟨τ, M, Q0, E0, S, h⟩ => S.sub h fun d M1 v H1 h1 r1 S1 s1 => by
  cases d with
  | scr ns =>
    obtain ⟨a, rfl, ha⟩ := (show ∃ a, v = .ref a ∧ _ from r1)
    exact .inr (.inl ⟨a, rfl, ⟨_, scr_sq ha⟩, S1.end_ h1 (it_scr ha)⟩)
  | _ => exact h1.elim
/-- a call without arguments -/
theorem de_call0 {k : Nat} {sp : DSp} (F : FnM X.prog X.w X.K X.mg X.base k x sp) (G : Gd X W) (hr : Room k X.A) (hg : Gl X x := by rfl) (hdb : (x == ("__debug__" : Str)) = false := by decide) : DE X W (.Call (.Name x p) [] [] pos) (dCall sp daNil) := by
  obtain ⟨f, fd, ps, Fk, hm, hk, hb⟩ := F.ex
  refine ⟨fun pins s σ H Q I h => ?_⟩
  obtain ⟨τ, M, Q0, E0, S, h⟩ := h
  refine wpAny_Call_Name_kw (ld_glob I hg hm ?_ hdb)
  exact PySem.W.callWith_K0 I.kIn hk (run_fnS (us := []) (E := WE W) Fk hr hb (passAt G.tk σ) I .nil ⟨[], M, Q0, E0, .nil, S.co, h, S.q, S.e⟩)
/-! ### a slot is told anew: what it holds is to change no more -/
theorem RepS.reset {K : PySem.W.Frag} {M : Mu} {H : Hp} {d : D} {v : V} (rp : Rep K M H d v) : ∀ {ds : List (Option D)} {vs : List (Option V)} (i : Nat), RepS K M H ds vs → vs[i]? = some (some v) → RepS K M H (ds.set i (some d)) vs
  | [], _, _, h, _ => h
  | .none :: ds, _, 0, ⟨u, r, e, h⟩, q => by subst e; have q2 : u = some v := by simpa using q
                                             rw [q2]; exact ⟨v, r, rfl, rp, h⟩
  | some _ :: ds, _, 0, ⟨u, r, e, _, h⟩, q => by subst e; have q2 : u = v := by simpa using q
                                                 rw [q2]; exact ⟨v, r, rfl, rp, h⟩
  | .none :: ds, _, i + 1, ⟨u, r, e, h⟩, q => by subst e; exact ⟨u, r, rfl, RepS.reset rp i h (by simpa using q)⟩
  | some x :: ds, _, i + 1, ⟨u, r, e, h1, h⟩, q => by subst e; exact ⟨u, r, rfl, h1, RepS.reset rp i h (by simpa using q)⟩
def dFz (i : Nat) (t : DTS) : DTS := fun D0 τ M => match τ[i]? with
  | some (some (.ref a)) => (match M a with
    | some (.lst ds) => t D0 (τ.set i (some (.lst ds))) (del M a)
    | _ => False)
  | _ => False
theorem dss_fz {sts : List Stmt} {t : DTS} (j : Nat) (h : DSs X W sts t) : DSs X W sts (dFz j t) := PSs.of h fun D1 σ H ⟨τ, M, D0, S, h⟩ => by
  unfold dFz at h
  split at h
  · rename_i a e
    obtain ⟨v, e2, r⟩ := S.rs.get e
    cases r
    split at h
    · rename_i ds e3
      obtain ⟨vs, ha, ra⟩ := mu_lst S.co e3
      refine ⟨_, _, D0, S.go (RepS.reset (rep_lst ha del_same (ra.stp Stp.frz)) j (S.rs.stp Stp.frz) e2) S.co.frz Stp.frz, h⟩
    · exact h.elim
  · exact h.elim
end
end DL

namespace DL
open PySem L2 PySem.Spec PyProof.Rows
/-! ### comprehensions of several clauses -/
theorem turn_mid {elt t0 i0 t1 i1 : Expr} {f0 f1 : List Expr} {gs : List Comprehension} {d : Nat} {scope : Scope} {pos : Pos} {it acc : Value} {env : Env} (h0 : gs[d]? = some ⟨t0, i0, f0, 0⟩) (h1 : gs[d + 1]? = some ⟨t1, i1, f1, 0⟩) :
    compTurn (.ListComp elt gs scope pos) d it acc env = (do
      standAt i0.pos
      match ← pyNext it with
      | none => pure (.done .next)
      | some u =>
        letOwnedTupleGo t0 it u
        assign t0 env u
        let mut yes := true
        for c in f0 do
          if yes then yes ← isTrue c env (eval c env)
        if yes then
          let z ← eval i1 env
          standAt i1.pos
          let z ← foldedSetIterable i1 env z
          let _ ← runOwn (.compStart (.ListComp elt gs scope pos) (d + 1) (← holding [z] (pyIter z)) acc env) env
        again (.compLoop (.ListComp elt gs scope pos) d it acc env)) := by
  unfold compTurn
  simp only [h0, h1]
  rfl
theorem turn_last {elt t0 i0 : Expr} {f0 : List Expr} {gs : List Comprehension} {d : Nat} {scope : Scope} {pos : Pos} {it acc : Value} {env : Env} (h0 : gs[d]? = some ⟨t0, i0, f0, 0⟩) (h1 : gs[d + 1]? = none) :
    compTurn (.ListComp elt gs scope pos) d it acc env = (do
      standAt i0.pos
      match ← pyNext it with
      | none => pure (.done .next)
      | some u =>
        letOwnedTupleGo t0 it u
        assign t0 env u
        let mut yes := true
        for c in f0 do
          if yes then yes ← isTrue c env (eval c env)
        if yes then
          (do let _ ← call (.builtin "list.append") [acc, ← eval elt env])
        again (.compLoop (.ListComp elt gs scope pos) d it acc env)) := by
  unfold compTurn
  simp only [h0, h1]
  rfl
end DL
namespace DL
open PySem L2 PySem.Spec PyProof.Rows
section
variable {prog : Program} {w : World} {A : Around} {R : Result → Shared → Prop} {s : Shared} {elt t0 i0 t1 i1 : Expr} {f0 f1 : List Expr} {gs : List Comprehension} {d : Nat} {scope : Scope} {pos : Pos} {it acc : Value} {env : Env}
abbrev noE : Value → Shared → Prop := fun _ _ => False
theorem noE_le {α : Type} {M : Model} {t : Sem α} {Q Q' : α → Shared → Prop} {E : Value → Shared → Prop} (h : wpAny M A t Q noE s) (k : ∀ a z, Q a z → Q' a z) : wpAny M A t Q' E s := wpAny_mono h k fun _ _ f => f.elim
/-- the tests of a clause -/
abbrev tsts (fs : List Expr) (env : Env) : Sem Bool := forIn fs true fun c r => if r = true then do let ok ← isTrue c env (eval c env); pure (ForInStep.yield ok) else pure (ForInStep.yield r)
/-- one turn, up to behind the tests -/
def TurnTo (prog : Program) (w : World) (A : Around) (t0 : Expr) (f0 : List Expr) (it : Value) (env : Env) (done : Shared → Prop) (yes no : Shared → Prop) (z : Shared) : Prop :=
  wpAny (model prog w) A (pyNext it) (fun r z1 => match r with
    | none => done z1
    | some u => wpAny (model prog w) A (letOwnedTupleGo t0 it u) (fun _ z2 => wpAny (model prog w) A (assign t0 env u) (fun _ z3 => wpAny (model prog w) A (tsts f0 env) (fun b z4 => if b = true then yes z4 else no z4) noE z3) noE z2) noE z1) noE z
theorem loop_mid (h0 : gs[d]? = some ⟨t0, i0, f0, 0⟩) (h1 : gs[d + 1]? = some ⟨t1, i1, f1, 0⟩) (hs : ∀ x, foldedSetIterable i1 env x = pure x) (V G : Nat → Shared → Prop)
    (turn : ∀ k z, V k z → TurnTo prog w A t0 f0 it env (R (.ok .next)) (G k) (fun z => ∃ m, m < k ∧ V m z) z)
    (step : ∀ k z, G k z → wpAny (model prog w) A (eval i1 env) (fun x z1 => wpAny (model prog w) A (pyIter x) (fun y z2 => codeAny (model prog w) A (.compStart (.ListComp elt gs scope pos) (d + 1) y acc env) (fun r z3 => match r with
      | .ok _ => ∃ m, m < k ∧ V m z3
      | .error _ => False) z2) noE z1) noE z) (n : Nat) (h : V n s) : codeAny (model prog w) A (.compLoop (.ListComp elt gs scope pos) d it acc env) R s := by
  refine codeAny_loop rfl V (fun k z hV => ?_) n h
  show wpAny _ A ((compTurn (.ListComp elt gs scope pos) d it acc env).onRaise (fun x => do noteFrame x env; theTreesLotGoes x)) _ _ z
  refine wpAny_noted ?_
  rw [turn_mid h0 h1]
  refine wpAny_bind (wpAny_standAt (wpAny_bind (noE_le (turn k z hV) fun r z1 q1 => ?_)))
  cases r with
  | none => exact wpAny_pure q1
  | some u =>
    refine wpAny_bind (noE_le q1 fun _ z2 q2 => wpAny_bind (noE_le q2 fun _ z3 q3 => wpAny_bind (noE_le q3 fun b z4 q4 => ?_)))
    cases b with
    | false => exact wpAny_pure ⟨rfl, q4⟩
    | true =>
      refine wpAny_bind (noE_le (step k z4 q4) fun x z5 q5 => ?_)
      refine wpAny_bind (wpAny_standAt (wpAny_bind (wpAny_of_eq (hs x) (wpAny_bind (wpAny_holding (noE_le q5 fun y z6 q6 => ?_))))))
      refine wpAny_bind (wpAny_runOwn ?_)
      rw [Around.mark_none]
      refine codeAny_mono q6 fun r z7 q7 => ?_
      cases r with
      | ok f =>
        first
          | exact wpAny_pure ⟨rfl, q7⟩
          | exact wpAny_bind (wpAny_pure (wpAny_pure ⟨rfl, q7⟩))
      | error e => exact q7.elim
theorem loop_last (h0 : gs[d]? = some ⟨t0, i0, f0, 0⟩) (h1 : gs[d + 1]? = none) (V G : Nat → Shared → Prop)
    (turn : ∀ k z, V k z → TurnTo prog w A t0 f0 it env (R (.ok .next)) (G k) (fun z => ∃ m, m < k ∧ V m z) z)
    (step : ∀ k z, G k z → wpAny (model prog w) A (eval elt env) (fun x z1 => wpAny (model prog w) A (call (.builtin "list.append") [acc, x]) (fun _ z2 => ∃ m, m < k ∧ V m z2) noE z1) noE z)
    (n : Nat) (h : V n s) : codeAny (model prog w) A (.compLoop (.ListComp elt gs scope pos) d it acc env) R s := by
  refine codeAny_loop rfl V (fun k z hV => ?_) n h
  show wpAny _ A ((compTurn (.ListComp elt gs scope pos) d it acc env).onRaise (fun x => do noteFrame x env; theTreesLotGoes x)) _ _ z
  refine wpAny_noted ?_
  rw [turn_last h0 h1]
  refine wpAny_bind (wpAny_standAt (wpAny_bind (noE_le (turn k z hV) fun r z1 q1 => ?_)))
  cases r with
  | none => exact wpAny_pure q1
  | some u =>
    refine wpAny_bind (noE_le q1 fun _ z2 q2 => wpAny_bind (noE_le q2 fun _ z3 q3 => wpAny_bind (noE_le q3 fun b z4 q4 => ?_)))
    cases b with
    | false => exact wpAny_pure ⟨rfl, q4⟩
    | true => exact wpAny_bind (wpAny_bind (noE_le (step k z4 q4) fun x z5 q5 => wpAny_bind (noE_le q5 fun _ z6 q6 => wpAny_pure (wpAny_pure ⟨rfl, q6⟩))))
/-- a later clause starts -/
theorem start_at (h0 : gs[d]? = some ⟨t0, i0, f0, 0⟩) (ha : codeAny (model prog w) A (.compLoop (.ListComp elt gs scope pos) d it acc env) R s)
    (hb : wpAny (model prog w) A (pyIter it) (fun y z => codeAny (model prog w) A (.compLoop (.ListComp elt gs scope pos) d y acc env) R z) (notedBy (model prog w) A env fun x z => R (.error x) z) s) :
    codeAny (model prog w) A (.compStart (.ListComp elt gs scope pos) d it acc env) R s := by
  have hcl : (clausesOf (.ListComp elt gs scope pos))[d]? = some ⟨t0, i0, f0, 0⟩ := h0
  refine codeAny_of_tree ?_
  show wpAny _ _ ((compStart (.ListComp elt gs scope pos) d it acc env).onRaise (fun x => do noteFrame x env; standAt theWindowsPlace)) _ _ s
  refine wpAny_notedAt ?_
  unfold compStart
  simp only [hcl]
  show wpAny _ _ (ask >>= _) _ _ s
  refine wpAny_bind (wpAny_askSetting (wpAny_ite ?_))
  split
  · first
      | exact wpAny_bind (wpAny_pure (wpAny_pure (And.intro rfl ha)))
      | exact wpAny_pure (And.intro rfl ha)
  · first
      | exact wpAny_bind (wpAny_rule (wpAny_bind (wpAny_standAt (wpAny_bind (wpAny_mono hb (fun y z q => wpAny_pure (And.intro rfl q)) fun _ _ x => x)))))
      | (refine wpAny_bind (wpAny_rule ?_); show wpAny _ _ (standAt i0.pos >>= _) _ _ s; exact wpAny_bind (wpAny_standAt (wpAny_bind (wpAny_mono hb (fun y z q => wpAny_pure (And.intro rfl q)) fun _ _ x => x))))
end
end DL
namespace DL
open PySem L2 PySem.Spec PyProof.Rows
/-- a clause: its text, what it does, the slots that are forgotten at each of its turns -/
structure Cl where
  tg : Expr
  iter : Expr
  ifs : List Expr
  wi : TI
  g : TG
  tt : TT
  vs : List Nat
abbrev Cl.c (c : Cl) : Comprehension := ⟨c.tg, c.iter, c.ifs, 0⟩
/-- one clause's turns; inn: what is done behind its tests -/
def wTurns (g : TG) (tt : TT) (vs : List Nat) (σ : L2.St) (inn : L2.St → Hp → (Hp → Prop) → Prop) (Nx : Hp → Prop) (J : It) (H1 : Hp) : Prop :=
  ∃ W : Nat → Nat → Hp → Prop, (∃ m, W 0 m H1) ∧ ∀ i m H, W i m H → (J.stop i H ∧ Nx H) ∨ (J.go i H ∧ ∃ N1 : Hp → Prop, (∀ H', N1 H' → ∃ m', m' < m ∧ W (i + 1) m' H') ∧
    ∀ x H', J.yld i H x H' → g x (wipe σ vs) H' fun σ2 H2 => wipe σ2 vs = wipe σ vs ∧ tt σ2 H2 fun b H3 => if b = true then inn σ2 H3 N1 else N1 H3)
def Nst (em : L2.St → Hp → (Hp → Prop) → Prop) : List Cl → L2.St → Hp → (Hp → Prop) → Prop
  | [], σ, H, Nx => em σ H Nx
  | c :: cs, σ, H, Nx => c.wi σ H fun J H1 => wTurns c.g c.tt c.vs σ (Nst em cs) Nx J H1
def emt (D : Addr) (te : TE) : L2.St → Hp → (Hp → Prop) → Prop := fun σ H Nx => te σ H fun y H1 => ∃ acc, H1 D = some (.lst acc) ∧ acc.length < sizeLine ∧ Nx (upd H1 D (.lst (acc ++ [y])))
def hvs : List Cl → List Nat
  | [] => []
  | c :: _ => c.vs
/-- what a clause asks of the block's context -/
structure ClOk (B : Cx) (c : Cl) : Prop where
  g : PG B c.tg c.g
  t : PTs B c.ifs c.tt
structure ClIn (B : Cx) (c : Cl) : Prop extends ClOk B c where
  i : PI B c.tg c.iter c.wi
  s : ∀ x, foldedSetIterable c.iter B.env x = pure x
def Dec : List Nat → List Cl → Prop
  | _, [] => True
  | vs, c :: cs => (∀ i ∈ c.vs, i ∈ vs) ∧ Dec c.vs cs
structure Kps (vs : List Nat) (σ σ' : L2.St) : Prop where
  len : σ'.length = σ.length
  k : ∀ (j : Nat) v, (wipe σ vs)[j]? = some (some v) → σ'[j]? = some (some v)
section
variable {B : Cx} {elt : Expr} {gs : List Comprehension} {scope : Scope} {pos : Pos} {D : Addr} {te : TE}
theorem kps_back {vs us : List Nat} {σ σ2 σ3 : L2.St} (hu : ∀ i ∈ us, i ∈ vs) (e : wipe σ2 vs = wipe σ vs) (k : Kps us σ2 σ3) : Kps [] (wipe σ vs) σ3 :=
  ⟨by rw [k.len, ← e, wipe_length], fun j v h => by
    have h : (wipe σ vs)[j]? = some (some v) := h
    rw [← e] at h
    obtain ⟨h1, h2⟩ := wipe_some h
    exact k.k j v (by rw [wipe_out fun z => h2 (hu j z)]; exact h1)⟩
theorem Kps.refl (vs : List Nat) (σ : L2.St) : Kps vs σ σ := ⟨rfl, fun j v h => (wipe_some h).1⟩
section
variable {c : Cl} {cs : List Cl} {P : List (Addr × Obj)} {σ : L2.St} {it : Addr} {fp : List Addr} {tn : Nat → Heap → Prop} {J : It} {Nx : Hp → Prop} {W : Nat → Nat → Hp → Prop}
/-- between two turns -/
def Btw (B : Cx) (c : Cl) (P : List (Addr × Obj)) (σ : L2.St) (fp : List Addr) (tn : Nat → Heap → Prop) (W : Nat → Nat → Hp → Prop) (k : Nat) (z : Shared) : Prop :=
  ∃ i H', Inv B P (wipe σ c.vs) H' z ∧ tn i z.heap ∧ (∀ b ∈ fp, H' b = none) ∧ W i k H'
/-- behind the tests -/
def Bhd (B : Cx) (V : Nat → Shared → Prop) (D : Addr) (te : TE) (cs : List Cl) (k : Nat) (z : Shared) : Prop :=
  ∃ σ2 H2 N1 P2, Inv B P2 σ2 H2 z ∧ Nst (emt D te) cs σ2 H2 N1 ∧ ∀ σ3 H3 z3, Inv B P2 σ3 H3 z3 → Kps (hvs cs) σ2 σ3 → N1 H3 → ∃ m, m < k ∧ V m z3
theorem clause_turn (hx : ∀ e z, ¬ B.xe e z) {done : Shared → Prop} (hd : ∀ H' z, Inv B P (wipe σ c.vs) H' z → Nx H' → done z) (hc : B.calm = true) (hdec : Dec c.vs cs) (ok : ClOk B c) (T : Turn B.prog B.w B.K c.tg J fp it tn) (stat : ∀ {H' : Hp}, (∀ b ∈ fp, H' b = none) → ∀ b ∈ fp, FpOk B P H' b)
    (turn : ∀ i m H, W i m H → (J.stop i H ∧ Nx H) ∨ (J.go i H ∧ ∃ N1 : Hp → Prop, (∀ H', N1 H' → ∃ m', m' < m ∧ W (i + 1) m' H') ∧
      ∀ x H', J.yld i H x H' → c.g x (wipe σ c.vs) H' fun σ2 H2 => wipe σ2 c.vs = wipe σ c.vs ∧ c.tt σ2 H2 fun b H3 => if b = true then Nst (emt D te) cs σ2 H3 N1 else N1 H3))
    {k : Nat} {z : Shared} (hv : Btw B c P σ fp tn W k z) :
    TurnTo B.prog B.w B.A c.tg c.ifs (.ref it) B.env done (Bhd B (Btw B c P σ fp tn W) D te cs k) (fun z => ∃ m, m < k ∧ Btw B c P σ fp tn W m z) z := by
  obtain ⟨i, H5, I5, st5, n5, w5⟩ := hv
  unfold TurnTo
  rcases turn i k H5 w5 with ⟨stop, nx⟩ | ⟨go, N1, hN1, yl⟩
  · refine noE_le (T.done B rfl rfl rfl hc i P z _ H5 noE I5 (stat n5) st5 stop) fun r z1 ⟨hr, I6⟩ => ?_
    subst hr
    exact hd H5 _ I6 nx
  · refine noE_le (T.item B rfl rfl rfl hc i P z _ H5 noE I5 (stat n5) st5 go) fun r z1 ⟨u, hr, h6⟩ => ?_
    subst hr
    refine noE_le h6 fun _ z2 ⟨x, H7, I7, r7, y7, st7, n7⟩ => ?_
    have pinned := I7.pinned (stat n7) (T.obj _ _ st7)
    refine wpAny_mono (ok.g.run _ z2 _ H7 x u _ pinned r7 (yl x H7 y7)) (fun _ z3 ⟨σ8, H8, I8, hw8, q8⟩ => ?_) fun e z hx1 => ?_
    · refine wpAny_mono (ok.t.run _ z3 σ8 H8 _ I8 q8) (fun b z4 ⟨H9, I9, q9⟩ => ?_) fun e z hx2 => ?_
      · have fin : ∀ σ3 H3 z3, Inv B (P ++ pinsAt fp z2.heap) σ3 H3 z3 → Kps (hvs cs) σ8 σ3 → N1 H3 → ∃ m, m < k ∧ Btw B c P σ fp tn W m z3 := fun σ3 H3 z3 I' kp nx => by
          obtain ⟨m', hm, w'⟩ := hN1 H3 nx
          have pin' : ∀ b ∈ fp, ∀ o, z2.heap.get? b = some o → z3.heap.get? b = some o ∧ H3 b = none := fun b hb o e =>
            let q := I'.pin (b, o) (List.mem_append_right _ (List.mem_append_right _ (mem_pinsAt hb e)))
            ⟨q.1, q.2.1⟩
          have kb : Kps [] (wipe σ c.vs) σ3 := kps_back (us := hvs cs) (by cases cs with
            | nil => intro i h; cases h
            | cons x xs => exact hdec.1) hw8 kp
          refine ⟨m', hm, i + 1, H3, (I'.unpinned (pins := P)).weak kb.len.symm kb.k, T.keep _ _ _ st7 fun b hb o e => (pin' b hb o e).1, fun b hb => ?_, w'⟩
          obtain ⟨o, e, _⟩ := T.obj _ _ st7 b hb
          exact (pin' b hb o e).2
        cases b with
        | false =>
          simp only [Bool.false_eq_true, if_false] at q9 ⊢
          exact fin σ8 H9 z4 I9 (Kps.refl _ _) q9
        | true =>
          simp only [if_true] at q9 ⊢
          exact ⟨σ8, H9, N1, _, I9, q9, fin⟩
      · exact (hx e z hx2).elim
    · exact (hx e z hx1).elim
/-- a clause's loop -/
theorem clause_loop (hx : ∀ e z, ¬ B.xe e z) (hc : B.calm = true) (hel : PE B elt te) : ∀ (cs : List Cl) (c : Cl) (d : Nat) (P : List (Addr × Obj)) (σ : L2.St) (H : Hp) (s : Shared) (it : Addr) (fp : List Addr) (tn : Nat → Heap → Prop) (J : It) (Nx : Hp → Prop) (R : Result → Shared → Prop),
    (∀ H' z, Inv B P (wipe σ c.vs) H' z → Nx H' → R (.ok .next) z) →
    gs[d]? = some c.c → (∀ j, gs[d + 1 + j]? = (cs.map Cl.c)[j]?) → Dec c.vs cs → ClOk B c → (∀ x ∈ cs, ClIn B x) → Inv B P (wipe σ c.vs) H s → Turn B.prog B.w B.K c.tg J fp it tn → tn 0 s.heap → (∀ b ∈ fp, FpOk B P H b) →
    wTurns c.g c.tt c.vs σ (Nst (emt D te) cs) Nx J H →
    codeAny (model B.prog B.w) B.A (.compLoop (.ListComp elt gs scope pos) d (.ref it) (.ref D) B.env) R s := by
  intro cs
  induction cs with
  | nil =>
    intro c d P σ H s it fp tn J Nx R hR h0 hr hdec okc okcs I T st hfp ⟨W, ⟨m0, w0⟩, turn⟩
    have h1 : gs[d + 1]? = none := by simpa using hr 0
    have stat : ∀ {H' : Hp}, (∀ b ∈ fp, H' b = none) → ∀ b ∈ fp, FpOk B P H' b := fun hn b hb => ⟨hn b hb, (hfp b hb).2⟩
    refine loop_last h0 h1 (Btw B c P σ fp tn W) (Bhd B (Btw B c P σ fp tn W) D te [] ) (fun k z hv => clause_turn (te := te) (cs := []) hx hR hc hdec okc T stat turn hv) (fun k z hg => ?_) m0 ⟨0, H, I, st, fun b hb => (hfp b hb).1, w0⟩
    obtain ⟨σ2, H2, N1, P2, I2, q, fin⟩ := hg
    refine wpAny_mono (hel.run _ z σ2 H2 _ I2 q) (fun u z1 ⟨yv, H3, I3, r3, acc, hD, hz, nx⟩ => ?_) fun e z he => (hx e z he).elim
    exact app_ok (X := B) I3 hD hz r3 fun z2 I4 => fin σ2 _ z2 I4 (Kps.refl _ _) nx
  | cons c2 cs ih =>
    intro c d P σ H s it fp tn J Nx R hR h0 hr hdec okc okcs I T st hfp ⟨W, ⟨m0, w0⟩, turn⟩
    have h1 : gs[d + 1]? = some c2.c := by simpa using hr 0
    have hr2 : ∀ j, gs[d + 1 + 1 + j]? = (cs.map Cl.c)[j]? := fun j => by
      have := hr (j + 1)
      rw [show d + 1 + (j + 1) = d + 1 + 1 + j by omega] at this
      simpa using this
    have ok2 := okcs c2 List.mem_cons_self
    have stat : ∀ {H' : Hp}, (∀ b ∈ fp, H' b = none) → ∀ b ∈ fp, FpOk B P H' b := fun hn b hb => ⟨hn b hb, (hfp b hb).2⟩
    refine loop_mid h0 h1 ok2.s (Btw B c P σ fp tn W) (Bhd B (Btw B c P σ fp tn W) D te (c2 :: cs)) (fun k z hv => clause_turn (te := te) (cs := c2 :: cs) hx hR hc hdec okc T stat turn hv) (fun k z hg => ?_) m0 ⟨0, H, I, st, fun b hb => (hfp b hb).1, w0⟩
    obtain ⟨σ2, H2, N1, P2, I2, q, fin⟩ := hg
    refine wpAny_mono (ok2.i.run _ z σ2 H2 _ I2 q) (fun xv z1 hx1 => wpAny_mono hx1 (fun itv z2 hp => ?_) fun e z he => (hx e z he).elim) fun e z he => (hx e z he).elim
    obtain ⟨it1, fp1, tn1, J1, H3, e1, I3, T1, st1, hfp1, tw⟩ := hp
    subst e1
    have I3w : Inv B P2 (wipe σ2 c2.vs) H3 z2 := I3.weak (wipe_length _ _) fun j v e => (wipe_some e).1
    have lp := ih c2 (d + 1) P2 σ2 H3 z2 it1 fp1 tn1 J1 N1 (fun r z3 => match r with
      | .ok _ => ∃ m, m < k ∧ Btw B c P σ fp tn W m z3
      | .error _ => False) (fun H' z' I' nx => fin (wipe σ2 c2.vs) H' z' I' ⟨wipe_length _ _, fun j v e => e⟩ nx) h1 hr2 hdec.2 ok2.toClOk (fun x hx => okcs x (List.mem_cons_of_mem _ hx)) I3w T1 st1 hfp1 tw
    exact start_at h1 lp (T1.self B.A 0 _ _ _ st1 lp)
end
end
end DL
namespace DL
open PySem L2 PySem.Spec PyProof.Rows
section
variable {X : Cx}
/-- [elt for .. in .. for .. in ..], any number of clauses -/
def tLcN (c : Cl) (cs : List Cl) (te : TE) : TE := fun σ H Q => c.wi σ H fun J H1 => ∀ D, H1 D = none → wTurns c.g c.tt c.vs σ (Nst (emt D te) cs) (fun H2 => Q (.ref D) H2) J (upd H1 D (.lst []))
abbrev Blk (X : Cx) (scope : Scope) (B : Cx) : Prop := ∃ s H C cl fp, B = X.blk s H scope (compEnvC scope cl C X.env) fp
theorem lcN_core {P : List (Addr × Obj)} {s : Shared} {σ : L2.St} {H : Hp} {Q : VK} {elt : Expr} {c : Cl} {cs : List Cl} {scope : Scope} {own : List (Str × Nat)} {pos pos' : Pos} {te : TE} {use : Option (Value → Sem Unit)} {Qf : Value → Shared → Prop}
    (hc : X.calm = true) (hN : X.N.Nodup) (I : Inv X P σ H s) (hi : PI X c.tg c.iter c.wi) (ok : BlkOk X.N X.env.scope scope own) (hv : c.vs = own.map (·.2)) (hdec : Dec c.vs cs)
    (hcl : ∀ B, Blk X scope B → ClOk B c ∧ (∀ x ∈ cs, ClIn B x) ∧ PE B elt te) (hs : ∀ x, foldedSetIterable c.iter X.env x = pure x) (h : tLcN c cs te σ H Q)
    (hend : ∀ D C z m H', Inv X P σ H' z → Q (.ref D) H' → z.heap.Ns C m → FpOk X P H' C → compPost (model X.prog X.w) X.A X.xe use Qf (.ref D) C (.ok .next) z) :
    wpAny (model X.prog X.w) X.A (comprehension (.ListComp elt (c.c :: cs.map Cl.c) scope pos) scope X.env pos' (newList []) false (eval c.iter X.env) use) Qf X.xe s := by
  have cells : ∀ y ∈ scope.names, y.2 = .free → ∃ a, X.env.cells.lookup y.1 = some a := fun y hy e => (ok.free y hy e).elim (fun q => I.ok.has _ (.inl q)) fun q => I.ok.has _ (.inr q)
  refine wpAny_comprehension_free (use := use) rfl hs (closure_ok cells) ok.kind (fun y hy e => (ok.uniq y hy).trans (by rw [e])) (thn (hi.run P s σ H _ I h) fun xv z1 q1 => thn q1 fun yv z2 q2 => ?_)
  obtain ⟨it, fp, tn, J, H2, e, I2, T, st2, f2, q⟩ := q2
  subst e
  refine wpAny_newObj_type (newEnv_comp ?_) (by show 0 ≤ sizeLine; decide)
  generalize hD : z2.heap.objs.size = D
  have free : H2 D = none := I2.hok.fresh (Nat.le_of_eq hD)
  have tw := q D free
  generalize hz3 : ({ z2 with heap := z2.heap.push { cls := .type "list", data := .seq ([] : List Value).toArray } } : Shared) = z3
  have heap3 : z3.heap = z2.heap.push { cls := .type "list", data := .seq ([] : List Value).toArray } := by rw [← hz3]
  have I3 : Inv X P σ (upd H2 D (.lst [])) z3 := by
    subst hz3
    refine I2.laid (t' := z2.toks) (fun b o e => Heap.get?_push_of_some _ e) (Nat.le_of_eq hD) ⟨Nat.zero_le _, [], 0, .nil, ?_⟩
    subst hD
    exact Heap.get?_push_size _ rfl
  have f3 : ∀ b ∈ fp, FpOk X P (upd H2 D (.lst [])) b ∧ b < z3.heap.objs.size := fun b hb => by
    obtain ⟨o, e, _⟩ := T.obj _ _ st2 b hb
    have lt := Heap.lt_size e
    exact ⟨⟨(upd_ne (by rw [← hD]; exact Nat.ne_of_lt lt)).trans (f2 b hb).1, (f2 b hb).2⟩, by rw [heap3, Heap.size_push]; exact Nat.lt_succ_of_lt lt⟩
  have st3 : tn 0 z3.heap := T.keep _ _ _ st2 fun b _ o e => by rw [heap3]; exact Heap.get?_push_of_some _ e
  have I4 := block_start I3 ok hN f3
  obtain ⟨okc, okcs, oke⟩ := hcl _ ⟨z3, upd H2 D (.lst []), z3.heap.objs.size, cellsFrom (z3.heap.objs.size + 1) scope.names (cloFrom X.env.cells scope.names []), fp, rfl⟩
  show codeAny _ _ (.compStart (.ListComp elt (c.c :: cs.map Cl.c) scope pos) 0 (.ref it) (.ref D) (compEnvC scope (cellsFrom (z3.heap.objs.size + 1) scope.names (cloFrom X.env.cells scope.names [])) z3.heap.objs.size X.env)) (compPost (model X.prog X.w) X.A X.xe use Qf (.ref D) z3.heap.objs.size) { z3 with heap := pushCells (z3.heap.push { cls := .type "dict", data := .dict #[] }) scope.names }
  generalize hce : compEnvC scope (cellsFrom (z3.heap.objs.size + 1) scope.names (cloFrom X.env.cells scope.names [])) z3.heap.objs.size X.env = ce at I4 okc okcs oke ⊢
  have loc : ce.locals = z3.heap.objs.size := by subst hce; rfl
  generalize hH3 : upd H2 D (.lst []) = H3 at I3 I4 okc okcs oke tw f3
  generalize hz4 : ({ z3 with heap := pushCells (z3.heap.push { cls := .type "dict", data := .dict #[] }) scope.names } : Shared) = z4 at I4 ⊢
  have st4 : tn 0 z4.heap := T.keep _ _ _ st3 fun b _ o e => by rw [← hz4]; exact pushCells_keeps _ _ _ _ (Heap.get?_push_of_some _ e)
  have f4 : ∀ b ∈ fp, FpOk (X.blk z3 H3 scope ce fp) [] H3 b := fun b hb =>
    ⟨(f3 b hb).1.1, (I4.ok.exf b hb).1, I4.ok.exfs b hb, .inl hb, fun x a e => (I4.ok.exf b hb).2 x a e, fun p hp => absurd (show p ∈ ([] : List (Addr × Obj)) ++ [] from hp) (by simp)⟩
  rw [← hv] at I4
  have lp := clause_loop (B := X.blk z3 H3 scope ce fp) (elt := elt) (gs := c.c :: cs.map Cl.c) (scope := scope) (pos := pos) (D := D) (te := te) (fun _ _ f => f) hc oke cs c 0 [] σ H3 z4 it fp tn J (fun H5 => Q (.ref D) H5) (compPost (model X.prog X.w) X.A X.xe use Qf (.ref D) z3.heap.objs.size)
    (fun H5 z5 I5 q5 => by
      have I6 : Inv X P σ H5 z5 := I3.call' (ch := fp) I5.os I5.base I5.hok I5.bare fun b hb => ⟨(f3 b hb).1.2.2.2.1, (f3 b hb).1.2.1, (f3 b hb).1.2.2.2.2.1, (f3 b hb).1.2.2.2.2.2⟩
      have nC : H5 z3.heap.objs.size = none := by
        have f : H5 ce.locals = none := I5.free
        rw [loc] at f
        exact f
      obtain ⟨m, hn, _⟩ := I5.loc
      have hn : z5.heap.Ns ce.locals m := hn
      rw [loc] at hn
      exact hend D z3.heap.objs.size z5 m H5 I6 q5 hn (I3.fpOk (Nat.le_refl _) nC))
    rfl (fun j => by rw [show 0 + 1 + j = j + 1 by omega, List.getElem?_cons_succ]) hdec okc okcs I4 T st4 f4 tw
  exact codeAny_compStart_list lp (T.self X.A 0 _ _ _ st4 lp)
theorem pe_lcN {elt : Expr} {c : Cl} {cs : List Cl} {scope : Scope} {own : List (Str × Nat)} {pos : Pos} {te : TE} (hc : X.calm = true) (hN : X.N.Nodup) (hi : PI X c.tg c.iter c.wi) (ok : BlkOk X.N X.env.scope scope own) (hv : c.vs = own.map (·.2)) (hdec : Dec c.vs cs)
    (hcl : ∀ B, Blk X scope B → ClOk B c ∧ (∀ x ∈ cs, ClIn B x) ∧ PE B elt te) (hs : ∀ x, foldedSetIterable c.iter X.env x = pure x) : PE X (.ListComp elt (c.c :: cs.map Cl.c) scope pos) (tLcN c cs te) := by
  refine ⟨fun P s σ H Q I h => ?_⟩
  rw [eval_ListComp]
  refine lcN_core hc hN I hi ok hv hdec hcl hs h fun D C z m H' I' q hn f => ⟨m, hn, fun h2 sb => ?_⟩
  obtain ⟨g0, g1, g2, g3, g4, g5⟩ := f
  exact ⟨.ref D, H', I'.turned (t' := z.toks) (fun b o hb e => (sb.2 b hb).trans e) g0 g1 g3 g4 g5, rfl, q⟩
/-- name = [..] on one line -/
theorem ps_setLcN {i : Nat} {y : Str} {py : Pos} {elt : Expr} {c : Cl} {cs : List Cl} {scope : Scope} {own : List (Str × Nat)} {pos spos : Pos} {te : TE} (hc : X.calm = true) (hN : X.N.Nodup) (hy : X.N[i]? = some y) (hyl : X.env.scope.names.lookup y = some .local)
    (hsw : swapsWith (.ListComp elt (c.c :: cs.map Cl.c) scope pos) (some (.Name y py)) spos.line X.env = pure true) (hi : PI X c.tg c.iter c.wi) (ok : BlkOk X.N X.env.scope scope own) (hv : c.vs = own.map (·.2)) (hdec : Dec c.vs cs)
    (hcl : ∀ B, Blk X scope B → ClOk B c ∧ (∀ x ∈ cs, ClIn B x) ∧ PE B elt te) (hs : ∀ x, foldedSetIterable c.iter X.env x = pure x) : PS X (.Assign [.Name y py] (.ListComp elt (c.c :: cs.map Cl.c) scope pos) spos) (tAsg (tLcN c cs te) (gName i)) := by
  refine ⟨fun P s σ H D I h => ?_⟩
  rw [exec_Assign_Name_used _ _ _ _ hsw]
  refine wpAny_bind (wpAny_standAt (wpAny_bind ?_))
  show wpAny _ X.A (do let _ ← comprehension (.ListComp elt (c.c :: cs.map Cl.c) scope pos) scope X.env (firstIterPos (c.c :: cs.map Cl.c) pos) (newList []) false (eval c.iter X.env) (some (assign (.Name y py) X.env))) _ _ s
  have h : tLcN c cs te σ H (fun x H1 => gName i x σ H1 D.nx) := h
  refine wpAny_bind (thn (lcN_core (Qf := fun _ z => SP X P D .next z) hc hN I hi ok hv hdec hcl hs h fun L C z m H' I' q hn f => ?_) fun _ z hq => wpAny_pure (wpAny_pure hq))
  show wpAny _ _ (assign (.Name y py) X.env (.ref L)) _ _ _
  refine wpAny_assign_Name (store_ok2 (v := V.ref L) I' hN hy (.inl hyl) rfl (fun z2 I2 ⟨a, sb, ha⟩ => ?_) (.inr hyl))
  obtain ⟨g0, g1, g2, g3, g4, g5⟩ := f
  have ne : C ≠ a := ha.elim (fun q => by rw [q]; exact g1) fun q e => g4 y a q e.symm
  refine ⟨m, hn.sameBut sb ne, fun h3 sb3 => ?_⟩
  exact ⟨_, H', I2.turned (t' := z2.toks) (fun b o hb e => (sb3.2 b hb).trans e) g0 g1 g3 g4 g5, q⟩
end
end DL

namespace DL
open PySem L2
/-! ### comprehensions -/
abbrev noX : DX := fun _ _ => False
abbrev W0 : WX := fun _ _ _ _ => False
theorem wipe_get (σ : L2.St) (j : Nat) : ∀ vs : List Nat, (wipe σ vs)[j]? = if j ∈ vs then σ[j]?.map (fun _ => none) else σ[j]?
  | [] => by simp [wipe]
  | v :: vs => by
    show ((wipe σ vs).set v none)[j]? = _
    rw [List.getElem?_set, wipe_length, wipe_get σ j vs]
    by_cases e : v = j
    · subst e
      by_cases l : v < σ.length
      · simp [l]
      · simp [l, List.getElem?_eq_none (Nat.le_of_not_lt l)]
    · have e2 : ¬ j = v := fun z => e z.symm
      simp [e, e2]
theorem wipe_set {σ : L2.St} {i : Nat} {x : Option V} {vs : List Nat} (h : i ∈ vs) : wipe (σ.set i x) vs = wipe σ vs := by
  apply List.ext_getElem?
  intro j
  rw [wipe_get, wipe_get]
  by_cases m : j ∈ vs
  · rw [if_pos m, if_pos m, List.getElem?_set]
    by_cases e : i = j
    · subst e
      by_cases l : i < σ.length
      · simp [l]
      · simp [l, List.getElem?_eq_none (Nat.le_of_not_lt l)]
    · simp [e]
  · rw [if_neg m, if_neg m, List.getElem?_set_ne fun e => m (by rw [← e]; exact h)]
theorem wipe_wipe (σ : L2.St) (vs : List Nat) : wipe (wipe σ vs) vs = wipe σ vs := by
  apply List.ext_getElem?
  intro j
  rw [wipe_get, wipe_get]
  by_cases m : j ∈ vs
  · simp [m, Function.comp_def]
  · simp [m]
def wipeD (τ : DSt) : List Nat → DSt
  | [] => τ
  | v :: vs => (wipeD τ vs).set v none
theorem RepS.wipe {K : PySem.W.Frag} {M : Mu} {H : Hp} {τ : DSt} {σ : L2.St} (h : RepS K M H τ σ) : ∀ vs : List Nat, RepS K M H (wipeD τ vs) (L2.wipe σ vs)
  | [] => h
  | v :: vs => RepS.none v Option.none (h.wipe vs)

theorem Gd.blk {X : Cx} {W : WX} (G : Gd X W) (s : Shared) (H : Hp) (scope : Scope) (cenv : Env) (fp : List Addr) : Gd (X.blk s H scope cenv fp) W0 :=
  ⟨G.calm, fun u s' ⟨a, B, sI, pins, σ, H, cls, d, e, I, nb, up, sky, na, os, ag, w⟩ => w.elim, G.hu, PassesOwn.never, G.nd⟩

/-- a target of the block's own names vs -/
def lifGw (K : PySem.W.Frag) (W : WX) (g : DTG) (vs : List Nat) : TG := fun v σ H Q => lifG K W g v σ H fun σ' H' => wipe σ' vs = wipe σ vs → Q σ' H'
def lifGsw (K : PySem.W.Frag) (W : WX) (g : DTGs) (vs : List Nat) : TGs := fun us σ H Q => lifGs K W g us σ H fun σ' H' => wipe σ' vs = wipe σ vs → Q σ' H'
abbrev DGw (X : Cx) (W : WX) (tg : Expr) (g : DTG) (vs : List Nat) : Prop := PG X tg (lifGw X.K W g vs)
abbrev DGsw (X : Cx) (W : WX) (tg : List Expr) (g : DTGs) (vs : List Nat) : Prop := PGs X tg (lifGsw X.K W g vs)
section
variable {X : Cx} {W : WX} {a b c e o i : Expr} {rest es : List Expr} {ta tb tc te to ti : DTE} {tl : DTA} {tt : DTT} {pos apos cpos p : Pos} {x : Str} {vs : List Nat}
theorem dgw_name (j : Nat) (hN : X.N.Nodup) (hj : j ∈ vs := by decide) (hi : X.N[j]? = some x := by rfl) (hx : Loc X.env.scope x := by first | exact .inl rfl | exact .inr rfl) (hf : X.fn x = true ∨ X.env.scope.names.lookup x = some .local := by first | exact .inl rfl | exact .inr rfl) : DGw X W (.Name x pos) (dgName j) vs :=
  PG.of (pg_name hN hi hx hf) fun v σ H Q ⟨d, τ, M, Q0, E0, r, S, h⟩ => S.q _ M _ H h (S.rs.set r j) S.co (Stp.refl M H) (wipe_set hj)
theorem dgsw_nil : DGsw X W [] dgNil vs := PGs.of pgs_nil fun us σ H Q ⟨ds, τ, M, Q0, r, S, h⟩ => by
  cases ds with
  | nil => exact ⟨r.unnil, S.q _ M _ H h S.rs S.co (Stp.refl M H) rfl⟩
  | cons d r => exact h.elim
theorem dgsw_cons (j : Nat) {u : DTGs} (hN : X.N.Nodup) (h2 : DGsw X W es u vs) (hj : j ∈ vs := by decide) (hi : X.N[j]? = some x := by rfl) (hx : Loc X.env.scope x := by first | exact .inl rfl | exact .inr rfl) (hf : X.fn x = true ∨ X.env.scope.names.lookup x = some .local := by first | exact .inl rfl | exact .inr rfl)
    (hs : (assignEach (.Name x pos :: es) X.env).map (·.2) = assign (.Name x pos) X.env :: (assignEach es X.env).map (·.2) := by rfl) : DGsw X W (.Name x pos :: es) (dgCons j u) vs :=
  PGs.of (pgs_cons (pg_name hN hi hx hf) h2 hs) fun us σ H Q ⟨ds, τ, M, Q0, r, S, h⟩ => by
    cases ds with
    | nil => exact h.elim
    | cons d ds =>
      obtain ⟨v, us, rfl, r1, r2⟩ := r.uncons
      exact ⟨v, us, rfl, ds, τ.set j (some d), M, Q0, r2, ⟨S.rs.set r1 j, S.co, fun a b c d h r c' s hw => S.q a b c d h r c' s (hw.trans (wipe_set hj)), fun _ _ _ _ _ h => h.elim⟩, h⟩
theorem dgw_tup {k n : Nat} {u : DTGs} (G : Gd X W) (h : DGsw X W es u vs) (hn : (assignEach es X.env).length = n := by rfl) (hst : (assignEach es X.env).findIdx? (·.1) = none := by rfl) : DGw X W (.Tuple es k pos) (dgTup n u) vs :=
  PG.of (pg_tup G.calm h hn hst) fun v σ H Q ⟨d, τ, M, Q0, E0, r, S, h⟩ => by
    cases d with
    | tup ds =>
      obtain ⟨a, us, rfl, ha, ra⟩ := rep_of_tup r
      exact ⟨a, us, rfl, sqT_of ha, by rw [ra.length]; exact h.1, ds, τ, M, Q0, ra, ⟨S.rs, S.co, S.q, fun _ _ _ _ _ h => h.elim⟩, h.2⟩
    | _ => exact h.elim
theorem dgw_lst {k n : Nat} {u : DTGs} (G : Gd X W) (h : DGsw X W es u vs) (hn : (assignEach es X.env).length = n := by rfl) (hst : (assignEach es X.env).findIdx? (·.1) = none := by rfl) : DGw X W (.Tuple es k pos) (dgLst n u) vs :=
  PG.of (pg_lst G.calm h hn hst) fun v σ H Q ⟨d, τ, M, Q0, E0, r, S, h⟩ => by
    cases d with
    | lst ds =>
      obtain ⟨a, us, rfl, ha, _, ra⟩ := rep_of_lst r
      exact ⟨a, us, rfl, .inl (.inl ha), by rw [ra.length]; exact h.1, ds, τ, M, Q0, ra, ⟨S.rs, S.co, S.q, fun _ _ _ _ _ h => h.elim⟩, h.2⟩
    | _ => exact h.elim

/-! tests behind `if` -/
abbrev DTs (X : Cx) (W : WX) (ifs : List Expr) (t : DTT) : Prop := PTs X ifs (lif X.K W RB t)
def dYes : DTT := fun _ M Q _ => Q true M
theorem dts_nil : DTs X W [] dYes := ⟨fun pins s σ H Q I ⟨τ, M, Q0, E0, S, h⟩ => pts_nil.run pins s σ H Q I (S.end_ h rfl)⟩
theorem dts_one (h : DT X W c tt) : DTs X W [c] tt := pts_one h

/-! the clauses -/
structure DCl where
  ti : DTI
  g : DTG
  tt : DTT
  vs : List Nat
def wTs (g : DTG) (tt : DTT) (vs : List Nat) (τ : DSt) (inn : DSt → Mu → (Mu → Prop) → Prop) (Nx : Mu → Prop) : List D → Mu → Prop
  | [], M => Nx M
  | d :: ds, M => g d (wipeD τ vs) M (fun τ2 M2 => tt τ2 M2 (fun b M3 => if b = true then inn τ2 M3 (wTs g tt vs τ inn Nx ds) else wTs g tt vs τ inn Nx ds M3) noX) noX
def wNst (em : DSt → Mu → (Mu → Prop) → Prop) : List DCl → DSt → Mu → (Mu → Prop) → Prop
  | [], τ, M, Nx => em τ M Nx
  | c :: cs, τ, M, Nx => c.ti τ M (fun ds M1 => wTs c.g c.tt c.vs τ (wNst em cs) Nx ds M1) noX
/-- the next item comes to the list at p -/
def dEm (p : Addr) (te : DTE) : DSt → Mu → (Mu → Prop) → Prop := fun τ M Nx => te τ M (fun y M1 => ∃ acc, M1 p = some (.lst acc) ∧ acc.length < sizeLine ∧ Nx (put M1 p (.lst (acc ++ [y])))) noX
/-- the list that is made, at a place of its own -/
def dLcM (ti : DTI) (g : DTG) (tt : DTT) (vs : List Nat) (cs : List DCl) (te : DTE) : DTE := fun τ M Q E => ti τ M (fun ds M1 => ∀ p, M1 p = none → wTs g tt vs τ (wNst (dEm p te) cs) (fun M2 => Q (.ref p) M2) ds (put M1 p (.lst []))) E
def Inn (K : PySem.W.Frag) (inn : DSt → Mu → (Mu → Prop) → Prop) (innL : L2.St → Hp → (Hp → Prop) → Prop) : Prop :=
  ∀ τ σ M H Nx0 Nx, RepS K M H τ σ → Cor K M H → (∀ M' H', Nx0 M' → Cor K M' H' → Stp M H M' H' → Nx H') → inn τ M Nx0 → innL σ H Nx
theorem turns_ok {K : PySem.W.Frag} {inn : DSt → Mu → (Mu → Prop) → Prop} {innL : L2.St → Hp → (Hp → Prop) → Prop} (hin : Inn K inn innL) {g : DTG} {τ : DSt} {σ : L2.St} {M M1 : Mu} {H H1 : Hp} {ds : List D} {J : It} {Nx0 : Mu → Prop} {Nx : Hp → Prop}
    (hJ : ItOk K M H ds J) (rs : RepS K M H τ σ) (hN : ∀ M' H', Nx0 M' → Cor K M' H' → Stp M H M' H' → Nx H') (s1 : Stp M H M1 H1) (c1 : Cor K M1 H1) (h : wTs g tt vs τ inn Nx0 ds M1) :
    wTurns (lifGw K W0 g vs) (lif K W0 RB tt) vs σ innL Nx J H1 := by
  refine ⟨fun i m H2 => m = ds.length - i ∧ i ≤ ds.length ∧ ∃ M2, Stp M H M2 H2 ∧ Cor K M2 H2 ∧ wTs g tt vs τ inn Nx0 (ds.drop i) M2, ⟨ds.length, rfl, Nat.zero_le _, M1, s1, c1, h⟩, ?_⟩
  rintro i m H2 ⟨rfl, hi, M2, s2, c2, h2⟩
  obtain ⟨k1, k2, k3⟩ := hJ M2 H2 s2 c2
  by_cases hlt : i < ds.length
  · have e : ds.drop i = ds[i] :: ds.drop (i + 1) := List.drop_eq_getElem_cons hlt
    rw [e] at h2
    refine .inr ⟨k2 i hlt, fun H3 => ∃ M3, Stp M H M3 H3 ∧ Cor K M3 H3 ∧ wTs g tt vs τ inn Nx0 (ds.drop (i + 1)) M3, fun H3 q => ⟨ds.length - (i + 1), by omega, rfl, hlt, q⟩, fun x H3 y => ?_⟩
    obtain ⟨y1, y2, y3⟩ := k3 i ds[i] x H3 (List.getElem?_eq_getElem hlt) y
    have s3 := s2.trans y3
    refine ⟨ds[i], wipeD τ vs, M2, _, noX, y1, ⟨(rs.stp s3).wipe vs, y2, fun τ4 M4 σ4 H4 h4 r4 c4 s4 hw => ⟨hw.trans (wipe_wipe σ vs), ?_⟩, fun _ _ _ _ _ z => z.elim⟩, h2⟩
    refine ⟨τ4, M4, _, noX, ⟨r4, c4, fun b M5 b' H5 h5 r5 c5 s5 => ?_, fun _ _ _ _ _ z => z.elim⟩, h4⟩
    cases r5
    cases b with
    | false => exact ⟨M5, s3.trans (s4.trans s5), c5, h5⟩
    | true =>
      simp only [if_true] at h5 ⊢
      exact hin τ4 σ4 M5 H5 _ _ (r4.stp s5) c5 (fun M' H' n c' s' => ⟨M', s3.trans (s4.trans (s5.trans s')), c', n⟩) h5
  · have e : i = ds.length := by omega
    rw [e, List.drop_length] at h2
    exact .inl ⟨k1 i (by omega), hN M2 H2 h2 c2 s2⟩
theorem em_ok {K : PySem.W.Frag} (p : Addr) : Inn K (dEm p te) (emt p (lif K W0 (RD K) te)) := fun τ σ M H Nx0 Nx rs co hN h => by
  refine ⟨τ, M, _, noX, ⟨rs, co, fun yd M6 yv H6 h6 r6 c6 s6 => ?_, fun _ _ _ _ _ z => z.elim⟩, h⟩
  obtain ⟨acc, ha, hl, h6⟩ := h6
  obtain ⟨us, hu, ru⟩ := mu_lst c6 ha
  have st := Stp.write (H := H6) (o := .lst (us ++ [yv])) (mo' := .lst (acc ++ [yd])) ha
  exact ⟨us, hu, by rw [ru.length]; exact hl, hN _ _ h6 (c6.write ha (mo' := .lst (acc ++ [yd])) (o := .lst (us ++ [yv])) ⟨_, rfl, ru.snoc r6⟩) (s6.trans st)⟩
/-- a clause and its text -/
structure TCl where
  tg : Expr
  iter : Expr
  ifs : List Expr
  c : DCl
def TCl.cl (K : PySem.W.Frag) (c : TCl) : Cl := ⟨c.tg, c.iter, c.ifs, lif K W0 (ItOk K) c.c.ti, lifGw K W0 c.c.g c.c.vs, lif K W0 RB c.c.tt, c.c.vs⟩
theorem nst_ok {K : PySem.W.Frag} {em : DSt → Mu → (Mu → Prop) → Prop} {emL : L2.St → Hp → (Hp → Prop) → Prop} (he : Inn K em emL) : ∀ cs : List TCl, Inn K (wNst em (cs.map (·.c))) (Nst emL (cs.map (TCl.cl K)))
  | [] => he
  | c :: cs => fun τ σ M H Nx0 Nx rs co hN h =>
    ⟨τ, M, _, noX, ⟨rs, co, fun ds M1 J H1 h1 r1 c1 s1 => turns_ok (nst_ok he cs) r1 (rs.stp s1) (fun M' H' n c' s' => hN M' H' n c' (s1.trans s')) (Stp.refl M1 H1) c1 h1, fun _ _ _ _ _ z => z.elim⟩, h⟩
variable {elt tg iter : Expr} {ifs : List Expr} {scope : Scope} {own : List (Str × Nat)} {ti : DTI} {g : DTG} {cs : List TCl}
def fCl (X : Cx) (W : WX) (tg iter : Expr) (ifs : List Expr) (ti : DTI) (g : DTG) (tt : DTT) (vs : List Nat) : Cl := ⟨tg, iter, ifs, lif X.K W (ItOk X.K) ti, lifGw X.K W0 g vs, lif X.K W0 RB tt, vs⟩
theorem lif_lc {σ : L2.St} {H : Hp} {Q : VK} (h : lif X.K W (RD X.K) (dLcM ti g tt vs (cs.map (·.c)) te) σ H Q) :
    tLcN (fCl X W tg iter ifs ti g tt vs) (cs.map (TCl.cl X.K)) (lif X.K W0 (RD X.K) te) σ H Q := by
  obtain ⟨τ, M, Q0, E0, S, h⟩ := h
  refine S.sub h fun ds M1 J H1 h1 r1 S1 s1 => ?_
  intro D hD
  exact turns_ok (nst_ok (em_ok D) cs) r1 S1.rs (fun M' H' n c' s' => S1.q (.ref D) M' (.ref D) H' n rfl c' s') (Stp.newM hD) (S1.co.newM hD (mo := .lst []) ⟨[], rfl, .nil⟩) (h1 D (S1.co.free hD))
/-- what the block's parts do -/
structure BlkD (B : Cx) (tg : Expr) (g : DTG) (ifs : List Expr) (tt : DTT) (vs : List Nat) (cs : List TCl) (elt : Expr) (te : DTE) : Prop where
  g : DGw B W0 tg g vs
  t : DTs B W0 ifs tt
  cs : ∀ c ∈ cs, DGw B W0 c.tg c.c.g c.c.vs ∧ DTs B W0 c.ifs c.c.tt ∧ DI B W0 c.tg c.iter c.c.ti ∧ ∀ x, foldedSetIterable c.iter B.env x = pure x
  e : DE B W0 elt te
def Dec2 : List Nat → List TCl → Bool
  | _, [] => true
  | vs, c :: cs => (c.c.vs.all fun i => decide (i ∈ vs)) && Dec2 c.c.vs cs
theorem dec_of (K : PySem.W.Frag) : ∀ {vs : List Nat} {cs : List TCl}, Dec2 vs cs = true → Dec vs (cs.map (TCl.cl K))
  | _, [], _ => trivial
  | vs, c :: cs, h => by
    unfold Dec2 at h
    rw [Bool.and_eq_true, List.all_eq_true] at h
    exact ⟨fun i hi => by simpa using h.1 i hi, dec_of K h.2⟩
theorem blk_ok {B : Cx} {W : WX} (hK : B.K = X.K) (h : BlkD B tg g ifs tt vs cs elt te) : ClOk B (fCl X W tg iter ifs ti g tt vs) ∧ (∀ x ∈ cs.map (TCl.cl X.K), ClIn B x) ∧ PE B elt (lif X.K W0 (RD X.K) te) := by
  rw [← hK]
  refine ⟨⟨by rw [fCl, ← hK]; exact h.g, by rw [fCl, ← hK]; exact h.t⟩, fun x hx => ?_, h.e⟩
  obtain ⟨c, hc, rfl⟩ := List.mem_map.mp hx
  obtain ⟨a, b, d, e⟩ := h.cs c hc
  exact ⟨⟨a, b⟩, d, e⟩
theorem de_lcN (own : List (Str × Nat)) (cs : List TCl) (G : Gd X W) (hi : DI X W tg iter ti) (hb : ∀ (s : Shared) (H : Hp) (C : Addr) (cl : List (Str × Addr)) (fp : List Addr), Gd (X.blk s H scope (compEnvC scope cl C X.env) fp) W0 → BlkD (X.blk s H scope (compEnvC scope cl C X.env) fp) tg g ifs tt (own.map (·.2)) cs elt te)
    (hd : Dec2 (own.map (·.2)) cs = true) (ok : blkC X.N X.env.scope scope own = true) (hs : ∀ x, foldedSetIterable iter X.env x = pure x) : DE X W (.ListComp elt (⟨tg, iter, ifs, 0⟩ :: cs.map (fun c => (TCl.cl X.K c).c)) scope pos) (dLcM ti g tt (own.map (·.2)) (cs.map (·.c)) te) := by
  rw [show cs.map (fun c => (TCl.cl X.K c).c) = (cs.map (TCl.cl X.K)).map Cl.c by rw [List.map_map]; rfl]
  exact PE.of (pe_lcN (c := fCl X W tg iter ifs ti g tt (@List.map (Str × Nat) Nat (fun p => p.2) own)) G.calm G.nd hi (blkOk_by ok) rfl (show Dec (own.map (·.2)) _ from dec_of X.K hd) (fun B ⟨s, H, C, cl, fp, e⟩ => by subst e; exact blk_ok rfl (hb s H C cl fp (G.blk ..))) hs) fun σ H Q h => lif_lc h
/-- name = [..] on the name's row -/
theorem ds_setLcN {spos py : Pos} {t : DTE} (j : Nat) (own : List (Str × Nat)) (cs : List TCl) (G : Gd X W) (hi : DI X W tg iter ti) (hb : ∀ (s : Shared) (H : Hp) (C : Addr) (cl : List (Str × Addr)) (fp : List Addr), Gd (X.blk s H scope (compEnvC scope cl C X.env) fp) W0 → BlkD (X.blk s H scope (compEnvC scope cl C X.env) fp) tg g ifs tt (own.map (·.2)) cs elt te)
    (hq : ∀ σ H Q, lif X.K W (RD X.K) t σ H Q → lif X.K W (RD X.K) (dLcM ti g tt (own.map (·.2)) (cs.map (·.c)) te) σ H Q)
    (hy : X.N[j]? = some x) (hyl : X.env.scope.names.lookup x = some .local) (hsw : swapsWith (.ListComp elt (⟨tg, iter, ifs, 0⟩ :: cs.map (fun c => (TCl.cl X.K c).c)) scope pos) (some (.Name x py)) spos.line X.env = pure true)
    (hd : Dec2 (own.map (·.2)) cs = true) (ok : blkC X.N X.env.scope scope own = true) (hs : ∀ x, foldedSetIterable iter X.env x = pure x) : DS X W (.Assign [.Name x py] (.ListComp elt (⟨tg, iter, ifs, 0⟩ :: cs.map (fun c => (TCl.cl X.K c).c)) scope pos) spos) (dSet j t) := by
  rw [show cs.map (fun c => (TCl.cl X.K c).c) = (cs.map (TCl.cl X.K)).map Cl.c by rw [List.map_map]; rfl] at hsw ⊢
  exact PS.of (ps_setLcN (c := fCl X W tg iter ifs ti g tt (@List.map (Str × Nat) Nat (fun p => p.2) own)) G.calm G.nd hy hyl hsw hi (blkOk_by ok) rfl (show Dec (own.map (·.2)) _ from dec_of X.K hd) (fun B ⟨s, H, C, cl, fp, e⟩ => by subst e; exact blk_ok rfl (hb s H C cl fp (G.blk ..))) hs) fun D1 σ H ⟨τ, M, D0, S, h⟩ =>
    lif_lc (hq σ H _ (S.sub h fun d M1 v H1 h1 r1 S1 s1 => S1.nx _ M1 _ H1 h1 (S1.rs.set r1 j) S1.co (Stp.refl M1 H1)))
theorem lc_keep {t : DTE} : ∀ (σ : L2.St) (H : Hp) (Q : VK), lif X.K W (RD X.K) t σ H Q → lif X.K W (RD X.K) t σ H Q := fun _ _ _ h => h
theorem lc_frz {t : DTE} : ∀ (σ : L2.St) (H : Hp) (Q : VK), lif X.K W (RD X.K) (dFrz t) σ H Q → lif X.K W (RD X.K) t σ H Q := fun σ H Q ⟨τ, M, Q0, E0, S, h⟩ => S.sub h fun d M1 v H1 h1 r1 S1 s1 => by
  match d, h1 with
  | .ref a, h1 =>
    cases r1
    have h2 : (match M1 a with
      | some (.lst ds) => Q0 (.lst ds) (del M1 a)
      | _ => False) := h1
    split at h2
    · rename_i ds e
      obtain ⟨vs, ha, ra⟩ := mu_lst S1.co e
      exact S1.q _ _ _ _ h2 (rep_lst ha del_same (ra.stp Stp.frz)) S1.co.frz Stp.frz
    · exact h2.elim
/-! one, two, three clauses -/
section
variable {tg1 iter1 tg2 iter2 : Expr} {ifs1 ifs2 : List Expr} {ti1 ti2 : DTI} {g1 g2 : DTG} {tt1 tt2 : DTT} {vs1 vs2 : List Nat}
theorem bk1 (hg : DGw X W0 tg g vs) (ht : DTs X W0 ifs tt) (he : DE X W0 elt te) : BlkD X tg g ifs tt vs [] elt te := ⟨hg, ht, fun _ h => (nomatch h), he⟩
theorem bk2 (hg : DGw X W0 tg g vs) (ht : DTs X W0 ifs tt) (hi1 : DI X W0 tg1 iter1 ti1) (hg1 : DGw X W0 tg1 g1 vs1) (ht1 : DTs X W0 ifs1 tt1) (he : DE X W0 elt te) (hs : ∀ x, foldedSetIterable iter1 X.env x = pure x := by intro _; rfl) :
    BlkD X tg g ifs tt vs [⟨tg1, iter1, ifs1, ⟨ti1, g1, tt1, vs1⟩⟩] elt te := by
  refine ⟨hg, ht, fun c h => ?_, he⟩
  rw [List.mem_singleton] at h; subst h
  exact ⟨hg1, ht1, hi1, hs⟩
theorem bk3 (hg : DGw X W0 tg g vs) (ht : DTs X W0 ifs tt) (hi1 : DI X W0 tg1 iter1 ti1) (hg1 : DGw X W0 tg1 g1 vs1) (ht1 : DTs X W0 ifs1 tt1) (hi2 : DI X W0 tg2 iter2 ti2) (hg2 : DGw X W0 tg2 g2 vs2) (ht2 : DTs X W0 ifs2 tt2) (he : DE X W0 elt te)
    (hs : ∀ x, foldedSetIterable iter1 X.env x = pure x := by intro _; rfl) (hs2 : ∀ x, foldedSetIterable iter2 X.env x = pure x := by intro _; rfl) :
    BlkD X tg g ifs tt vs [⟨tg1, iter1, ifs1, ⟨ti1, g1, tt1, vs1⟩⟩, ⟨tg2, iter2, ifs2, ⟨ti2, g2, tt2, vs2⟩⟩] elt te := by
  refine ⟨hg, ht, fun c h => ?_, he⟩
  simp only [List.mem_cons, List.not_mem_nil, or_false] at h
  rcases h with rfl | rfl
  · exact ⟨hg1, ht1, hi1, hs⟩
  · exact ⟨hg2, ht2, hi2, hs2⟩
theorem de_lc1 (own : List (Str × Nat)) (G : Gd X W) (hi : DI X W tg iter ti) (hb : ∀ (s : Shared) (H : Hp) (C : Addr) (cl : List (Str × Addr)) (fp : List Addr), Gd (X.blk s H scope (compEnvC scope cl C X.env) fp) W0 → BlkD (X.blk s H scope (compEnvC scope cl C X.env) fp) tg g ifs tt (own.map (·.2)) [] elt te) (ok : blkC X.N X.env.scope scope own = true := by first | kernel_rfl | decide +kernel) (hs : ∀ x, foldedSetIterable iter X.env x = pure x := by intro _; rfl) :
    DE X W (.ListComp elt [⟨tg, iter, ifs, 0⟩] scope pos) (dLcM ti g tt (own.map (·.2)) [] te) := de_lcN own [] G hi hb rfl ok hs
theorem ds_setLc1 {spos py : Pos} {t : DTE} (j : Nat) (own : List (Str × Nat)) (G : Gd X W) (hi : DI X W tg iter ti) (hb : ∀ (s : Shared) (H : Hp) (C : Addr) (cl : List (Str × Addr)) (fp : List Addr), Gd (X.blk s H scope (compEnvC scope cl C X.env) fp) W0 → BlkD (X.blk s H scope (compEnvC scope cl C X.env) fp) tg g ifs tt (own.map (·.2)) [] elt te) (hq : ∀ σ H Q, lif X.K W (RD X.K) t σ H Q → lif X.K W (RD X.K) (dLcM ti g tt (own.map (·.2)) [] te) σ H Q) (ok : blkC X.N X.env.scope scope own = true := by first | kernel_rfl | decide +kernel) (hs : ∀ x, foldedSetIterable iter X.env x = pure x := by intro _; rfl)
    (hy : X.N[j]? = some x := by rfl) (hyl : X.env.scope.names.lookup x = some .local := by rfl) (hsw : swapsWith (.ListComp elt [⟨tg, iter, ifs, 0⟩] scope pos) (some (.Name x py)) spos.line X.env = pure true := by rfl) :
    DS X W (.Assign [.Name x py] (.ListComp elt [⟨tg, iter, ifs, 0⟩] scope pos) spos) (dSet j t) := ds_setLcN j own [] G hi hb hq hy hyl hsw rfl ok hs
theorem de_lc2 (own : List (Str × Nat)) (vs1 : List Nat) (G : Gd X W) (hi : DI X W tg iter ti) (hb : ∀ (s : Shared) (H : Hp) (C : Addr) (cl : List (Str × Addr)) (fp : List Addr), Gd (X.blk s H scope (compEnvC scope cl C X.env) fp) W0 → BlkD (X.blk s H scope (compEnvC scope cl C X.env) fp) tg g ifs tt (own.map (·.2)) [⟨tg1, iter1, ifs1, ⟨ti1, g1, tt1, vs1⟩⟩] elt te) (hd : Dec2 (own.map (·.2)) ([⟨tg1, iter1, ifs1, ⟨ti1, g1, tt1, vs1⟩⟩] : List TCl) = true := by rfl) (ok : blkC X.N X.env.scope scope own = true := by first | kernel_rfl | decide +kernel) (hs : ∀ x, foldedSetIterable iter X.env x = pure x := by intro _; rfl) :
    DE X W (.ListComp elt [⟨tg, iter, ifs, 0⟩, ⟨tg1, iter1, ifs1, 0⟩] scope pos) (dLcM ti g tt (own.map (·.2)) [⟨ti1, g1, tt1, vs1⟩] te) := de_lcN own [⟨tg1, iter1, ifs1, ⟨ti1, g1, tt1, vs1⟩⟩] G hi hb hd ok hs
theorem ds_setLc2 {spos py : Pos} {t : DTE} (j : Nat) (own : List (Str × Nat)) (vs1 : List Nat) (G : Gd X W) (hi : DI X W tg iter ti) (hb : ∀ (s : Shared) (H : Hp) (C : Addr) (cl : List (Str × Addr)) (fp : List Addr), Gd (X.blk s H scope (compEnvC scope cl C X.env) fp) W0 → BlkD (X.blk s H scope (compEnvC scope cl C X.env) fp) tg g ifs tt (own.map (·.2)) [⟨tg1, iter1, ifs1, ⟨ti1, g1, tt1, vs1⟩⟩] elt te) (hq : ∀ σ H Q, lif X.K W (RD X.K) t σ H Q → lif X.K W (RD X.K) (dLcM ti g tt (own.map (·.2)) [⟨ti1, g1, tt1, vs1⟩] te) σ H Q) (hd : Dec2 (own.map (·.2)) ([⟨tg1, iter1, ifs1, ⟨ti1, g1, tt1, vs1⟩⟩] : List TCl) = true := by rfl) (ok : blkC X.N X.env.scope scope own = true := by first | kernel_rfl | decide +kernel) (hs : ∀ x, foldedSetIterable iter X.env x = pure x := by intro _; rfl)
    (hy : X.N[j]? = some x := by rfl) (hyl : X.env.scope.names.lookup x = some .local := by rfl) (hsw : swapsWith (.ListComp elt [⟨tg, iter, ifs, 0⟩, ⟨tg1, iter1, ifs1, 0⟩] scope pos) (some (.Name x py)) spos.line X.env = pure true := by rfl) :
    DS X W (.Assign [.Name x py] (.ListComp elt [⟨tg, iter, ifs, 0⟩, ⟨tg1, iter1, ifs1, 0⟩] scope pos) spos) (dSet j t) := ds_setLcN j own [⟨tg1, iter1, ifs1, ⟨ti1, g1, tt1, vs1⟩⟩] G hi hb hq hy hyl hsw hd ok hs
theorem de_lc3 (own : List (Str × Nat)) (vs1 vs2 : List Nat) (G : Gd X W) (hi : DI X W tg iter ti) (hb : ∀ (s : Shared) (H : Hp) (C : Addr) (cl : List (Str × Addr)) (fp : List Addr), Gd (X.blk s H scope (compEnvC scope cl C X.env) fp) W0 → BlkD (X.blk s H scope (compEnvC scope cl C X.env) fp) tg g ifs tt (own.map (·.2)) [⟨tg1, iter1, ifs1, ⟨ti1, g1, tt1, vs1⟩⟩, ⟨tg2, iter2, ifs2, ⟨ti2, g2, tt2, vs2⟩⟩] elt te) (hd : Dec2 (own.map (·.2)) ([⟨tg1, iter1, ifs1, ⟨ti1, g1, tt1, vs1⟩⟩, ⟨tg2, iter2, ifs2, ⟨ti2, g2, tt2, vs2⟩⟩] : List TCl) = true := by rfl) (ok : blkC X.N X.env.scope scope own = true := by first | kernel_rfl | decide +kernel) (hs : ∀ x, foldedSetIterable iter X.env x = pure x := by intro _; rfl) :
    DE X W (.ListComp elt [⟨tg, iter, ifs, 0⟩, ⟨tg1, iter1, ifs1, 0⟩, ⟨tg2, iter2, ifs2, 0⟩] scope pos) (dLcM ti g tt (own.map (·.2)) [⟨ti1, g1, tt1, vs1⟩, ⟨ti2, g2, tt2, vs2⟩] te) := de_lcN own [⟨tg1, iter1, ifs1, ⟨ti1, g1, tt1, vs1⟩⟩, ⟨tg2, iter2, ifs2, ⟨ti2, g2, tt2, vs2⟩⟩] G hi hb hd ok hs
theorem ds_setLc3 {spos py : Pos} {t : DTE} (j : Nat) (own : List (Str × Nat)) (vs1 vs2 : List Nat) (G : Gd X W) (hi : DI X W tg iter ti) (hb : ∀ (s : Shared) (H : Hp) (C : Addr) (cl : List (Str × Addr)) (fp : List Addr), Gd (X.blk s H scope (compEnvC scope cl C X.env) fp) W0 → BlkD (X.blk s H scope (compEnvC scope cl C X.env) fp) tg g ifs tt (own.map (·.2)) [⟨tg1, iter1, ifs1, ⟨ti1, g1, tt1, vs1⟩⟩, ⟨tg2, iter2, ifs2, ⟨ti2, g2, tt2, vs2⟩⟩] elt te) (hq : ∀ σ H Q, lif X.K W (RD X.K) t σ H Q → lif X.K W (RD X.K) (dLcM ti g tt (own.map (·.2)) [⟨ti1, g1, tt1, vs1⟩, ⟨ti2, g2, tt2, vs2⟩] te) σ H Q) (hd : Dec2 (own.map (·.2)) ([⟨tg1, iter1, ifs1, ⟨ti1, g1, tt1, vs1⟩⟩, ⟨tg2, iter2, ifs2, ⟨ti2, g2, tt2, vs2⟩⟩] : List TCl) = true := by rfl) (ok : blkC X.N X.env.scope scope own = true := by first | kernel_rfl | decide +kernel) (hs : ∀ x, foldedSetIterable iter X.env x = pure x := by intro _; rfl)
    (hy : X.N[j]? = some x := by rfl) (hyl : X.env.scope.names.lookup x = some .local := by rfl) (hsw : swapsWith (.ListComp elt [⟨tg, iter, ifs, 0⟩, ⟨tg1, iter1, ifs1, 0⟩, ⟨tg2, iter2, ifs2, 0⟩] scope pos) (some (.Name x py)) spos.line X.env = pure true := by rfl) :
    DS X W (.Assign [.Name x py] (.ListComp elt [⟨tg, iter, ifs, 0⟩, ⟨tg1, iter1, ifs1, 0⟩, ⟨tg2, iter2, ifs2, 0⟩] scope pos) spos) (dSet j t) := ds_setLcN j own [⟨tg1, iter1, ifs1, ⟨ti1, g1, tt1, vs1⟩⟩, ⟨tg2, iter2, ifs2, ⟨ti2, g2, tt2, vs2⟩⟩] G hi hb hq hy hyl hsw hd ok hs
end
end
end DL

namespace DL
open PySem L2
/-! ### f'..' -/
def dJs : List DTE → Tx → DSt → Mu → (Tx → Mu → Prop) → DX → Prop
  | [], acc, _, M, Q, _ => Q acc M
  | t :: ts, acc, τ, M, Q, E => t τ M (fun x M1 => match x with
    | .str y => (acc ++ y).length ≤ 16777216 ∧ dJs ts (acc ++ y) τ M1 Q E
    | _ => False) E
def dFs (ts : List DTE) : DTE := fun τ M Q E => dJs ts [] τ M (fun out M1 => Q (.str out) M1) E
def intT (i : Int) : Tx := T (toString i)
def dFmt (te : DTE) : DTE := fun τ M Q E => te τ M (fun x M1 => match x with
  | .str y => y.length ≤ 16777216 ∧ Q (.str y) M1
  | .int i => i.natAbs.log2 < 1920 ∧ Q (.str (intT i)) M1
  | _ => False) E
inductive DJ (X : Cx) (W : WX) : List Expr → List DTE → Prop where
  | nil : DJ X W [] []
  | cons {e : Expr} {t : DTE} {es : List Expr} {ts : List DTE} (h : DE X W e t) (r : DJ X W es ts) : DJ X W (e :: es) (t :: ts)
section
variable {X : Cx} {W : WX} {a b c e e1 e2 o : Expr} {rest es : List Expr} {ta tb tc te to : DTE} {ts : List DTE} {tl : DTA} {pos apos cpos p : Pos} {name : Str}
theorem de_fmt (h : DE X W e te) : DE X W (.FormattedValue e (-1) none pos) (dFmt te) := PE.of (pe_fmt h) fun σ H Q ⟨τ, M, Q0, E0, S, h⟩ => S.sub h fun d M1 v H1 h1 r1 S1 s1 => by
  cases d with
  | str y => exact .inl ⟨sx y, r1, by rw [sx_len, line24]; exact h1.1, S1.end_ h1.2 rfl⟩
  | int i => exact .inr ⟨i, r1, h1.1, S1.end_ h1.2 (by show V.str _ = V.str (sx (T _)); rw [sx_T])⟩
  | _ => exact h1.elim
theorem dj_pj : ∀ {es : List Expr} {ts : List DTE}, DJ X W es ts → PJ X es (ts.map (lif X.K W (RD X.K)))
  | _, _, .nil => .nil
  | _, _, .cons h r => .cons h (dj_pj r)
theorem js_ok {τ : DSt} {σ : L2.St} {Q : VK} {Q0 : DK} {E0 : DX} : ∀ {ts : List DTE} {acc : Tx} {M : Mu} {H : Hp}, Sit X.K W (RD X.K) τ M σ H Q0 E0 Q → dJs ts acc τ M (fun out M1 => Q0 (.str out) M1) E0 →
    tJs (ts.map (lif X.K W (RD X.K))) (sx acc) σ H fun out H1 => Q (.str out) H1
  | [], acc, M, H, S, h => S.end_ (d := .str acc) h rfl
  | t :: ts, acc, M, H, S, h => S.sub h fun d M1 v H1 h1 r1 S1 s1 => by
    cases d with
    | str y =>
      refine ⟨sx y, r1, by rw [sx_add, sx_len, line24]; exact h1.1, ?_⟩
      rw [sx_add]
      exact js_ok S1 h1.2
    | _ => exact h1.elim
theorem de_fs (h : DJ X W (e1 :: e2 :: rest) ts) : DE X W (.JoinedStr (e1 :: e2 :: rest) pos) (dFs ts) := PE.of (pe_joined (dj_pj h)) fun σ H Q ⟨τ, M, Q0, E0, S, h⟩ => js_ok (acc := []) S h
theorem de_fs1 (h : DE X W e te) : DE X W (.JoinedStr [e] pos) te := pe_joined1 h
end
/-! ### methods -/
/-- cut at a sign -/
def cutAt (c : Nat) : Tx → List Tx
  | [] => [[]]
  | x :: r => if x = c then [] :: cutAt c r else match cutAt c r with
    | y :: ys => (x :: y) :: ys
    | [] => [[x]]
theorem cutAt_ne (c : Nat) : ∀ t : Tx, cutAt c t ≠ []
  | [] => by simp [cutAt]
  | x :: r => by
    unfold cutAt
    split
    · simp
    · split <;> simp
def hd1 (acc : Tx) : List Tx → List Tx
  | [] => [acc]
  | y :: ys => (acc ++ y) :: ys
theorem spl_cut (c : Nat) : ∀ (t acc : Tx), TL.spl [c] 0 acc t = hd1 acc (cutAt c t)
  | [], acc => by simp [TL.spl_nil, cutAt, hd1]
  | x :: r, acc => by
    by_cases e : x = c
    · have hp : TL.pre [c] (x :: r) = true := by simp [TL.pre, e]
      rw [TL.spl_hit hp]
      show acc :: TL.spl [c] 0 [] r = _
      have hc : cutAt c (x :: r) = [] :: cutAt c r := if_pos e
      rw [spl_cut c r [], hc]
      cases h : cutAt c r with
      | nil => exact absurd h (cutAt_ne c r)
      | cons y ys => simp [hd1]
    · have hp : TL.pre [c] (x :: r) = false := by simp [TL.pre, e]
      have hc : cutAt c (x :: r) = (match cutAt c r with
        | y :: ys => (x :: y) :: ys
        | [] => [[x]]) := if_neg e
      rw [TL.spl_miss hp, spl_cut c r, hc]
      cases h : cutAt c r with
      | nil => exact absurd h (cutAt_ne c r)
      | cons y ys => simp [hd1]
theorem split_cut (c : Nat) (hc : c < 256) (t : Tx) : Txt.split (sx t) (sx [c]) = (cutAt c t).map sx := by
  have e : (Txt.split (sx t) (sx [c])).map TL.tl = TL.spl (TL.tl (sx [c])) 0 [] (TL.tl (sx t)) := TL.split_spl (sx t) (sx [c]) (by rw [tl_sx]; simp) (TL.kind_ok (by rw [← Array.all_toList]; simp [sx, hc]))
  rw [tl_sx, tl_sx, spl_cut] at e
  have e2 : hd1 [] (cutAt c t) = cutAt c t := by
    cases h : cutAt c t with
    | nil => exact absurd h (cutAt_ne c t)
    | cons y ys => simp [hd1]
  rw [e2] at e
  have := congrArg (List.map sx) e
  rw [List.map_map] at this
  have e3 : (sx ∘ TL.tl) = (id : Str → Str) := funext fun s => sx_T s
  rw [e3, List.map_id] at this
  exact this
def gSplit : DMt := fun x xs M Q => match x, xs with
  | .str a, [.str [c]] => c < 256 ∧ a.length + 2 ≤ 16777216 ∧ Q (.lst ((cutAt c a).map D.str)) M
  | _, _ => False
def gSplitM : DMt := fun x xs M Q => match x, xs with
  | .str a, [.str [c]] => c < 256 ∧ a.length + 2 ≤ 16777216 ∧ ∀ p, M p = none → Q (.ref p) (put M p (.lst ((cutAt c a).map D.str)))
  | _, _ => False
def endsT (a b : Tx) : Bool := b.reverse.isPrefixOf a.reverse
def gReverse : DMt := fun x xs M Q => match x, xs with
  | .ref a, [] => (match M a with
    | some (.lst ds) => Q .non (put M a (.lst ds.reverse))
    | _ => False)
  | _, _ => False
section
variable {K : PySem.W.Frag}
theorem md_split : MtD K gSplit (fun x xs H Q => ∃ a b, x = .str a ∧ xs = [.str b] ∧ (b.length == 0) = false ∧ a.length + 2 ≤ sizeLine ∧ rNewStrs (Txt.split a b) H Q) := fun M H x v xs vs Q0 Q c rx r h q => by
  match x, xs, h with
  | .str a, [.str [k]], h =>
    obtain ⟨u, us, rfl, r1, r2⟩ := r.uncons
    cases r2.unnil; cases rx; cases r1
    refine ⟨sx a, sx [k], rfl, rfl, by rw [sx_len]; rfl, by rw [sx_len, line24]; exact h.2.1, ?_⟩
    rw [split_cut k h.1]
    intro p hp
    exact q _ M _ _ h.2.2 (rep_lst upd_same (c.free hp) ((Reps.of_strs _).stp (Stp.new hp))) (c.new hp) (Stp.new hp)
theorem md_splitM : MtD K gSplitM (fun x xs H Q => ∃ a b, x = .str a ∧ xs = [.str b] ∧ (b.length == 0) = false ∧ a.length + 2 ≤ sizeLine ∧ rNewStrs (Txt.split a b) H Q) := fun M H x v xs vs Q0 Q c rx r h q => by
  match x, xs, h with
  | .str a, [.str [k]], h =>
    obtain ⟨u, us, rfl, r1, r2⟩ := r.uncons
    cases r2.unnil; cases rx; cases r1
    refine ⟨sx a, sx [k], rfl, rfl, by rw [sx_len]; rfl, by rw [sx_len, line24]; exact h.2.1, ?_⟩
    rw [split_cut k h.1]
    intro p hp
    exact q _ _ _ _ (h.2.2 p (c.free hp)) rfl (c.newM hp ⟨_, rfl, Reps.of_strs _⟩) (Stp.newM hp)
theorem md_reverse : MtD K gReverse rReverse := fun M H x v xs vs Q0 Q c rx r h q => by
  match x, xs, h with
  | .ref a, [], h =>
    cases r.unnil; cases rx
    have h2 : (match M a with
      | some (.lst ds) => Q0 .non (put M a (.lst ds.reverse))
      | _ => False) := h
    cases e : M a with
    | none => rw [e] at h2; exact h2.elim
    | some mo =>
      rw [e] at h2
      cases mo with
      | lst ds =>
        obtain ⟨vs, ha, ra⟩ := mu_lst c e
        exact ⟨a, vs, rfl, rfl, ha, q _ _ _ _ h2 rfl (c.write e ⟨_, rfl, ra.reverse⟩) (Stp.write e)⟩
      | _ => exact h2.elim
end
/-! ### all, any of a list -/
def blsOf : List D → Option (List Bool)
  | [] => some []
  | .bl b :: ds => (blsOf ds).map (b :: ·)
  | _ => none
def gAllA (f : List Bool → Bool) : DCb := fun xs M Q => match xs with
  | [.lst ds] => ∃ bs : List Bool, ds = bs.map D.bl ∧ Q (.bl (f bs)) M
  | _ => False
abbrev gAll : DCb := gAllA fun bs => bs.all id
abbrev gAnyL : DCb := gAllA fun bs => bs.any id
theorem cb_allA {K : PySem.W.Frag} {f : List Bool → Bool} : CbD K (gAllA f) (fun vs H Q => ∃ (a : Addr) (bs : List Bool), vs = [V.ref a] ∧ SqL K H a (bs.map V.bl) ∧ Q (.bl (f bs)) H) := fun M H xs vs Q0 Q c r h q => by
  match xs, h with
  | [.lst ds], h =>
    obtain ⟨bs, e, h⟩ := h
    subst e
    obtain ⟨v, u, rfl, r1, r2⟩ := r.uncons
    cases r2.unnil
    obtain ⟨a, ws, rfl, ha, ma, ra⟩ := rep_of_lst r1
    have e := ra.bls
    subst e
    exact ⟨a, bs, rfl, .inl (.inl ha), q _ M _ H h rfl c (Stp.refl M H)⟩
theorem cb_all {K : PySem.W.Frag} : CbD K gAll (rAll K) := cb_allA
theorem cb_anyL {K : PySem.W.Frag} : CbD K gAnyL (rAny K) := cb_allA
end DL

namespace DL
open PySem L2
/-- a statement that is not reached -/
def dNever : DTS := fun _ _ _ => False
theorem ds_never {X : Cx} {W : WX} {st : Stmt} : DS X W st dNever := ⟨fun pins s σ H D I ⟨τ, M, D0, S, h⟩ => h.elim⟩
/-! how the readings reduce -/
theorem lcM_ {ti : DTI} {g : DTG} {tt : DTT} {vs : List Nat} {cs : List DCl} {te : DTE} {τ : DSt} {M : Mu} {Q : DK} {E : DX} : dLcM ti g tt vs cs te τ M Q E = ti τ M (fun ds M1 => ∀ p, M1 p = none → wTs g tt vs τ (wNst (dEm p te) cs) (fun M2 => Q (.ref p) M2) ds (put M1 p (.lst []))) E := rfl
theorem wTs_nil {g : DTG} {tt : DTT} {vs : List Nat} {τ : DSt} {inn : DSt → Mu → (Mu → Prop) → Prop} {Nx : Mu → Prop} {M : Mu} : wTs g tt vs τ inn Nx [] M = Nx M := rfl
theorem wTs_cons {g : DTG} {tt : DTT} {vs : List Nat} {τ : DSt} {inn : DSt → Mu → (Mu → Prop) → Prop} {Nx : Mu → Prop} {M : Mu} {d : D} {ds : List D} :
    wTs g tt vs τ inn Nx (d :: ds) M = g d (wipeD τ vs) M (fun τ2 M2 => tt τ2 M2 (fun b M3 => if b = true then inn τ2 M3 (wTs g tt vs τ inn Nx ds) else wTs g tt vs τ inn Nx ds M3) noX) noX := rfl
/-- turn by turn -/
theorem wTs_by {g : DTG} {tt : DTT} {vs : List Nat} {τ : DSt} {inn : DSt → Mu → (Mu → Prop) → Prop} {Nx : Mu → Prop} (I : Nat → Mu → Prop) {ds : List D} (hs : ∀ i d M, ds[i]? = some d → I i M →
    g d (wipeD τ vs) M (fun τ2 M2 => tt τ2 M2 (fun b M3 => if b = true then ∀ N1 : Mu → Prop, (∀ M', I (i + 1) M' → N1 M') → inn τ2 M3 N1 else I (i + 1) M3) noX) noX)
    (mono_g : ∀ d τ M (Q Q' : DSt → Mu → Prop), (∀ a b, Q a b → Q' a b) → g d τ M Q noX → g d τ M Q' noX) (mono_t : ∀ τ M (Q Q' : Bool → Mu → Prop), (∀ a b, Q a b → Q' a b) → tt τ M Q noX → tt τ M Q' noX)
    (hd : ∀ M, I ds.length M → Nx M) : ∀ (k : Nat) (M : Mu), k ≤ ds.length → I k M → wTs g tt vs τ inn Nx (ds.drop k) M := by
  have go : ∀ (n k : Nat) (M : Mu), n + k = ds.length → I k M → wTs g tt vs τ inn Nx (ds.drop k) M := by
    intro n
    induction n with
    | zero =>
      intro k M e i
      have e2 : k = ds.length := by omega
      rw [e2, List.drop_length]
      rw [e2] at i
      exact hd M i
    | succ n ih =>
      intro k M e i
      have hlt : k < ds.length := by omega
      rw [List.drop_eq_getElem_cons hlt, wTs_cons]
      refine mono_g _ _ _ _ _ (fun τ2 M2 h => mono_t _ _ _ _ (fun b M3 h => ?_) h) (hs k ds[k] M (List.getElem?_eq_getElem hlt) i)
      cases b with
      | true => exact h _ fun M' i' => ih (k + 1) M' (by omega) i'
      | false => exact ih (k + 1) M3 (by omega) h
  exact fun k M hk i => go (ds.length - k) k M (by omega) i
/-! one name as the target -/
/-- turn by turn: the list so far -/
theorem lc_by {i : Nat} {tt : DTT} {vs : List Nat} {τ : DSt} {p : Addr} {te : DTE} {Nx : Mu → Prop} {ds : List D} {M : Mu} (I : Nat → List D → Mu → Prop) (h0 : I 0 [] M) (hM : M p = some (.lst []))
    (hs : ∀ k d acc M, ds[k]? = some d → M p = some (.lst acc) → I k acc M → ∀ N : Mu → Prop,
      (∀ y M1, M1 p = some (.lst acc) → I (k + 1) (acc ++ [y]) (put M1 p (.lst (acc ++ [y]))) → N (put M1 p (.lst (acc ++ [y])))) → (∀ M1, M1 p = some (.lst acc) → I (k + 1) acc M1 → N M1) →
      tt ((wipeD τ vs).set i (some d)) M (fun b M3 => if b = true then dEm p te ((wipeD τ vs).set i (some d)) M3 N else N M3) noX)
    (hd : ∀ acc M, M p = some (.lst acc) → I ds.length acc M → Nx M) : wTs (dgName i) tt vs τ (wNst (dEm p te) []) Nx ds M := by
  have go : ∀ (n k : Nat) (acc : List D) (M : Mu), n + k = ds.length → M p = some (.lst acc) → I k acc M → wTs (dgName i) tt vs τ (wNst (dEm p te) []) Nx (ds.drop k) M := by
    intro n
    induction n with
    | zero =>
      intro k acc M e hp hi
      have e2 : k = ds.length := by omega
      rw [e2, List.drop_length]
      rw [e2] at hi
      exact hd acc M hp hi
    | succ n ih =>
      intro k acc M e hp hi
      have hlt : k < ds.length := by omega
      rw [List.drop_eq_getElem_cons hlt, wTs_cons]
      exact hs k ds[k] acc M (List.getElem?_eq_getElem hlt) hp hi _ (fun y M1 _ i' => ih (k + 1) _ _ (by omega) put_same i') fun M1 hp' i' => ih (k + 1) _ _ (by omega) hp' i'
  exact go ds.length 0 [] M (by omega) hM h0
/-- nothing else is changed: the items' images, of those that pass -/
theorem lc_pure {i : Nat} {tt : DTT} {vs : List Nat} {τ : DSt} {p : Addr} {te : DTE} {Nx : Mu → Prop} {ds : List D} {M : Mu} (f : D → D) (g : D → Bool) (hl : ds.length < 16777216)
    (ht : ∀ d ∈ ds, ∀ acc (N : Bool → Mu → Prop), N (g d) (put M p (.lst acc)) → tt ((wipeD τ vs).set i (some d)) (put M p (.lst acc)) N noX)
    (he : ∀ d ∈ ds, g d = true → ∀ acc (N : D → Mu → Prop), N (f d) (put M p (.lst acc)) → te ((wipeD τ vs).set i (some d)) (put M p (.lst acc)) N noX)
    (h : Nx (put M p (.lst ((ds.filter g).map f)))) : wTs (dgName i) tt vs τ (wNst (dEm p te) []) Nx ds (put M p (.lst [])) := by
  refine lc_by (fun k acc M' => M' = put M p (.lst acc) ∧ acc = ((ds.take k).filter g).map f) ⟨rfl, by simp⟩ put_same ?_ ?_
  · rintro k d acc M' hk hp ⟨rfl, e⟩ N hy hn
    have hm := List.mem_of_getElem? hk
    have tk : ds.take (k + 1) = ds.take k ++ [d] := by rw [List.take_succ, hk]; rfl
    refine ht d hm acc _ ?_
    cases hg : g d with
    | true =>
      simp only [if_true]
      refine he d hm hg acc _ ⟨acc, put_same, ?_, ?_⟩
      · rw [e, List.length_map]
        have := List.length_filter_le g (ds.take k)
        have h2 : (ds.take k).length ≤ ds.length := by rw [List.length_take]; omega
        rw [line24] <;> omega
      · refine hy (f d) _ put_same ⟨by rw [put_put], ?_⟩
        rw [tk, List.filter_append, List.map_append, ← e]
        simp [hg]
    | false =>
      simp only [Bool.false_eq_true, if_false]
      refine hn _ put_same ⟨rfl, ?_⟩
      rw [tk, List.filter_append, List.map_append, ← e]
      simp [hg]
  · rintro acc M' hp ⟨rfl, e⟩
    rw [List.take_length] at e
    rw [e]
    exact h
theorem lc_map {i : Nat} {vs : List Nat} {τ : DSt} {p : Addr} {te : DTE} {Nx : Mu → Prop} {ds : List D} {M : Mu} (f : D → D) (hl : ds.length < 16777216)
    (he : ∀ d ∈ ds, ∀ acc (N : D → Mu → Prop), N (f d) (put M p (.lst acc)) → te ((wipeD τ vs).set i (some d)) (put M p (.lst acc)) N noX)
    (h : Nx (put M p (.lst (ds.map f)))) : wTs (dgName i) dYes vs τ (wNst (dEm p te) []) Nx ds (put M p (.lst [])) :=
  lc_pure f (fun _ => true) hl (fun d _ acc N h => h) (fun d hd _ => he d hd) (by rw [List.filter_eq_self.mpr fun _ _ => rfl]; exact h)
/-! clauses that change nothing else, one within another -/
def Adds (p : Addr) (M : Mu) (inn : DSt → Mu → (Mu → Prop) → Prop) (τ : DSt) (L : List D) : Prop := ∀ (acc : List D) (N : Mu → Prop), acc.length + L.length ≤ 16777216 → N (put M p (.lst (acc ++ L))) → inn τ (put M p (.lst acc)) N
theorem adds_em {p : Addr} {M : Mu} {te : DTE} {τ : DSt} {y : D} (h : ∀ (acc : List D) (N : D → Mu → Prop), N y (put M p (.lst acc)) → te τ (put M p (.lst acc)) N noX) : Adds p M (dEm p te) τ [y] := fun acc N hl hn =>
  h acc _ ⟨acc, put_same, by rw [line24]; simp at hl; omega, by rw [put_put]; exact hn⟩
theorem adds_ts {p : Addr} {M : Mu} {inn : DSt → Mu → (Mu → Prop) → Prop} {τ : DSt} {i : Nat} {vs : List Nat} {L : D → List D} {Nx : Mu → Prop} : ∀ {ds : List D} (acc : List D), (∀ d ∈ ds, Adds p M inn ((wipeD τ vs).set i (some d)) (L d)) →
    acc.length + (ds.flatMap L).length ≤ 16777216 → Nx (put M p (.lst (acc ++ ds.flatMap L))) → wTs (dgName i) dYes vs τ inn Nx ds (put M p (.lst acc))
  | [], acc, h, hl, hn => by
    rw [wTs_nil]
    simpa using hn
  | d :: ds, acc, h, hl, hn => by
    rw [wTs_cons]
    rw [List.flatMap_cons, List.length_append] at hl
    refine h d List.mem_cons_self acc _ (by omega) ?_
    refine adds_ts (acc ++ L d) (fun e he => h e (List.mem_cons_of_mem _ he)) (by rw [List.length_append]; omega) ?_
    rw [List.flatMap_cons, ← List.append_assoc] at hn
    exact hn
theorem adds_cl {p : Addr} {M : Mu} {em : DSt → Mu → (Mu → Prop) → Prop} {τ : DSt} {i : Nat} {vs : List Nat} {cs : List DCl} {ti : DTI} {ds : List D} {L : D → List D} (hi : ∀ (acc : List D) (N : List D → Mu → Prop), N ds (put M p (.lst acc)) → ti τ (put M p (.lst acc)) N noX)
    (h : ∀ d ∈ ds, Adds p M (wNst em cs) ((wipeD τ vs).set i (some d)) (L d)) : Adds p M (wNst em (⟨ti, dgName i, dYes, vs⟩ :: cs)) τ (ds.flatMap L) := fun acc N hl hn =>
  hi acc _ (adds_ts acc h hl hn)
end DL

namespace DL
open PySem L2 He
/-! ### the head's facts, with any further looks at the written part -/
def obsX (fa : List Fa) (fn : List DefD) (gb : List (PySem.W.Frag → Bool)) (K : PySem.W.Frag) : AlD := ((obsD fa fn K).1 && gb.all (fun f => f K), (obsD fa fn K).2)
def SaysX (fa : List Fa) (fn : List DefD) (gb : List (PySem.W.Frag → Bool)) (K : PySem.W.Frag) : Prop := obsX fa fn gb K = valD fn
def obsXG (n : Nat) (fa : List Fa) (fn : List DefD) (gb : List (PySem.W.Frag → Bool)) (g : Addr → Option Obj) : AlD := obsX fa fn gb (frG g (asD g n))
def hookX (n : Nat) (fa : List Fa) (fn : List DefD) (gb : List (PySem.W.Frag → Bool)) : PySem.W.Hook where
  α := AlD
  obs := fun s => obsXG n fa fn gb s.heap.get?
  val := fun _ => valD fn
  says := fun _ h => ∃ K : PySem.W.Frag, K.In h ∧ SaysX fa fn gb K
  of := fun _ _ e => ⟨_, frG_in, e⟩
  keeps := fun _ _ _ ⟨K, hK, c⟩ k => ⟨K, hK.keeps k, c⟩
theorem obsXG_eq {n : Nat} {fa : List Fa} {fn : List DefD} {gb : List (PySem.W.Frag → Bool)} {g : Addr → Option Obj} {s : Shared} (h : ∀ a, g a = s.heap.get? a) : obsXG n fa fn gb g = (hookX n fa fn gb).obs s := by
  rw [funext h] <;> rfl
section
variable {fa : List Fa} {fn : List DefD} {gb : List (PySem.W.Frag → Bool)} {K : PySem.W.Frag}
theorem SaysX.d (c : SaysX fa fn gb K) : SaysD fa fn K := by
  have c1 : ((obsD fa fn K).1 && gb.all (fun f => f K)) = true := congrArg (fun z : AlD => z.1) c
  have c2 : (obsD fa fn K).2 = fn.map DefD.val := congrArg (fun z : AlD => z.2) c
  exact Prod.ext (ba c1).1 c2
theorem SaysX.b (c : SaysX fa fn gb K) (i : Nat) {f : PySem.W.Frag → Bool} (h : gb[i]? = some f := by rfl) : f K = true := by
  have c1 : ((obsD fa fn K).1 && gb.all (fun f => f K)) = true := congrArg (fun z : AlD => z.1) c
  exact List.all_eq_true.mp (ba c1).2 f (List.mem_of_getElem? h)
end
/-- a tuple of texts in the module -/
def tupF (x : Str) (zs : List Str) (K : PySem.W.Frag) : Bool := tupB K x (zs.map Dv.str)
theorem tupF_ok {K : PySem.W.Frag} {x : Str} {zs : List Str} {mg : Str → Option Value} (hm : mg x = some (.ref (ga K x))) (h : tupF x zs K = true) : ∃ f, mg x = some (.ref f) ∧ WrT K f (zs.map V.str) := by
  refine ⟨_, hm, ?_⟩
  have q := tupB_ok h (fun _ => none)
  have e : (zs.map Dv.str).map (Dv.v K) = zs.map V.str := by rw [List.map_map]; rfl
  rw [e] at q
  rcases q with z | z
  · have no : ∀ u : HO, (none : Option HO) ≠ some u := fun _ h => by cases h
    rcases (show (none : Option HO) = some _ ∨ ∃ o, (none : Option HO) = some (.frz o _) from z) with z | ⟨_, z⟩
    · exact (no _ z).elim
    · exact (no _ z).elim
  · exact z
theorem de_gtx {X : Cx} {W : WX} {x : Str} {pos : Pos} {zs : List Str} {d : D} (h : ∃ f, X.mg x = some (.ref f) ∧ WrT X.K f (zs.map V.str)) (e : D.tup (zs.map fun z => D.str (T z)) = d) (hg : Gl X x := by rfl) (hd : (x == ("__debug__" : Str)) = false := by decide) :
    DE X W (.Name x pos) (dC d) := by
  obtain ⟨f, h1, h2⟩ := h
  rw [← e]
  exact de_gt h1 h2 hg hd
end DL

namespace DL
open PySem L2
/-! ### dicts: displays, stores -/
def putD (kvs : List (DKey × D)) (k : DKey) (d : D) : List (DKey × D) := if (kvs.any fun q => decide (q.1 = k)) = true then kvs.map (fun q => if q.1 = k then (q.1, d) else q) else kvs ++ [(k, d)]
def mergeD (kvs more : List (DKey × D)) : List (DKey × D) := more.foldl (fun acc q => putD acc q.1 q.2) kvs
section
variable {K : PySem.W.Frag} {M : Mu} {H : Hp}
theorem any_keys {k : DKey} : ∀ {kvs : List (DKey × D)} {ks : List (Key × V)}, ks.map (·.1) = kvs.map (fun q => kO q.1) → (ks.any fun q => decide (q.1 = kO k)) = kvs.any fun q => decide (q.1 = k)
  | [], [], _ => rfl
  | [], _ :: _, h => by cases h
  | _ :: _, [], h => by cases h
  | a :: kvs, b :: ks, h => by
    simp only [List.map_cons, List.cons.injEq] at h
    rw [List.any_cons, List.any_cons, any_keys h.2, h.1, kO_dec]
theorem map_keys {k : DKey} {d : D} {v : V} (r0 : Rep K M H d v) : ∀ {kvs : List (DKey × D)} {ks : List (Key × V)}, ks.map (·.1) = kvs.map (fun q => kO q.1) → Reps K M H (kvs.map (·.2)) (ks.map (·.2)) →
    ((ks.map fun q => if q.1 = kO k then (q.1, v) else q).map (·.1) = (kvs.map fun q => if q.1 = k then (q.1, d) else q).map (fun q => kO q.1)) ∧
      Reps K M H ((kvs.map fun q => if q.1 = k then (q.1, d) else q).map (·.2)) ((ks.map fun q => if q.1 = kO k then (q.1, v) else q).map (·.2))
  | [], [], _, _ => ⟨rfl, .nil⟩
  | [], _ :: _, h, _ => by cases h
  | _ :: _, [], h, _ => by cases h
  | a :: kvs, b :: ks, h, r => by
    simp only [List.map_cons, List.cons.injEq] at h
    obtain ⟨u, us, e, r1, r2⟩ := r.uncons
    simp only [List.map_cons, List.cons.injEq] at e
    obtain ⟨i1, i2⟩ := map_keys r0 h.2 (by rw [e.2]; exact r2)
    by_cases q : a.1 = k
    · have q2 : b.1 = kO k := by rw [h.1, q]
      simp only [List.map_cons, if_pos q, if_pos q2]
      exact ⟨by rw [i1, h.1], .cons r0 i2⟩
    · have q2 : ¬ b.1 = kO k := fun z => q (kO_inj (by rw [← h.1, z]))
      simp only [List.map_cons, if_neg q, if_neg q2]
      exact ⟨by rw [i1, h.1], .cons (by rw [e.1]; exact r1) i2⟩
theorem put_rep {k : DKey} {d : D} {v : V} (r0 : Rep K M H d v) {kvs : List (DKey × D)} {ks : List (Key × V)} (h : ks.map (·.1) = kvs.map (fun q => kO q.1)) (r : Reps K M H (kvs.map (·.2)) (ks.map (·.2))) :
    (putK ks (kO k) v).map (·.1) = (putD kvs k d).map (fun q => kO q.1) ∧ Reps K M H ((putD kvs k d).map (·.2)) ((putK ks (kO k) v).map (·.2)) := by
  unfold putK putD
  rw [any_keys h]
  split
  · exact map_keys r0 h r
  · rw [List.map_append, List.map_append, List.map_append, List.map_append, h]
    exact ⟨rfl, r.append (.cons r0 .nil)⟩
theorem merge_rep : ∀ {more : List (DKey × D)} {ms : List (Key × V)} {kvs : List (DKey × D)} {ks : List (Key × V)}, ms.map (·.1) = more.map (fun q => kO q.1) → Reps K M H (more.map (·.2)) (ms.map (·.2)) →
    ks.map (·.1) = kvs.map (fun q => kO q.1) → Reps K M H (kvs.map (·.2)) (ks.map (·.2)) →
    (mergeK ks ms).map (·.1) = (mergeD kvs more).map (fun q => kO q.1) ∧ Reps K M H ((mergeD kvs more).map (·.2)) ((mergeK ks ms).map (·.2))
  | [], [], _, _, _, _, h, r => ⟨h, r⟩
  | [], _ :: _, _, _, h, _, _, _ => by cases h
  | _ :: _, [], _, _, h, _, _, _ => by cases h
  | a :: more, b :: ms, kvs, ks, h0, r0, h, r => by
    simp only [List.map_cons, List.cons.injEq] at h0
    obtain ⟨u, us, e, r1, r2⟩ := r0.uncons
    simp only [List.map_cons, List.cons.injEq] at e
    have p := put_rep (k := a.1) r1 h r
    have q := merge_rep (more := more) (ms := ms) h0.2 (by rw [e.2]; exact r2) p.1 p.2
    unfold mergeK mergeD at q ⊢
    rw [List.foldl_cons, List.foldl_cons, h0.1, e.1]
    exact q
end
def dPairs : List (DTE × DTE) → DSt → Mu → (List (D × D) → Mu → Prop) → DX → Prop
  | [], _, M, Q, _ => Q [] M
  | (tk, tv) :: r, τ, M, Q, E => tk τ M (fun x M1 => tv τ M1 (fun y M2 => dPairs r τ M2 (fun ps M3 => Q ((x, y) :: ps) M3) E) E) E
/-- {k: v, ..} -/
def dDict (prs : List (DTE × DTE)) : DTE := fun τ M Q E => ∀ p, M p = none → dPairs prs τ (put M p (.dK [])) (fun ps M2 => M2 p = some (.dK []) ∧ ∃ kvs : List (DKey × D), ps = kvs.map (fun q => (kD q.1, q.2)) ∧ kvs.length ≤ 15 ∧ Q (.ref p) (put M2 p (.dK (mergeD [] kvs)))) E
/-- {} -/
def dDict0 : DTE := fun _ M Q _ => ∀ p, M p = none → Q (.ref p) (put M p (.dK []))
def lifP (K : PySem.W.Frag) (W : WX) (prs : List (DTE × DTE)) : List (TE × TE) := prs.map fun q => (lif K W (RD K) q.1, lif K W (RD K) q.2)
def DPs (X : Cx) (W : WX) (pos : Pos) (keys : List (Option Expr)) (values : List Expr) (prs : List (DTE × DTE)) : Prop := PPs X pos keys values (lifP X.K W prs)
section
variable {X : Cx} {W : WX} {a b c e o i k v : Expr} {rest es : List Expr} {ta tb tc te to ti tk tv : DTE} {tl : DTA} {tt : DTT} {pos apos cpos p : Pos} {x : Str} {keys ks : List (Option Expr)} {values vs : List Expr} {prs : List (DTE × DTE)} {st : Stmt} {t : DTS}
theorem dps_nil : DPs X W pos [] [] [] := pps_nil
theorem dps_cons (hk : DE X W k tk) (hv : DE X W v tv) (hr : DPs X W pos ks vs prs) : DPs X W pos (some k :: ks) (v :: vs) ((tk, tv) :: prs) := pps_cons hk hv hr
theorem kD_rep {K : PySem.W.Frag} {M : Mu} {H : Hp} (k : DKey) : Rep K M H (kD k) (kV (kO k)) := by
  cases k <;> exact rfl
theorem pairs_rep {K : PySem.W.Frag} {M : Mu} {H : Hp} : ∀ {kvs : List (DKey × D)} {ps : List (V × V)}, Paired (fun (q : D × D) (r : V × V) => Rep K M H q.1 r.1 ∧ Rep K M H q.2 r.2) (kvs.map fun q => (kD q.1, q.2)) ps →
    ∃ ks : List (Key × V), ps = ks.map (fun q => (kV q.1, q.2)) ∧ ks.map (·.1) = kvs.map (fun q => kO q.1) ∧ Reps K M H (kvs.map (·.2)) (ks.map (·.2))
  | [], _, h => by cases h; exact ⟨[], rfl, rfl, .nil⟩
  | a :: kvs, ps, h => by
    rw [List.map_cons] at h
    cases h with
    | cons h1 h2 =>
      rename_i q r
      obtain ⟨ks, e, e2, r2⟩ := pairs_rep h2
      obtain ⟨q1, q2⟩ := q
      have ek : q1 = kV (kO a.1) := by
        cases ea : a.1 with
        | inl i => rw [ea] at h1; exact h1.1
        | inr z => rw [ea] at h1; exact h1.1
      refine ⟨(kO a.1, q2) :: ks, by rw [List.map_cons, ← e, ek], by rw [List.map_cons, List.map_cons, e2], .cons h1.2 r2⟩
theorem prs_ok {K : PySem.W.Frag} {W : WX} {τ : DSt} {σ : L2.St} {E0 : DX} {G : List (D × D) → Mu → Prop} {Q : List (V × V) → Hp → Prop} : ∀ {prs : List (DTE × DTE)} {M : Mu} {H : Hp}, RepS K M H τ σ → Cor K M H → dPairs prs τ M G E0 →
    (∀ ds M' vs H', G ds M' → Paired (fun (q : D × D) (r : V × V) => Rep K M' H' q.1 r.1 ∧ Rep K M' H' q.2 r.2) ds vs → Cor K M' H' → Stp M H M' H' → Q vs H') →
    (∀ x M' c d H', E0 x M' → RepX K M' H' x c d → Cor K M' H' → Stp M H M' H' → W c d σ H') → tPairs (lifP K W prs) σ H Q
  | [], M, H, rs, co, h, q, e => q [] M [] H h .nil co (Stp.refl M H)
  | (tk, tv) :: prs, M, H, rs, co, h, q, e => by
    refine ⟨τ, M, _, E0, ⟨rs, co, fun d1 M1 v1 H1 h1 r1 c1 s1 => ?_, e⟩, h⟩
    refine ⟨τ, M1, _, E0, ⟨rs.stp s1, c1, fun d2 M2 v2 H2 h2 r2 c2 s2 => ?_, fun x M' c d H' h r c' s' => e x M' c d H' h r c' (s1.trans s')⟩, h1⟩
    refine prs_ok ((rs.stp s1).stp s2) c2 h2 (fun ds M' vs H' g r c' s' => ?_) fun x M' c d H' h r c' s' => e x M' c d H' h r c' ((s1.trans s2).trans s')
    exact q _ M' _ H' g (.cons ⟨(r1.stp s2).stp s', r2.stp s'⟩ r) c' ((s1.trans s2).trans s')
theorem de_dict (h : DPs X W pos keys values prs) (hall : keys.all (·.isSome) = true := by rfl) (hl : keys.length = values.length := by rfl) (h0 : keys ≠ [] := by intro h; cases h) (h15 : keys.length ≤ 15 := by decide) : DE X W (.Dict keys values pos) (dDict prs) :=
  PE.of (pe_disp h hall hl h0 h15) fun σ H Q ⟨τ, M, Q0, E0, S, h⟩ => by
    intro p hp
    have s0 := Stp.newM (M := M) (o := .dK []) (mo := .dK []) hp
    refine prs_ok (S.rs.stp s0) (S.co.newM hp ⟨[], rfl, rfl, .nil⟩) (h p (S.co.free hp)) (fun ds M2 vs H2 g r c s => ?_) fun x M' c d H' h r c' s' => S.e x M' c d H' h r c' (s0.trans s')
    obtain ⟨g1, kvs, rfl, g2, g3⟩ := g
    obtain ⟨ks, e, ek, rk⟩ := pairs_rep r
    obtain ⟨ks0, e0, e1, _⟩ := mu_dK c g1
    have e2 : ks0 = [] := by cases ks0 with
      | nil => rfl
      | cons _ _ => cases e1
    subst e2
    have hl := congrArg List.length ek
    rw [List.length_map, List.length_map] at hl
    refine ⟨e0, ks, e, by omega, ?_⟩
    have s1 := Stp.write (H := H2) (o := .dK (mergeK [] ks)) (mo' := .dK (mergeD [] kvs)) g1
    obtain ⟨m1, m2⟩ := merge_rep (kvs := []) (ks := []) ek rk rfl .nil
    exact S.q _ _ _ _ g3 rfl (c.write g1 ⟨_, rfl, m1, m2⟩) ((s0.trans s).trans s1)
theorem de_dict0 : DE X W (.Dict [] [] pos) dDict0 := PE.of pe_dnewK fun σ H Q ⟨τ, M, Q0, E0, S, h⟩ => fun p hp =>
  S.q _ _ _ _ (h p (S.co.free hp)) rfl (S.co.newM hp ⟨[], rfl, rfl, .nil⟩) (Stp.newM hp)
/-! ### a walk over a dict that stays as it is meanwhile -/
def keysOf (kvs : List (DKey × D)) : List D := kvs.map fun q => kD q.1
def wForK (a : Addr) (kvs : List (DKey × D)) (u : HO) (g : DTG) (tb : DTS) (D0 : DEnds) : List D → DSt → Mu → Prop
  | [], τ, M => M a = some (.fK kvs u) ∧ D0.nx τ M
  | d :: ds, τ, M => M a = some (.fK kvs u) ∧ g d τ M (fun τ1 M1 => tb { D0 with nx := wForK a kvs u g tb D0 ds, ct := wForK a kvs u g tb D0 ds, bk := D0.nx } τ1 M1) (D0.ex τ)
def dForK (te : DTE) (g : DTG) (tb : DTS) : DTS := fun D0 τ M => te τ M (fun d M1 => match d with
  | .ref a => (match M1 a with
    | some (.fK kvs u) => wForK a kvs u g tb D0 (keysOf kvs) τ M1
    | _ => False)
  | _ => False) (D0.ex τ)
theorem ds_forK {tg iter : Expr} {body : List Stmt} {te : DTE} {g : DTG} {tb : DTS} (G : Gd X W) (he : DE X W iter te) (hg : DG X W tg g) (hb : DSs X W body tb) (hs : ∀ x, foldedSetIterable iter X.env x = pure x := by intro _; rfl) :
    DS X W (.For tg iter body [] pos) (dForK te g tb) :=
  PS.of (ps_for G.own G.calm (pi_keys he) hg hb hs) fun D1 σ H ⟨τ, M, D0, S, h⟩ => S.sub h fun d M1 v H1 h1 r1 S1 s1 => by
    cases d with
    | ref a =>
      cases r1
      have h2 : (match M1 a with
        | some (.fK kvs u) => wForK a kvs u g tb D0 (keysOf kvs) τ M1
        | _ => False) := h1
      cases em : M1 a with
      | none => rw [em] at h2; exact h2.elim
      | some mo =>
        rw [em] at h2
        cases mo with
        | fK kvs u =>
          have h3 : wForK a kvs u g tb D0 (keysOf kvs) τ M1 := h2
          obtain ⟨od, ks, hf, eu, ek, rk⟩ := mu_fK S1.co em
          subst eu
          have hlen : ks.length = (keysOf kvs).length := by
            have := congrArg List.length ek
            rw [List.length_map, List.length_map] at this
            rw [this, keysOf, List.length_map]
          refine ⟨a, od, rfl, .inl ⟨ks, hf, ?_⟩⟩
          refine ⟨fun i m σ2 H2 => m = (keysOf kvs).length - i ∧ i ≤ (keysOf kvs).length ∧ ∃ τ2 M2, Stp M1 H1 M2 H2 ∧ SitS X.K W τ2 M2 σ2 H2 D0 D1 ∧ wForK a kvs (.frz od (.dK ks)) g tb D0 ((keysOf kvs).drop i) τ2 M2, ⟨(keysOf kvs).length, rfl, Nat.zero_le _, τ, M1, Stp.refl M1 H1, S1, h3⟩, ?_⟩
          rintro i m σ2 H2 ⟨rfl, hi, τ2, M2, s2, S2, h2⟩
          have at_ : M2 a = some (.fK kvs (.frz od (.dK ks))) → H2 a = some (.frz od (.dK ks)) := fun z => by
            obtain ⟨od', ks', q1, q2, _⟩ := mu_fK S2.co z
            rw [q1, q2]
          by_cases hlt : i < (keysOf kvs).length
          · have e : (keysOf kvs).drop i = (keysOf kvs)[i] :: (keysOf kvs).drop (i + 1) := List.drop_eq_getElem_cons hlt
            rw [e] at h2
            refine .inr ⟨⟨at_ h2.1, by omega⟩, fun σ3 H3 => ∃ τ3 M3, Stp M1 H1 M3 H3 ∧ SitS X.K W τ3 M3 σ3 H3 D0 D1 ∧ wForK a kvs (.frz od (.dK ks)) g tb D0 ((keysOf kvs).drop (i + 1)) τ3 M3, fun σ3 H3 q => ⟨(keysOf kvs).length - (i + 1), by omega, rfl, hlt, q⟩, fun x H3 y => ?_⟩
            obtain ⟨rfl, key, val, ykv, rfl⟩ := y
            have y1 : Rep X.K M2 H3 (keysOf kvs)[i] (kV key) := by
              have hk2 : i < kvs.length := by rw [keysOf, List.length_map] at hlt; exact hlt
              have q : (ks.map (·.1))[i]? = (kvs.map fun q => kO q.1)[i]? := by rw [ek]
              rw [List.getElem?_map, List.getElem?_map, ykv, List.getElem?_eq_getElem hk2] at q
              have q2 : key = kO kvs[i].1 := by simpa using q
              have q3 : (keysOf kvs)[i] = kD kvs[i].1 := by simp [keysOf]
              rw [q2, q3]
              exact kD_rep _
            refine ⟨(keysOf kvs)[i], τ2, M2, _, D0.ex τ2, y1, ⟨S2.rs, S2.co, fun τ4 M4 σ4 H4 h4 r4 c4 s4 => ?_, fun x M' c d H' h r c' s' => S2.xc x τ2 M' c d σ2 H' h r (S2.rs.stp s') c' s'⟩, h2.2⟩
            have S4 := S2.go r4 c4 s4
            exact ⟨τ4, M4, { D0 with nx := wForK a kvs (.frz od (.dK ks)) g tb D0 ((keysOf kvs).drop (i + 1)), ct := wForK a kvs (.frz od (.dK ks)) g tb D0 ((keysOf kvs).drop (i + 1)), bk := D0.nx }, ⟨S4.rs, S4.co, fun a b c d h r c' s => ⟨a, b, (s2.trans s4).trans s, S4.go r c' s, h⟩, S4.rt, S4.nx, fun a b c d h r c' s => ⟨a, b, (s2.trans s4).trans s, S4.go r c' s, h⟩, S4.xc⟩, h4⟩
          · have e : i = (keysOf kvs).length := by omega
            rw [e, List.drop_length] at h2
            exact .inl ⟨⟨at_ h2.1, by omega⟩, S2.next h2.2⟩
        | _ => exact h2.elim
    | _ => exact h1.elim
/-- while the statement runs, the dict in that slot is only read -/
def dLock (i : Nat) (t : DTS) : DTS := fun D0 τ M => match τ[i]? with
  | some (some (.ref a)) => (match M a with
    | some (.dK kvs) => ∀ u, t ⟨fun τ' M' => M' a = some (.fK kvs u) ∧ D0.nx τ' (put M' a (.dK kvs)), fun d M' => M' a = some (.fK kvs u) ∧ D0.rt d (put M' a (.dK kvs)), fun τ' M' => M' a = some (.fK kvs u) ∧ D0.bk τ' (put M' a (.dK kvs)),
      fun τ' M' => M' a = some (.fK kvs u) ∧ D0.ct τ' (put M' a (.dK kvs)), fun _ _ _ => False⟩ τ (put M a (.fK kvs u))
    | _ => False)
  | _ => False
theorem ds_lock (j : Nat) (h : DS X W st t) : DS X W st (dLock j t) := PS.of (ps_lock h) fun D1 σ H ⟨τ, M, D0, S, hh⟩ => by
  unfold dLock at hh
  split at hh
  · rename_i a e
    split at hh
    · rename_i kvs em
      obtain ⟨ks, ha, ek, rk⟩ := mu_dK S.co em
      refine ⟨a, .dK ks, ha, trivial, fun od => ?_⟩
      have s0 := Stp.write (H := H) (o := .frz od (.dK ks)) (mo' := .fK kvs (.frz od (.dK ks))) em
      have c0 := S.co.write (o := .frz od (.dK ks)) (mo' := .fK kvs (.frz od (.dK ks))) em ⟨rfl, od, ks, rfl, ek, rk⟩
      -- back
      have back : ∀ {M' : Mu} {H' : Hp}, M' a = some (.fK kvs (.frz od (.dK ks))) → Cor X.K M' H' → Stp (put M a (.fK kvs (.frz od (.dK ks)))) (upd H a (.frz od (.dK ks))) M' H' →
          H' a = some (.frz od (.dK ks)) ∧ Cor X.K (put M' a (.dK kvs)) (upd H' a (.dK ks)) ∧ Stp M' H' (put M' a (.dK kvs)) (upd H' a (.dK ks)) ∧ Stp M H (put M' a (.dK kvs)) (upd H' a (.dK ks)) := by
        intro M' H' m c s
        obtain ⟨od', ks', q1, q2, q3, q4⟩ := mu_fK c m
        injection q2 with q5 q6
        injection q6 with q7
        subst q5 q7
        have s1 := Stp.write (H := H') (o := .dK ks) (mo' := .dK kvs) m
        exact ⟨q1, c.write m ⟨_, rfl, q3, q4⟩, s1, (s0.trans s).trans s1⟩
      refine ⟨τ, _, _, ⟨S.rs.stp s0, c0, ?_, ?_, ?_, ?_, ?_⟩, hh (.frz od (.dK ks))⟩
      · rintro τ' M' σ' H' ⟨m, n⟩ r c s
        obtain ⟨b1, b2, b3, b4⟩ := back m c s
        exact ⟨b1, S.nx _ _ _ _ n (r.stp b3) b2 b4⟩
      · rintro d M' v H' ⟨m, n⟩ r c s
        obtain ⟨b1, b2, b3, b4⟩ := back m c s
        exact ⟨b1, S.rt _ _ _ _ n (r.stp b3) b2 b4⟩
      · rintro τ' M' σ' H' ⟨m, n⟩ r c s
        obtain ⟨b1, b2, b3, b4⟩ := back m c s
        exact ⟨b1, S.bk _ _ _ _ n (r.stp b3) b2 b4⟩
      · rintro τ' M' σ' H' ⟨m, n⟩ r c s
        obtain ⟨b1, b2, b3, b4⟩ := back m c s
        exact ⟨b1, S.ct _ _ _ _ n (r.stp b3) b2 b4⟩
      · exact fun _ _ _ _ _ _ _ z => z.elim
    · exact hh.elim
  · exact hh.elim
end
end DL

namespace DL
open PySem L2 He
/-! ### o[i] = d of a list, of a dict -/
def gSetA : DSet := fun o i d M Q => match o, i with
  | .ref a, .int k => (match M a with
    | some (.lst ds) => (match ixN ds.length k with
      | some j => Q (put M a (.lst (ds.set j d)))
      | none => False)
    | some (.dK kvs) => kvs.length < 16777216 ∧ Q (put M a (.dK (putD kvs (.inl k) d)))
    | _ => False)
  | .ref a, .str x => (match M a with
    | some (.dK kvs) => kvs.length < 16777216 ∧ Q (put M a (.dK (putD kvs (.inr x) d)))
    | _ => False)
  | _, _ => False
theorem set_any {X : Cx} (hu : X.A.units + 1 < cLine) : PSet X (fun o i v H Q => rSetL o i v H Q ∨ rSetD o i v H Q) := by
  intro pins s σ H o i v ov iv u Q I ro ri rv h
  rcases h with h | h
  · exact set_list pins s σ H o i v ov iv u Q I ro ri rv h
  · exact set_dict hu pins s σ H o i v ov iv u Q I ro ri rv h
section
variable {X : Cx} {W : WX} {a b c e o i : Expr} {rest es : List Expr} {ta tb tc te to ti : DTE} {tl : DTA} {tt : DTT} {pos apos cpos p : Pos} {x : Str}
theorem dg_setA (G : Gd X W) (ho : DE X W o to) (hi : DE X W i ti) (ha : ∀ v, assign (.Subscript o i pos) X.env v = (do
      let ov ← holding [v] (eval o X.env)
      let iv ← holding [v, ov] (eval i X.env)
      standAt pos
      holding [v, ov, iv] (setItem ov iv v)
      release [v, ov, iv] []) := by intro _; rfl) : DG X W (.Subscript o i pos) (dgSub to ti gSetA) :=
  PG.of (pg_sub ho hi (set_any G.hu1) ha) fun v σ H Q ⟨d, τ, M, Q0, E0, r, S, h⟩ => S.sub h fun x M1 v1 H1 h1 r1 S1 s1 => S1.sub h1 fun y M2 v2 H2 h2 r2 S2 s2 => by
    have dic : ∀ {a : Addr} {k : DKey} {kvs : List (DKey × D)}, M2 a = some (.dK kvs) → kvs.length < 16777216 ∧ Q0 τ (put M2 a (.dK (putD kvs k d))) → rSetD (.ref a) (kV (kO k)) v H2 (fun H' => Q σ H') := by
      intro a k kvs e z
      obtain ⟨ks, hv, ek, ra⟩ := mu_dK S2.co e
      have hl := congrArg List.length ek
      rw [List.length_map, List.length_map] at hl
      have st := Stp.write (H := H2) (o := .dK (putK ks (kO k) v)) (mo' := .dK (putD kvs k d)) e
      obtain ⟨p1, p2⟩ := put_rep (k := k) ((r.stp s1).stp s2) ek ra
      exact ⟨a, _, rfl, DPut.k hv (by rw [line24, hl]; exact z.1), S2.q _ _ _ _ z.2 (S2.rs.stp st) (S2.co.write e ⟨_, rfl, p1, p2⟩) st⟩
    match x, y, h2 with
    | .ref a, .int k, h2 =>
      cases r1; cases r2
      have h3 : (match M2 a with
        | some (.lst ds) => (match ixN ds.length k with
          | some j => Q0 τ (put M2 a (.lst (ds.set j d)))
          | none => False)
        | some (.dK kvs) => kvs.length < 16777216 ∧ Q0 τ (put M2 a (.dK (putD kvs (.inl k) d)))
        | _ => False) := h2
      cases e : M2 a with
      | none => rw [e] at h3; exact h3.elim
      | some mo =>
        rw [e] at h3
        cases mo with
        | lst ds =>
          obtain ⟨vs, hv, ra⟩ := mu_lst S2.co e
          have h4 : (match ixN ds.length k with
            | some j => Q0 τ (put M2 a (.lst (ds.set j d)))
            | none => False) := h3
          cases e2 : ixN ds.length k with
          | none => rw [e2] at h4; exact h4.elim
          | some j =>
            rw [e2] at h4
            refine .inl ⟨a, vs, k, j, rfl, rfl, hv, by rw [ra.length]; exact e2, ?_⟩
            have st := Stp.write (H := H2) (o := .lst (vs.set j v)) (mo' := .lst (ds.set j d)) e
            exact S2.q _ _ _ _ h4 (S2.rs.stp st) (S2.co.write e ⟨_, rfl, ra.set ((r.stp s1).stp s2) j⟩) st
        | dK kvs => exact .inr (dic (k := .inl k) e h3)
        | _ => exact h3.elim
    | .ref a, .str x, h2 =>
      cases r1; cases r2
      have h3 : (match M2 a with
        | some (.dK kvs) => kvs.length < 16777216 ∧ Q0 τ (put M2 a (.dK (putD kvs (.inr x) d)))
        | _ => False) := h2
      cases e : M2 a with
      | none => rw [e] at h3; exact h3.elim
      | some mo =>
        rw [e] at h3
        cases mo with
        | dK kvs => exact .inr (dic (k := .inr x) e h3)
        | _ => exact h3.elim
end
/-! ### endswith, insert -/
def gEnds : DMt := fun x xs M Q => match x, xs with
  | .str a, [.str b] => Q (.bl (b.isSuffixOf a)) M
  | _, _ => False
theorem ends_sx (a b : Tx) : PySem.Txt.endswith (sx a) (sx b) = b.isSuffixOf a := by
  show (decide (0 + (sx b).length ≤ (sx a).length) && Builtin.Str.subAt (sx a) (sx b) ((sx a).length - (sx b).length)) = _
  rw [PySem.StrLaws.subAt_eq]
  rw [Bool.eq_iff_iff, Bool.and_eq_true, decide_eq_true_iff, List.isSuffixOf_iff_suffix, sx_len, sx_len]
  show (0 + b.length ≤ a.length ∧ ((a.drop (a.length - b.length)).take b.length == b) = true) ↔ _
  rw [Nat.zero_add, beq_iff_eq, List.suffix_iff_eq_drop]
  constructor
  · rintro ⟨h, e⟩
    rw [List.take_of_length_le (by rw [List.length_drop]; omega)] at e
    exact e.symm
  · intro e
    have hl : b.length ≤ a.length := by
      have := congrArg List.length e
      rw [List.length_drop] at this
      omega
    refine ⟨hl, ?_⟩
    rw [List.take_of_length_le (by rw [List.length_drop]; omega)]
    exact e.symm
def gInsert : DMt := fun x xs M Q => match x, xs with
  | .ref a, [.int i, y] => (match M a with
    | some (.lst ds) => ds.length < 16777216 ∧ 0 ≤ i ∧ i < 2 ^ 62 ∧ Q .non (put M a (.lst (ds.take i.toNat ++ [y] ++ ds.drop i.toNat)))
    | _ => False)
  | _, _ => False
section
variable {K : PySem.W.Frag}
theorem md_ends : MtD K gEnds (fun x xs H Q => ∃ a b, x = .str a ∧ xs = [.str b] ∧ Q (.bl (PySem.Txt.endswith a b)) H) := fun M H x v xs vs Q0 Q c rx r h q => by
  match x, xs, h with
  | .str a, [.str b], h =>
    obtain ⟨u, us, rfl, r1, r2⟩ := r.uncons
    cases r2.unnil; cases rx; cases r1
    refine ⟨sx a, sx b, rfl, rfl, ?_⟩
    rw [ends_sx]
    exact q _ M _ H h rfl c (Stp.refl M H)
theorem md_insert : MtD K gInsert (fun x vs H Q => ∃ (l : Addr) (xs : List V) (i : Int) (y : V), x = .ref l ∧ vs = [.int i, y] ∧ H l = some (.lst xs) ∧ xs.length < sizeLine ∧ 0 ≤ i ∧ i < 2 ^ 63 ∧ Q .non (upd H l (.lst (xs.take i.toNat ++ [y] ++ xs.drop i.toNat)))) := fun M H x v xs vs Q0 Q c rx r h q => by
  match x, xs, h with
  | .ref a, [.int i, y], h =>
    obtain ⟨u, us, rfl, r1, r2⟩ := r.uncons
    obtain ⟨u2, us2, rfl, r3, r4⟩ := r2.uncons
    cases r4.unnil; cases rx; cases r1
    have h2 : (match M a with
      | some (.lst ds) => ds.length < 16777216 ∧ 0 ≤ i ∧ i < 2 ^ 62 ∧ Q0 .non (put M a (.lst (ds.take i.toNat ++ [y] ++ ds.drop i.toNat)))
      | _ => False) := h
    cases e : M a with
    | none => rw [e] at h2; exact h2.elim
    | some mo =>
      rw [e] at h2
      cases mo with
      | lst ds =>
        obtain ⟨ws, ha, ra⟩ := mu_lst c e
        have h2 : ds.length < 16777216 ∧ 0 ≤ i ∧ i < 2 ^ 62 ∧ Q0 .non (put M a (.lst (ds.take i.toNat ++ [y] ++ ds.drop i.toNat))) := h2
        obtain ⟨h3, h4, h5, h6⟩ := h2
        refine ⟨a, ws, i, u2, rfl, rfl, ha, by rw [ra.length, line24]; exact h3, h4, by omega, ?_⟩
        exact q _ _ _ _ h6 rfl (c.write e ⟨_, rfl, ((ra.take _).snoc r3).append (ra.drop _)⟩) (Stp.write e)
      | _ => exact h2.elim
end
/-! ### a dict of texts in the module -/
def dKd (kvs : List (Tx × Tx)) (te : DTE) : DTE := fun τ M Q E => te τ M (fun d M1 => match d with
  | .str z => (match kvs.lookup z with
    | some v => Q (.str v) M1
    | none => False)
  | _ => False) E
def KdW (K : PySem.W.Frag) (w : World) (f : Addr) (kvs : List (Str × Str)) : Prop := ∀ q ∈ kvs, KDct K w f q.1 (.str q.2)
theorem lookup_mem {α β : Type} [BEq α] [LawfulBEq α] {k : α} {v : β} : ∀ {l : List (α × β)}, l.lookup k = some v → (k, v) ∈ l
  | [], h => by cases h
  | (a, b) :: l, h => by
    rw [List.lookup_cons] at h
    split at h
    · rename_i e
      cases h
      rw [eq_of_beq e]
      exact List.mem_cons_self
    · exact List.mem_cons_of_mem _ (lookup_mem h)
section
variable {X : Cx} {W : WX} {a b c e o i : Expr} {ta tb te : DTE} {pos p : Pos} {x : Str}
theorem de_kd {zs : List (Str × Str)} {kvs : List (Tx × Tx)} (h : ∃ f, X.mg x = some (.ref f) ∧ KdW X.K X.w f zs) (e : zs.map (fun q => (T q.1, T q.2)) = kvs) (hb : DE X W b tb) (hs : PlainIx b := by intro _ _; rfl) (hg : Gl X x := by rfl) (hd : (x == ("__debug__" : Str)) = false := by decide) :
    DE X W (.Subscript (.Name x p) b pos) (dKd kvs tb) := by
  obtain ⟨f, hm, hk⟩ := h
  refine PE.of (pe_ix ix_kdict (pe_glob hg hm (v := .ref f) rfl hd) hb hs) fun σ H Q ⟨τ, M, Q0, E0, S, h⟩ => ?_
  refine S.sub h fun d M1 v H1 h1 r1 S1 s1 => ?_
  cases d with
  | str z =>
    cases r1
    have h2 : (match kvs.lookup z with
      | some v => Q0 (.str v) M1
      | none => False) := h1
    cases e2 : kvs.lookup z with
    | none => rw [e2] at h2; exact h2.elim
    | some v =>
      rw [e2] at h2
      have m := lookup_mem e2
      rw [← e] at m
      obtain ⟨q, hq, e3⟩ := List.mem_map.mp m
      injection e3 with e4 e5
      have kd := hk q hq
      refine ⟨f, sx z, .str (sx v), rfl, rfl, ?_, S1.end_ h2 rfl⟩
      rw [← e4, ← e5, sx_T, sx_T]
      exact kd
  | _ => exact h1.elim
end
/-! ### the head's facts, with tables of texts -/
abbrev AlY : Type := AlD × List (Option (List (Option (Str × Int))))
def obsY (fa : List Fa) (fn : List DefD) (gb : List (PySem.W.Frag → Bool)) (ts : List Tab) (K : PySem.W.Frag) : AlY := (obsX fa fn gb K, ts.map fun t => dicW K (t.1 K))
def valY (fn : List DefD) (ts : List Tab) (w : World) : AlY := (valD fn, ts.map fun t => some (keysIn w.params t.2))
def SaysY (fa : List Fa) (fn : List DefD) (gb : List (PySem.W.Frag → Bool)) (ts : List Tab) (w : World) (K : PySem.W.Frag) : Prop := obsY fa fn gb ts K = valY fn ts w
def obsYG (n : Nat) (fa : List Fa) (fn : List DefD) (gb : List (PySem.W.Frag → Bool)) (ts : List Tab) (g : Addr → Option Obj) : AlY := obsY fa fn gb ts (frG g (asD g n))
def hookY (n : Nat) (fa : List Fa) (fn : List DefD) (gb : List (PySem.W.Frag → Bool)) (ts : List Tab) : PySem.W.Hook where
  α := AlY
  obs := fun s => obsYG n fa fn gb ts s.heap.get?
  val := fun w => valY fn ts w
  says := fun w h => ∃ K : PySem.W.Frag, K.In h ∧ SaysY fa fn gb ts w K
  of := fun _ _ e => ⟨_, frG_in, e⟩
  keeps := fun _ _ _ ⟨K, hK, c⟩ k => ⟨K, hK.keeps k, c⟩
theorem obsYG_eq {n : Nat} {fa : List Fa} {fn : List DefD} {gb : List (PySem.W.Frag → Bool)} {ts : List Tab} {g : Addr → Option Obj} {s : Shared} (h : ∀ a, g a = s.heap.get? a) : obsYG n fa fn gb ts g = (hookY n fa fn gb ts).obs s := by
  rw [funext h] <;> rfl
section
variable {fa : List Fa} {fn : List DefD} {gb : List (PySem.W.Frag → Bool)} {ts : List Tab} {w : World} {K : PySem.W.Frag}
theorem SaysY.x (c : SaysY fa fn gb ts w K) : SaysX fa fn gb K := congrArg (fun z : AlY => z.1) c
theorem SaysY.tab (c : SaysY fa fn gb ts w K) (i : Nat) {t : Tab} (h : ts[i]? = some t := by rfl) : ∃ es n, KDict K w (t.1 K) es n := by
  have e : ts.map (fun t => dicW K (t.1 K)) = ts.map fun t => some (keysIn w.params t.2) := congrArg (fun z : AlY => z.2) c
  have e2 : (ts.map fun t => dicW K (t.1 K))[i]? = (ts.map fun t => some (keysIn w.params t.2))[i]? := by rw [e]
  rw [List.getElem?_map, List.getElem?_map, h] at e2
  exact dicW_ok (Option.some.inj e2)
theorem kdw_of {x : Str} {zs : List (Str × Str)} {mg : Str → Option Value} (hm : mg x = some (.ref (ga K x))) (d : ∃ es n, KDict K w (ga K x) es n) (v : valsB K (ga K x) (zs.map fun q => (q.1, Dv.str q.2)) = true) : ∃ f, mg x = some (.ref f) ∧ KdW K w f zs := by
  refine ⟨_, hm, fun q hq => ?_⟩
  obtain ⟨es, n, D⟩ := d
  obtain ⟨u, e1, e2⟩ := valsB_ok v (List.mem_map.mpr ⟨q, hq, rfl⟩)
  exact ⟨es, n, u, D.at_, D.lit, e1, e2⟩
end
end DL

namespace DL
open PySem L2
/-! ### str(..) of an int, of a text -/
def gStr1 : DCb := fun xs M Q => match xs with
  | [.int i] => i.natAbs.log2 < 1920 ∧ Q (.str (intT i)) M
  | [.str x] => Q (.str x) M
  | _ => False
theorem cb_str {K : PySem.W.Frag} : CbD K gStr1 (fun xs H Q => (∃ i, xs = [V.int i] ∧ i.natAbs.log2 < 1920 ∧ Q (.str (toString i)) H) ∨ ∃ a, xs = [V.str a] ∧ Q (.str a) H) := fun M H xs vs Q0 Q c r h q => by
  match xs, h with
  | [.int i], h =>
    obtain ⟨v, u, rfl, r1, r2⟩ := r.uncons
    cases r2.unnil; cases r1
    refine .inl ⟨i, rfl, h.1, q _ M _ H h.2 ?_ c (Stp.refl M H)⟩
    show V.str _ = V.str (sx (T _))
    rw [sx_T]
  | [.str x], h =>
    obtain ⟨v, u, rfl, r1, r2⟩ := r.uncons
    cases r2.unnil; cases r1
    exact .inr ⟨sx x, rfl, q _ M _ H h rfl c (Stp.refl M H)⟩
theorem call_str1 {X : Cx} : CallR X (.type "str") (fun xs H Q => (∃ i, xs = [V.int i] ∧ i.natAbs.log2 < 1920 ∧ Q (.str (toString i)) H) ∨ ∃ a, xs = [V.str a] ∧ Q (.str a) H) := call_str_int.or SkE.call_str_str
/-! ### extend, pop, clear -/
def gExtend : DMt := fun x xs M Q => match x, xs with
  | .ref a, [.lst zs] => (match M a with
    | some (.lst ds) => ds.length + zs.length ≤ 16777216 ∧ Q .non (put M a (.lst (ds ++ zs)))
    | _ => False)
  | .ref a, [.ref b] => (match M a, M b with
    | some (.lst ds), some (.lst zs) => ds.length + zs.length ≤ 16777216 ∧ Q .non (put M a (.lst (ds ++ zs)))
    | _, _ => False)
  | _, _ => False
def gPop : DMt := fun x xs M Q => match x, xs with
  | .ref a, [] => (match M a with
    | some (.lst ds) => (match ds.getLast? with
      | some d => Q d (put M a (.lst ds.dropLast))
      | none => False)
    | _ => False)
  | _, _ => False
def gClear : DMt := fun x xs M Q => match x, xs with
  | .ref a, [] => (match M a with
    | some (.lst ds) => Q .non (put M a (.lst []))
    | _ => False)
  | _, _ => False
section
variable {K : PySem.W.Frag}
theorem md_extend : MtD K gExtend rExtend := fun M H x v xs vs Q0 Q c rx r h q => by
  match x, xs, h with
  | .ref a, [.lst zs], h =>
    obtain ⟨u, us, rfl, r1, r2⟩ := r.uncons
    cases r2.unnil; cases rx
    obtain ⟨b, ws, rfl, hb, mb, rb⟩ := rep_of_lst r1
    have h2 : (match M a with
      | some (.lst ds) => ds.length + zs.length ≤ 16777216 ∧ Q0 .non (put M a (.lst (ds ++ zs)))
      | _ => False) := h
    cases e : M a with
    | none => rw [e] at h2; exact h2.elim
    | some mo =>
      rw [e] at h2
      cases mo with
      | lst ds =>
        obtain ⟨us, ha, ra⟩ := mu_lst c e
        have h2 : ds.length + zs.length ≤ 16777216 ∧ Q0 .non (put M a (.lst (ds ++ zs))) := h2
        refine ⟨a, b, us, ws, rfl, rfl, ha, hb, by rw [ra.length, rb.length, line24]; exact h2.1, ?_⟩
        exact q _ _ _ _ h2.2 rfl (c.write e ⟨_, rfl, ra.append rb⟩) (Stp.write e)
      | _ => exact h2.elim
  | .ref a, [.ref b], h =>
    obtain ⟨u, us, rfl, r1, r2⟩ := r.uncons
    cases r2.unnil; cases rx; cases r1
    have h2 : (match M a, M b with
      | some (.lst ds), some (.lst zs) => ds.length + zs.length ≤ 16777216 ∧ Q0 .non (put M a (.lst (ds ++ zs)))
      | _, _ => False) := h
    cases e : M a with
    | none => rw [e] at h2; exact h2.elim
    | some mo =>
      cases e2 : M b with
      | none => rw [e, e2] at h2; cases mo <;> exact h2.elim
      | some mo2 =>
        rw [e, e2] at h2
        cases mo with
        | lst ds =>
          cases mo2 with
          | lst zs =>
            obtain ⟨us, ha, ra⟩ := mu_lst c e
            obtain ⟨ws, hb, rb⟩ := mu_lst c e2
            have h2 : ds.length + zs.length ≤ 16777216 ∧ Q0 .non (put M a (.lst (ds ++ zs))) := h2
            refine ⟨a, b, us, ws, rfl, rfl, ha, hb, by rw [ra.length, rb.length, line24]; exact h2.1, ?_⟩
            exact q _ _ _ _ h2.2 rfl (c.write e ⟨_, rfl, ra.append rb⟩) (Stp.write e)
          | _ => exact h2.elim
        | _ => cases mo2 <;> exact h2.elim
theorem md_pop : MtD K gPop rPop := fun M H x v xs vs Q0 Q c rx r h q => by
  match x, xs, h with
  | .ref a, [], h =>
    cases r.unnil; cases rx
    have h2 : (match M a with
      | some (.lst ds) => (match ds.getLast? with
        | some d => Q0 d (put M a (.lst ds.dropLast))
        | none => False)
      | _ => False) := h
    cases e : M a with
    | none => rw [e] at h2; exact h2.elim
    | some mo =>
      rw [e] at h2
      cases mo with
      | lst ds =>
        obtain ⟨us, ha, ra⟩ := mu_lst c e
        have h3 : (match ds.getLast? with
          | some d => Q0 d (put M a (.lst ds.dropLast))
          | none => False) := h2
        cases e3 : ds.getLast? with
        | none => rw [e3] at h3; exact h3.elim
        | some d =>
          rw [e3] at h3
          rw [List.getLast?_eq_getElem?] at e3
          obtain ⟨y, hy, ry⟩ := ra.get e3
          refine ⟨a, us, y, rfl, rfl, ha, by rw [ra.length]; exact hy, ?_⟩
          have st := Stp.write (H := H) (o := .lst us.dropLast) (mo' := .lst ds.dropLast) e
          exact q _ _ _ _ h3 (ry.stp st) (c.write e ⟨_, rfl, ra.dropLast⟩) st
      | _ => exact h2.elim
theorem md_clear : MtD K gClear rClear := fun M H x v xs vs Q0 Q c rx r h q => by
  match x, xs, h with
  | .ref a, [], h =>
    cases r.unnil; cases rx
    have h2 : (match M a with
      | some (.lst ds) => Q0 .non (put M a (.lst []))
      | _ => False) := h
    cases e : M a with
    | none => rw [e] at h2; exact h2.elim
    | some mo =>
      rw [e] at h2
      cases mo with
      | lst ds =>
        obtain ⟨us, ha, ra⟩ := mu_lst c e
        exact ⟨a, us, rfl, rfl, ha, q _ _ _ _ h2 rfl (c.write e ⟨_, rfl, .nil⟩) (Stp.write e)⟩
      | _ => exact h2.elim
end
/-! ### f(*e, ..), [*e, ..] -/
def dStar (te : DTE) (tl : DTA) : DTA := fun τ M Q E => te τ M (fun d M1 => match d with
  | .lst xs => tl τ M1 (fun ys M2 => Q (xs ++ ys) M2) E
  | .tup xs => tl τ M1 (fun ys M2 => Q (xs ++ ys) M2) E
  | .ref a => (match M1 a with
    | some (.lst xs) => tl τ M1 (fun ys M2 => Q (xs ++ ys) M2) E
    | _ => False)
  | _ => False) E
theorem da_star {X : Cx} {W : WX} {e : Expr} {es : List Expr} {te : DTE} {tl : DTA} {p : Pos} (he : DE X W e te) (hr : DA X W es tl) (hs : starEach (.Starred e p :: es) X.env = (true, eval e X.env) :: starEach es X.env := by rfl) : DA X W (.Starred e p :: es) (dStar te tl) :=
  PA.of (StX.pa_star he hr hs) fun σ H Q ⟨τ, M, Q0, E0, S, h⟩ => S.sub h fun d M1 v H1 h1 r1 S1 s1 => by
    have go : ∀ {xs : List D} {vs : List V} {a : Addr}, v = .ref a → (SqT X.K H1 a vs ∨ SqL X.K H1 a vs) → Reps X.K M1 H1 xs vs → tl τ M1 (fun ys M2 => Q0 (xs ++ ys) M2) E0 → ∃ p xs, v = V.ref p ∧ (SqT X.K H1 p xs ∨ SqL X.K H1 p xs) ∧ lif X.K W (RA X.K) tl σ H1 fun ys H2 => Q (xs ++ ys) H2 :=
      fun {xs vs a} e hv rv h => ⟨a, vs, e, hv, S1.sub h fun ys M2 us H2 h2 r2 S2 s2 => S2.end_ h2 ((rv.stp s2).append r2)⟩
    cases d with
    | lst xs =>
      obtain ⟨a, vs, e, ha, ma, ra⟩ := rep_of_lst r1
      exact go e (.inr (.inl (.inl ha))) ra h1
    | tup xs =>
      obtain ⟨a, vs, e, ha, ra⟩ := rep_of_tup r1
      exact go e (.inl (sqT_of ha)) ra h1
    | ref a =>
      have h2 : (match M1 a with
        | some (.lst xs) => tl τ M1 (fun ys M2 => Q0 (xs ++ ys) M2) E0
        | _ => False) := h1
      cases em : M1 a with
      | none => rw [em] at h2; exact h2.elim
      | some mo =>
        rw [em] at h2
        cases mo with
        | lst xs =>
          obtain ⟨vs, ha, ra⟩ := mu_lst S1.co em
          exact go r1 (.inr (.inl (.inl ha))) ra h2
        | _ => exact h2.elim
    | _ => exact h1.elim
end DL

namespace DL
open PySem L2
/-! ### walks over a list that may change: at each turn it holds what it held -/
abbrev DTR := DR (Addr × List D)
def ItR (K : PySem.W.Frag) (M : Mu) (H : Hp) (q : Addr × List D) (J : It) : Prop := ∀ M' H', Cor K M' H' → M' q.1 = some (.lst q.2) →
  (∀ i, q.2.length ≤ i → J.stop i H') ∧ (∀ i, i < q.2.length → J.go i H') ∧ ∀ i d v H2, q.2[i]? = some d → J.yld i H' v H2 → Rep K M' H2 d v ∧ Cor K M' H2 ∧ Stp M' H' M' H2
abbrev DIR (X : Cx) (W : WX) (tg iter : Expr) (tr : DTR) : Prop := PI X tg iter (lif X.K W (ItR X.K) tr)
theorem it_ref {K : PySem.W.Frag} {M : Mu} {H : Hp} {a : Addr} {ds : List D} : ItR K M H (a, ds) (Itl K a) := fun M' H' c m => by
  obtain ⟨vs, ha, r⟩ := mu_lst c m
  have q : SqL K H' a vs := .inl (.inl ha)
  refine ⟨fun i h => ⟨vs, q, by rw [r.length]; exact h⟩, fun i h => ?_, fun i d v H2 h y => ?_⟩
  · obtain ⟨v, h1, _⟩ := r.get (List.getElem?_eq_getElem h)
    exact ⟨vs, v, q, h1⟩
  · obtain ⟨rfl, y⟩ := y
    obtain ⟨u, h1, h2⟩ := r.get h
    have := y vs q
    rw [h1] at this
    cases this
    exact ⟨h2, c, Stp.refl M' _⟩
def diRef (te : DTE) : DTR := fun τ M Q E => te τ M (fun d M1 => match d with
  | .ref a => (match M1 a with
    | some (.lst ds) => Q (a, ds) M1
    | _ => False)
  | _ => False) E
def wForR (a : Addr) (all : List D) (g : DTG) (tb : DTS) (D0 : DEnds) : List D → DSt → Mu → Prop
  | [], τ, M => M a = some (.lst all) ∧ D0.nx τ M
  | d :: ds, τ, M => M a = some (.lst all) ∧ g d τ M (fun τ1 M1 => tb { D0 with nx := wForR a all g tb D0 ds, ct := wForR a all g tb D0 ds, bk := D0.nx } τ1 M1) (D0.ex τ)
def dForR (tr : DTR) (g : DTG) (tb : DTS) : DTS := fun D0 τ M => tr τ M (fun q M1 => wForR q.1 q.2 g tb D0 q.2 τ M1) (D0.ex τ)
section
variable {X : Cx} {W : WX} {a b c e o i elt tg iter : Expr} {rest es : List Expr} {ta tb te to : DTE} {tt : DTT} {pos p : Pos} {x : Str} {g : DTG} {tr : DTR} {ifs : List Expr} {scope : Scope} {own : List (Str × Nat)} {vs : List Nat}
theorem di_ref {tg : Expr} (h : DE X W e te) : DIR X W tg e (diRef te) := PI.of (pi_any h) fun σ H R ⟨τ, M, Q0, E0, S, h⟩ => S.sub h fun d M1 v H1 h1 r1 S1 s1 => by
  cases d with
  | ref a =>
    cases r1
    have h2 : (match M1 a with
      | some (.lst ds) => Q0 (a, ds) M1
      | _ => False) := h1
    cases em : M1 a with
    | none => rw [em] at h2; exact h2.elim
    | some mo =>
      rw [em] at h2
      cases mo with
      | lst ds =>
        obtain ⟨vs, ha, ra⟩ := mu_lst S1.co em
        exact .inr (.inl ⟨a, rfl, ⟨vs, .inl (.inl ha)⟩, S1.end_ (d := (a, ds)) h2 it_ref⟩)
      | _ => exact h2.elim
  | _ => exact h1.elim
theorem ds_forR {body : List Stmt} {tb : DTS} (G : Gd X W) (hi : DIR X W tg iter tr) (hg : DG X W tg g) (hb : DSs X W body tb) (hs : ∀ x, foldedSetIterable iter X.env x = pure x := by intro _; rfl) :
    DS X W (.For tg iter body [] pos) (dForR tr g tb) :=
  PS.of (ps_for G.own G.calm hi hg hb hs) fun D1 σ H ⟨τ, M, D0, S, h⟩ => S.sub h fun q M1 J H1 h1 r1 S1 s1 => by
    obtain ⟨a, ds⟩ := q
    have h1 : wForR a ds g tb D0 ds τ M1 := h1
    refine ⟨fun i m σ2 H2 => m = ds.length - i ∧ i ≤ ds.length ∧ ∃ τ2 M2, Stp M1 H1 M2 H2 ∧ SitS X.K W τ2 M2 σ2 H2 D0 D1 ∧ wForR a ds g tb D0 (ds.drop i) τ2 M2, ⟨ds.length, rfl, Nat.zero_le _, τ, M1, Stp.refl M1 H1, S1, h1⟩, ?_⟩
    rintro i m σ2 H2 ⟨rfl, hi, τ2, M2, s2, S2, h2⟩
    by_cases hlt : i < ds.length
    · have e : ds.drop i = ds[i] :: ds.drop (i + 1) := List.drop_eq_getElem_cons hlt
      rw [e] at h2
      obtain ⟨k1, k2, k3⟩ := r1 M2 H2 S2.co h2.1
      refine .inr ⟨k2 i hlt, fun σ3 H3 => ∃ τ3 M3, Stp M1 H1 M3 H3 ∧ SitS X.K W τ3 M3 σ3 H3 D0 D1 ∧ wForR a ds g tb D0 (ds.drop (i + 1)) τ3 M3, fun σ3 H3 q => ⟨ds.length - (i + 1), by omega, rfl, hlt, q⟩, fun x H3 y => ?_⟩
      obtain ⟨y1, y2, y3⟩ := k3 i ds[i] x H3 (List.getElem?_eq_getElem hlt) y
      have S3 := S2.go (S2.rs.stp y3) y2 y3
      refine ⟨ds[i], τ2, M2, _, D0.ex τ2, y1, ⟨S3.rs, S3.co, fun τ4 M4 σ4 H4 h4 r4 c4 s4 => ?_, fun x M' c d H' h r c' s' => S3.xc x τ2 M' c d σ2 H' h r (S3.rs.stp s') c' s'⟩, h2.2⟩
      have S4 := S3.go r4 c4 s4
      exact ⟨τ4, M4, { D0 with nx := wForR a ds g tb D0 (ds.drop (i + 1)), ct := wForR a ds g tb D0 (ds.drop (i + 1)), bk := D0.nx }, ⟨S4.rs, S4.co, fun a b c d h r c' s => ⟨a, b, (s2.trans (y3.trans s4)).trans s, S4.go r c' s, h⟩, S4.rt, S4.nx, fun a b c d h r c' s => ⟨a, b, (s2.trans (y3.trans s4)).trans s, S4.go r c' s, h⟩, S4.xc⟩, h4⟩
    · have e : i = ds.length := by omega
      rw [e, List.drop_length] at h2
      obtain ⟨k1, k2, k3⟩ := r1 M2 H2 S2.co h2.1
      exact .inl ⟨k1 i (show ds.length ≤ i by omega), S2.next h2.2⟩
/-! comprehensions -/
def wTsR (a : Addr) (all : List D) (g : DTG) (tt : DTT) (vs : List Nat) (τ : DSt) (inn : DSt → Mu → (Mu → Prop) → Prop) (Nx : Mu → Prop) : List D → Mu → Prop
  | [], M => M a = some (.lst all) ∧ Nx M
  | d :: ds, M => M a = some (.lst all) ∧ g d (wipeD τ vs) M (fun τ2 M2 => tt τ2 M2 (fun b M3 => if b = true then inn τ2 M3 (wTsR a all g tt vs τ inn Nx ds) else wTsR a all g tt vs τ inn Nx ds M3) noX) noX
def dLcR (tr : DTR) (g : DTG) (tt : DTT) (vs : List Nat) (te : DTE) : DTE := fun τ M Q E => tr τ M (fun q M1 => ∀ p, M1 p = none → wTsR q.1 q.2 g tt vs τ (dEm p te) (fun M2 => Q (.ref p) M2) q.2 (put M1 p (.lst []))) E
theorem turnsR_ok {K : PySem.W.Frag} {inn : DSt → Mu → (Mu → Prop) → Prop} {innL : L2.St → Hp → (Hp → Prop) → Prop} (hin : Inn K inn innL) {τ : DSt} {σ : L2.St} {M M1 : Mu} {H H1 : Hp} {a : Addr} {ds : List D} {J : It} {Nx0 : Mu → Prop} {Nx : Hp → Prop}
    (hJ : ItR K M H (a, ds) J) (rs : RepS K M H τ σ) (hN : ∀ M' H', Nx0 M' → Cor K M' H' → Stp M H M' H' → Nx H') (s1 : Stp M H M1 H1) (c1 : Cor K M1 H1) (h : wTsR a ds g tt vs τ inn Nx0 ds M1) :
    wTurns (lifGw K W0 g vs) (lif K W0 RB tt) vs σ innL Nx J H1 := by
  refine ⟨fun i m H2 => m = ds.length - i ∧ i ≤ ds.length ∧ ∃ M2, Stp M H M2 H2 ∧ Cor K M2 H2 ∧ wTsR a ds g tt vs τ inn Nx0 (ds.drop i) M2, ⟨ds.length, rfl, Nat.zero_le _, M1, s1, c1, h⟩, ?_⟩
  rintro i m H2 ⟨rfl, hi, M2, s2, c2, h2⟩
  by_cases hlt : i < ds.length
  · have e : ds.drop i = ds[i] :: ds.drop (i + 1) := List.drop_eq_getElem_cons hlt
    rw [e] at h2
    obtain ⟨k1, k2, k3⟩ := hJ M2 H2 c2 h2.1
    refine .inr ⟨k2 i hlt, fun H3 => ∃ M3, Stp M H M3 H3 ∧ Cor K M3 H3 ∧ wTsR a ds g tt vs τ inn Nx0 (ds.drop (i + 1)) M3, fun H3 q => ⟨ds.length - (i + 1), by omega, rfl, hlt, q⟩, fun x H3 y => ?_⟩
    obtain ⟨y1, y2, y3⟩ := k3 i ds[i] x H3 (List.getElem?_eq_getElem hlt) y
    have s3 := s2.trans y3
    refine ⟨ds[i], wipeD τ vs, M2, _, noX, y1, ⟨(rs.stp s3).wipe vs, y2, fun τ4 M4 σ4 H4 h4 r4 c4 s4 hw => ⟨hw.trans (wipe_wipe σ vs), ?_⟩, fun _ _ _ _ _ z => z.elim⟩, h2.2⟩
    refine ⟨τ4, M4, _, noX, ⟨r4, c4, fun b M5 b' H5 h5 r5 c5 s5 => ?_, fun _ _ _ _ _ z => z.elim⟩, h4⟩
    cases r5
    cases b with
    | false => exact ⟨M5, s3.trans (s4.trans s5), c5, h5⟩
    | true =>
      simp only [if_true] at h5 ⊢
      exact hin τ4 σ4 M5 H5 _ _ (r4.stp s5) c5 (fun M' H' n c' s' => ⟨M', s3.trans (s4.trans (s5.trans s')), c', n⟩) h5
  · have e : i = ds.length := by omega
    rw [e, List.drop_length] at h2
    obtain ⟨k1, k2, k3⟩ := hJ M2 H2 c2 h2.1
    exact .inl ⟨k1 i (show ds.length ≤ i by omega), hN M2 H2 h2.2 c2 s2⟩
def fClR (X : Cx) (W : WX) (tg iter : Expr) (ifs : List Expr) (tr : DTR) (g : DTG) (tt : DTT) (vs : List Nat) : Cl := ⟨tg, iter, ifs, lif X.K W (ItR X.K) tr, lifGw X.K W0 g vs, lif X.K W0 RB tt, vs⟩
theorem lif_lcR {σ : L2.St} {H : Hp} {Q : VK} (h : lif X.K W (RD X.K) (dLcR tr g tt vs te) σ H Q) : tLcN (fClR X W tg iter ifs tr g tt vs) [] (lif X.K W0 (RD X.K) te) σ H Q := by
  obtain ⟨τ, M, Q0, E0, S, h⟩ := h
  refine S.sub h fun q M1 J H1 h1 r1 S1 s1 => ?_
  obtain ⟨a, ds⟩ := q
  intro D hD
  exact turnsR_ok (em_ok D) r1 S1.rs (fun M' H' n c' s' => S1.q (.ref D) M' (.ref D) H' n rfl c' s') (Stp.newM hD) (S1.co.newM hD (mo := .lst []) ⟨[], rfl, .nil⟩) (h1 D (S1.co.free hD))
structure BlkR (B : Cx) (tg : Expr) (g : DTG) (ifs : List Expr) (tt : DTT) (vs : List Nat) (elt : Expr) (te : DTE) : Prop where
  g : DGw B W0 tg g vs
  t : DTs B W0 ifs tt
  e : DE B W0 elt te
theorem blkR_ok {B : Cx} (hK : B.K = X.K) (h : BlkR B tg g ifs tt vs elt te) : ClOk B (fClR X W tg iter ifs tr g tt vs) ∧ (∀ x ∈ ([] : List Cl), ClIn B x) ∧ PE B elt (lif X.K W0 (RD X.K) te) := by
  rw [← hK]
  refine ⟨⟨by rw [fClR, ← hK]; exact h.g, by rw [fClR, ← hK]; exact h.t⟩, fun x hx => ?_, h.e⟩
  cases hx
theorem de_lcR (own : List (Str × Nat)) (G : Gd X W) (hi : DIR X W tg iter tr) (hb : ∀ (s : Shared) (H : Hp) (C : Addr) (cl : List (Str × Addr)) (fp : List Addr), Gd (X.blk s H scope (compEnvC scope cl C X.env) fp) W0 → BlkR (X.blk s H scope (compEnvC scope cl C X.env) fp) tg g ifs tt (own.map (·.2)) elt te)
    (ok : blkC X.N X.env.scope scope own = true := by first | kernel_rfl | decide +kernel) (hs : ∀ x, foldedSetIterable iter X.env x = pure x := by intro _; rfl) : DE X W (.ListComp elt [⟨tg, iter, ifs, 0⟩] scope pos) (dLcR tr g tt (own.map (·.2)) te) :=
  PE.of (pe_lcN (c := fClR X W tg iter ifs tr g tt (@List.map (Str × Nat) Nat (fun p => p.2) own)) (cs := []) G.calm G.nd hi (blkOk_by ok) rfl (show Dec (own.map (·.2)) [] from trivial) (fun B ⟨s, H, C, cl, fp, e⟩ => by subst e; exact blkR_ok rfl (hb s H C cl fp (G.blk ..))) hs) fun σ H Q h => lif_lcR h
theorem ds_setLcR {spos py : Pos} {t : DTE} (j : Nat) (own : List (Str × Nat)) (G : Gd X W) (hi : DIR X W tg iter tr) (hb : ∀ (s : Shared) (H : Hp) (C : Addr) (cl : List (Str × Addr)) (fp : List Addr), Gd (X.blk s H scope (compEnvC scope cl C X.env) fp) W0 → BlkR (X.blk s H scope (compEnvC scope cl C X.env) fp) tg g ifs tt (own.map (·.2)) elt te)
    (hq : ∀ σ H Q, lif X.K W (RD X.K) t σ H Q → lif X.K W (RD X.K) (dLcR tr g tt (own.map (·.2)) te) σ H Q) (ok : blkC X.N X.env.scope scope own = true := by first | kernel_rfl | decide +kernel) (hs : ∀ x, foldedSetIterable iter X.env x = pure x := by intro _; rfl)
    (hy : X.N[j]? = some x := by rfl) (hyl : X.env.scope.names.lookup x = some .local := by rfl) (hsw : swapsWith (.ListComp elt [⟨tg, iter, ifs, 0⟩] scope pos) (some (.Name x py)) spos.line X.env = pure true := by rfl) :
    DS X W (.Assign [.Name x py] (.ListComp elt [⟨tg, iter, ifs, 0⟩] scope pos) spos) (dSet j t) :=
  PS.of (ps_setLcN (c := fClR X W tg iter ifs tr g tt (@List.map (Str × Nat) Nat (fun p => p.2) own)) (cs := []) G.calm G.nd hy hyl hsw hi (blkOk_by ok) rfl (show Dec (own.map (·.2)) [] from trivial) (fun B ⟨s, H, C, cl, fp, e⟩ => by subst e; exact blkR_ok rfl (hb s H C cl fp (G.blk ..))) hs) fun D1 σ H ⟨τ, M, D0, S, h⟩ =>
    lif_lcR (hq σ H _ (S.sub h fun d M1 v H1 h1 r1 S1 s1 => S1.nx _ M1 _ H1 h1 (S1.rs.set r1 j) S1.co (Stp.refl M1 H1)))
end
end DL

namespace DL
open PySem L2
/-! ### lists of texts compared -/
def okT (x : Tx) : Prop := ∀ c ∈ x, c < 1114112
theorem canLay_strs : ∀ {xs : List Tx}, (∀ x ∈ xs, okT x) → PyData.canLayAll0 (pds (xs.map D.str)) = true
  | [], _ => by simp [pds, PyData.canLayAll0]
  | x :: xs, h => by
    have h1 : PyData.canLay0 (pd (.str x)) = true := by
      unfold pd PyData.canLay0
      show (sx x).cps.all (· < 0x110000) = true
      rw [Array.all_eq_true]
      intro i hi
      have := h x (List.mem_cons_self ..) ((sx x).cps[i]) (by
        have : (sx x).cps[i] ∈ (sx x).cps.toList := by rw [Array.mem_toList_iff]; exact Array.getElem_mem hi
        exact this)
      exact decide_eq_true this
    rw [List.map_cons]
    unfold pds PyData.canLayAll0
    rw [h1, canLay_strs fun y hy => h y (List.mem_cons_of_mem _ hy)]
    rfl
theorem plains_strs : ∀ (xs : List Tx), plains (xs.map D.str) = true
  | [] => rfl
  | x :: xs => by
    rw [List.map_cons]
    unfold plains
    rw [plains_strs xs]
    rfl
theorem eqv_strs : ∀ (xs ys : List Tx), PyData.eqvAll (pds (xs.map D.str)) (pds (ys.map D.str)) = decide (xs = ys)
  | [], [] => by simp [pds, PyData.eqvAll]
  | [], _ :: _ => by simp [pds, PyData.eqvAll]
  | _ :: _, [] => by simp [pds, PyData.eqvAll]
  | x :: xs, y :: ys => by
    rw [List.map_cons, List.map_cons]
    unfold pds PyData.eqvAll
    rw [eqv_strs xs ys]
    unfold pd PyData.eqv
    rw [Bool.eq_iff_iff, Bool.and_eq_true, beq_iff_eq, decide_eq_true_iff, decide_eq_true_iff]
    constructor
    · rintro ⟨h1, h2⟩; rw [sx_inj h1, h2]
    · intro h; injection h with h1 h2; rw [h1, h2]; exact ⟨rfl, rfl⟩
theorem eqvL_strs (xs ys : List Tx) : PyData.eqv (.list (pds (xs.map D.str))) (.list (pds (ys.map D.str))) = decide (xs = ys) := by
  unfold PyData.eqv
  exact eqv_strs xs ys
theorem depth_strs : ∀ (xs : List Tx), PyData.depthAll (pds (xs.map D.str)) = 0
  | [] => by simp [pds, PyData.depthAll]
  | x :: xs => by
    rw [List.map_cons]
    unfold pds PyData.depthAll
    rw [depth_strs xs]
    unfold pd PyData.depth
    rfl
theorem eqOk_strs {xs : List Tx} (h : ∀ x ∈ xs, okT x) : eqOk (.lst (xs.map D.str)) = true := by
  unfold eqOk
  rw [Bool.and_eq_true]
  refine ⟨by unfold plain; exact plains_strs xs, ?_⟩
  unfold SeqAt.shaped
  rw [Bool.and_eq_true]
  unfold pd
  refine ⟨by unfold PyData.canLay0; exact canLay_strs h, ?_⟩
  unfold PyData.depth
  rw [depth_strs]
  decide
/-! ### rows of texts -/
def txs (ts : List Tx) : List D := ts.map D.str
theorem txs_app (a b : List Tx) : txs (a ++ b) = txs a ++ txs b := List.map_append
theorem inD_txs {w : Tx} : ∀ {ws : List Tx}, inD (.str w) (txs ws) = decide (w ∈ ws)
  | [] => rfl
  | x :: ws => by
    have h := inD_txs (w := w) (ws := ws)
    show (eqF (.str x) (.str w) || inD (.str w) (txs ws)) = _
    rw [h]
    have e : eqF (.str x) (.str w) = decide (w = x) := by
      show (x == w) = decide (w = x)
      rw [Bool.eq_iff_iff, beq_iff_eq, decide_eq_true_iff]
      exact eq_comm
    rw [e, ← Bool.decide_or]
    exact decide_eq_decide.mpr (by simp [List.mem_cons])
theorem flat_txs : ∀ {ws : List Tx}, (txs ws).all flatD = true
  | [] => rfl
  | x :: ws => by
    show (flatD (.str x) && (txs ws).all flatD) = true
    rw [flat_txs]; rfl
end DL

namespace DL
open PySem L2
/-! ### how the readings reduce: rows for simp, one a form -/
/-- the rows are no rows by rfl: then a proof by simp names each step, and nothing is unfolded twice -/
theorem pq {a b : Prop} (h : a ↔ b) : a = b := propext h
/-- simp looks not into what stands in the type of another argument: so the continuations are kept as they are until they are reached -/
inductive Lk {α : Type} (a : α) : Type where
  | mk
def onSome {α : Type} {K : α → Prop} (_ : Lk K) (o : Option α) : Prop := match o with
  | some a => K a
  | none => False
def onBl {K : Bool → Prop} (_ : Lk K) (d : D) : Prop := match d with
  | .bl b => K b
  | _ => False
def onInt {K : Int → Prop} (_ : Lk K) (d : D) : Prop := match d with
  | .int i => K i
  | _ => False
def onStr {K : Tx → Prop} (_ : Lk K) (d : D) : Prop := match d with
  | .str y => K y
  | _ => False
def onVar {K : D → Prop} (_ : Lk K) (o : Option (Option D)) : Prop := match o with
  | some (some d) => K d
  | _ => False
def onML {K : List D → Prop} (_ : Lk K) (o : Option MO) : Prop := match o with
  | some (.lst ds) => K ds
  | _ => False
def onML2 {K : List D → Prop} {L : List (DKey × D) → Prop} (_ : Lk K) (_ : Lk L) (o : Option MO) : Prop := match o with
  | some (.lst ds) => K ds
  | some (.dK kvs) => L kvs
  | _ => False
def onML3 {K : List D → Prop} {L : List (DKey × D) → Prop} (_ : Lk K) (_ : Lk L) (o : Option MO) : Prop := match o with
  | some (.lst ds) => K ds
  | some (.dK kvs) => L kvs
  | some (.fK kvs _) => L kvs
  | _ => False
def onDR {K : List (DKey × D) → Prop} (_ : Lk K) (o : Option MO) : Prop := match o with
  | some (.dK kvs) => K kvs
  | some (.fK kvs _) => K kvs
  | _ => False
def onFK {K : List (DKey × D) → HO → Prop} (_ : Lk K) (o : Option MO) : Prop := match o with
  | some (.fK kvs u) => K kvs u
  | _ => False
theorem onML3_l {K : List D → Prop} {L : List (DKey × D) → Prop} {ds : List D} : onML3 (K := K) (L := L) ⟨⟩ ⟨⟩ (some (.lst ds)) = K ds := pq Iff.rfl
theorem onML3_d {K : List D → Prop} {L : List (DKey × D) → Prop} {ds : List (DKey × D)} : onML3 (K := K) (L := L) ⟨⟩ ⟨⟩ (some (.dK ds)) = L ds := pq Iff.rfl
theorem onML3_f {K : List D → Prop} {L : List (DKey × D) → Prop} {ds : List (DKey × D)} {u : HO} : onML3 (K := K) (L := L) ⟨⟩ ⟨⟩ (some (.fK ds u)) = L ds := pq Iff.rfl
theorem onDR_d {L : List (DKey × D) → Prop} {ds : List (DKey × D)} : onDR (K := L) ⟨⟩ (some (.dK ds)) = L ds := pq Iff.rfl
theorem onDR_f {L : List (DKey × D) → Prop} {ds : List (DKey × D)} {u : HO} : onDR (K := L) ⟨⟩ (some (.fK ds u)) = L ds := pq Iff.rfl
theorem onFK_f {L : List (DKey × D) → HO → Prop} {ds : List (DKey × D)} {u : HO} : onFK (K := L) ⟨⟩ (some (.fK ds u)) = L ds u := pq Iff.rfl
def onDK {K : List (DKey × D) → Prop} (_ : Lk K) (o : Option MO) : Prop := match o with
  | some (.dK kvs) => K kvs
  | _ => False
def truK {K : Bool → Prop} (_ : Lk K) (M : Mu) (d : D) : Prop := match d with
  | .str x => x.length ≤ 16777216 ∧ K (!x.isEmpty)
  | d => match truD M d with
    | some b => K b
    | none => False
def frzK {K : DK} (_ : Lk K) (d : D) (M : Mu) : Prop := match d with
  | .ref a => (match M a with
    | some (.lst ds) => K (.lst ds) (del M a)
    | _ => False)
  | _ => False
def isiK {K : Bool → Prop} (_ : Lk K) (o : Option String) (T : String) : Prop := match o with
  | some n => ["bool", "int", "str", "list", "tuple", "dict"].contains T = true ∧ K (isaB n T)
  | none => False
def rng1K {K : List D → Mu → Prop} (_ : Lk K) (ds : List D) (M : Mu) : Prop := match ds with
  | [.int j] => -(2 ^ 62) ≤ j ∧ j < 2 ^ 62 ∧ K (upTo 0 j.toNat) M
  | _ => False
def rng2K {K : List D → Mu → Prop} (_ : Lk K) (ds : List D) (M : Mu) : Prop := match ds with
  | [.int i, .int j] => (-(2 ^ 62) ≤ i ∧ i < 2 ^ 62 ∧ -(2 ^ 62) ≤ j ∧ j < 2 ^ 62) ∧ K (upTo i (j - i).toNat) M
  | _ => False
def fzK {K : Addr → List D → Prop} (_ : Lk K) (o : Option (Option D)) (M : Mu) : Prop := match o with
  | some (some (.ref a)) => (match M a with
    | some (.lst ds) => K a ds
    | _ => False)
  | _ => False
def fmtK {K : DK} (_ : Lk K) (d : D) (M : Mu) : Prop := match d with
  | .str y => y.length ≤ 16777216 ∧ K (.str y) M
  | .int i => i.natAbs.log2 < 1920 ∧ K (.str (intT i)) M
  | _ => False
def opK {K : DK} (_ : Lk K) (g : DOp) (x y : D) (M : Mu) : Prop := g x y M K
def unK {K : DK} (_ : Lk K) (g : DUn) (x : D) (M : Mu) : Prop := g x M K
def cbK {K : DK} (_ : Lk K) (g : DCb) (ds : List D) (M : Mu) : Prop := g ds M K
def mtK {K : DK} (_ : Lk K) (g : DMt) (x : D) (ds : List D) (M : Mu) : Prop := g x ds M K
def slK {K : DK} (_ : Lk K) (x : D) (lo hi : Option Int) (M : Mu) : Prop := gSl x lo hi M K
def callK {K : DK} {L : DX} (_ : Lk K) (_ : Lk L) (sp : DSp) (ds : List D) (M : Mu) : Prop := sp ds M K L
theorem onSome_s {α : Type} {a : α} {k : α → Prop} : onSome (K := k) ⟨⟩ (some a) = k a := pq Iff.rfl
theorem onBl_b {b : Bool} {k : Bool → Prop} : onBl (K := k) ⟨⟩ (.bl b) = k b := pq Iff.rfl
theorem onInt_i {b : Int} {k : Int → Prop} : onInt (K := k) ⟨⟩ (.int b) = k b := pq Iff.rfl
theorem onVar_s {d : D} {k : D → Prop} : onVar (K := k) ⟨⟩ (some (some d)) = k d := pq Iff.rfl
theorem onML_l {ds : List D} {k : List D → Prop} : onML (K := k) ⟨⟩ (some (.lst ds)) = k ds := pq Iff.rfl
theorem onML2_l {ds : List D} {k : List D → Prop} {l : List (DKey × D) → Prop} : onML2 (K := k) (L := l) ⟨⟩ ⟨⟩ (some (.lst ds)) = k ds := pq Iff.rfl
theorem onML2_d {ds : List (DKey × D)} {k : List D → Prop} {l : List (DKey × D) → Prop} : onML2 (K := k) (L := l) ⟨⟩ ⟨⟩ (some (.dK ds)) = l ds := pq Iff.rfl
theorem onDK_d {ds : List (DKey × D)} {l : List (DKey × D) → Prop} : onDK (K := l) ⟨⟩ (some (.dK ds)) = l ds := pq Iff.rfl
section
variable {M : Mu} {Q : DK} {k : Bool → Prop} {τ : DSt} {E : DX} {te ta tb : DTE} {tl : DTA}
theorem tru_n : truK (K := k) ⟨⟩ M .non = k false := pq Iff.rfl
theorem tru_b {b : Bool} : truK (K := k) ⟨⟩ M (.bl b) = k b := pq Iff.rfl
theorem tru_i {i : Int} : truK (K := k) ⟨⟩ M (.int i) = k (i != 0) := pq Iff.rfl
theorem tru_s {x : Tx} : truK (K := k) ⟨⟩ M (.str x) = (x.length ≤ 16777216 ∧ k (!x.isEmpty)) := pq Iff.rfl
theorem tru_l {x : List D} : truK (K := k) ⟨⟩ M (.lst x) = k (!x.isEmpty) := pq Iff.rfl
theorem tru_t {x : List D} : truK (K := k) ⟨⟩ M (.tup x) = k (!x.isEmpty) := pq Iff.rfl
theorem tru_r {a : Addr} : truK (K := k) ⟨⟩ M (.ref a) = onML2 (K := fun ds => k !ds.isEmpty) (L := fun kvs => k !kvs.isEmpty) ⟨⟩ ⟨⟩ (M a) := by
  show (match (match M a with
    | some (.lst ds) => some !ds.isEmpty
    | some (.dK kvs) => some !kvs.isEmpty
    | _ => none) with
    | some b => k b
    | none => False) = _
  unfold onML2
  cases M a with
  | none => rfl
  | some mo => cases mo <;> rfl
theorem r_var {i : Nat} : dVar i τ M Q E = onVar (K := fun d => Q d M) ⟨⟩ τ[i]? := pq Iff.rfl
theorem r_test {Qb : Bool → Mu → Prop} : dTest te τ M Qb E = te τ M (fun d M1 => onBl (K := fun b => Qb b M1) ⟨⟩ d) E := pq Iff.rfl
theorem r_tru {Qb : Bool → Mu → Prop} : dTru te τ M Qb E = te τ M (fun d M1 => truK (K := fun b => Qb b M1) ⟨⟩ M1 d) E := pq Iff.rfl
theorem r_andV : dAndV ta tb τ M Q E = ta τ M (fun d M1 => onBl (K := fun b => if b = true then tb τ M1 Q E else Q (.bl false) M1) ⟨⟩ d) E := pq Iff.rfl
theorem r_orV : dOrV ta tb τ M Q E = ta τ M (fun d M1 => onBl (K := fun b => if b = true then Q (.bl true) M1 else tb τ M1 Q E) ⟨⟩ d) E := pq Iff.rfl
theorem r_notV : dNotV ta τ M Q E = ta τ M (fun d M1 => onBl (K := fun b => Q (.bl (!b)) M1) ⟨⟩ d) E := pq Iff.rfl
theorem r_frz : dFrz te τ M Q E = te τ M (fun d M1 => frzK (K := Q) ⟨⟩ d M1) E := pq Iff.rfl
theorem frz_r {a : Addr} : frzK (K := Q) ⟨⟩ (.ref a) M = onML (K := fun ds => Q (.lst ds) (del M a)) ⟨⟩ (M a) := pq Iff.rfl
theorem r_osome {Qo : Option Int → Mu → Prop} : doSome te τ M Qo E = te τ M (fun d M1 => onInt (K := fun i => Qo (some i) M1) ⟨⟩ d) E := pq Iff.rfl
theorem sl_s {x : Tx} {lo hi : Option Int} : slK (K := Q) ⟨⟩ (.str x) lo hi M = (x.length ≤ 16777216 ∧ Q (.str (cut x lo hi)) M) := pq Iff.rfl
theorem sl_l {x : List D} {lo hi : Option Int} : slK (K := Q) ⟨⟩ (.lst x) lo hi M = Q (.lst (cut x lo hi)) M := pq Iff.rfl
theorem sl_t {x : List D} {lo hi : Option Int} : slK (K := Q) ⟨⟩ (.tup x) lo hi M = (¬ (HT.sIx x.length 0 lo = 0 ∧ HT.sIx x.length x.length hi = x.length) ∧ Q (.tup (cut x lo hi)) M) := pq Iff.rfl
theorem sl_r {a : Addr} {lo hi : Option Int} : slK (K := Q) ⟨⟩ (.ref a) lo hi M = onML (K := fun ds => Q (.lst (cut ds lo hi)) M) ⟨⟩ (M a) := pq Iff.rfl
/-! operators -/
theorem add_i {i j : Int} : opK (K := Q) ⟨⟩ gAdd (.int i) (.int j) M = Q (.int (i + j)) M := pq Iff.rfl
theorem add_s {a b : Tx} : opK (K := Q) ⟨⟩ gAdd (.str a) (.str b) M = (a.length + b.length ≤ 16777216 ∧ Q (.str (a ++ b)) M) := pq Iff.rfl
theorem add_l {a b : List D} : opK (K := Q) ⟨⟩ gAdd (.lst a) (.lst b) M = (a.length + b.length ≤ 16777216 ∧ Q (.lst (a ++ b)) M) := pq Iff.rfl
theorem add_t {a b : List D} : opK (K := Q) ⟨⟩ gAdd (.tup a) (.tup b) M = (a ≠ [] ∧ a.length + b.length ≤ 16777216 ∧ Q (.tup (a ++ b)) M) := pq Iff.rfl
theorem add_rl {p : Addr} {b : List D} : opK (K := Q) ⟨⟩ gAdd (.ref p) (.lst b) M = onML (K := fun a => a.length + b.length ≤ 16777216 ∧ Q (.lst (a ++ b)) M) ⟨⟩ (M p) := pq Iff.rfl
theorem add_lr {p : Addr} {a : List D} : opK (K := Q) ⟨⟩ gAdd (.lst a) (.ref p) M = onML (K := fun b => a.length + b.length ≤ 16777216 ∧ Q (.lst (a ++ b)) M) ⟨⟩ (M p) := pq Iff.rfl
theorem sub_i {i j : Int} : opK (K := Q) ⟨⟩ gSub (.int i) (.int j) M = Q (.int (i - j)) M := pq Iff.rfl
theorem mul_i {i j : Int} : opK (K := Q) ⟨⟩ gMul (.int i) (.int j) M = (CMul i j ∧ Q (.int (i * j)) M) := pq Iff.rfl
theorem div_i {i j : Int} : opK (K := Q) ⟨⟩ gDiv (.int i) (.int j) M = (CDiv i j ∧ Q (.int (i / j)) M) := pq Iff.rfl
theorem mod_i {i j : Int} : opK (K := Q) ⟨⟩ gMod (.int i) (.int j) M = (0 < j ∧ Q (.int (i % j)) M) := pq Iff.rfl
theorem pow_i {i j : Int} : opK (K := Q) ⟨⟩ gPow (.int i) (.int j) M = (CPow i j ∧ Q (.int (i ^ j.toNat)) M) := pq Iff.rfl
theorem neg_i {i : Int} : unK (K := Q) ⟨⟩ gNeg (.int i) M = Q (.int (-i)) M := pq Iff.rfl
theorem cmp_i {p : Int → Int → Bool} {i j : Int} : opK (K := Q) ⟨⟩ (gInt p) (.int i) (.int j) M = Q (.bl (p i j)) M := pq Iff.rfl
variable {nb : Bool → Bool}
theorem eq_i {i j : Int} : opK (K := Q) ⟨⟩ (gEqN nb) (.int i) (.int j) M = Q (.bl (nb (decide (i = j)))) M := pq Iff.rfl
theorem eq_s {i j : Tx} : opK (K := Q) ⟨⟩ (gEqN nb) (.str i) (.str j) M = Q (.bl (nb (decide (i = j)))) M := pq Iff.rfl
theorem eq_b {i j : Bool} : opK (K := Q) ⟨⟩ (gEqN nb) (.bl i) (.bl j) M = Q (.bl (nb (decide (i = j)))) M := pq Iff.rfl
theorem eq_n : opK (K := Q) ⟨⟩ (gEqN nb) .non .non M = Q (.bl (nb true)) M := pq Iff.rfl
theorem eq_l {a b : List D} : opK (K := Q) ⟨⟩ (gEqN nb) (.lst a) (.lst b) M = (eqOk (.lst a) = true ∧ eqOk (.lst b) = true ∧ Q (.bl (nb (PyData.eqv (.list (pds a)) (.list (pds b))))) M) := pq Iff.rfl
theorem eq_t {a b : List D} : opK (K := Q) ⟨⟩ (gEqN nb) (.tup a) (.tup b) M = (eqOk (.tup a) = true ∧ eqOk (.tup b) = true ∧ Q (.bl (nb (PyData.eqv (.tuple (pds a)) (.tuple (pds b))))) M) := pq Iff.rfl
theorem eq_rl {p : Addr} {b : List D} : opK (K := Q) ⟨⟩ (gEqN nb) (.ref p) (.lst b) M = onML (K := fun a => eqOk (.lst a) = true ∧ eqOk (.lst b) = true ∧ Q (.bl (nb (PyData.eqv (.list (pds a)) (.list (pds b))))) M) ⟨⟩ (M p) := pq Iff.rfl
theorem eq_lr {p : Addr} {a : List D} : opK (K := Q) ⟨⟩ (gEqN nb) (.lst a) (.ref p) M = onML (K := fun b => eqOk (.lst a) = true ∧ eqOk (.lst b) = true ∧ Q (.bl (nb (PyData.eqv (.list (pds a)) (.list (pds b))))) M) ⟨⟩ (M p) := pq Iff.rfl
theorem tt {P : Prop} : (true = true ∧ P) = P := by simp
theorem eq_ni {i : Int} : opK (K := Q) ⟨⟩ (gEqN nb) .non (.int i) M = Q (.bl (nb false)) M := tt
theorem eq_in {i : Int} : opK (K := Q) ⟨⟩ (gEqN nb) (.int i) .non M = Q (.bl (nb false)) M := tt
theorem eq_ns {i : Tx} : opK (K := Q) ⟨⟩ (gEqN nb) .non (.str i) M = Q (.bl (nb false)) M := tt
theorem eq_sn {i : Tx} : opK (K := Q) ⟨⟩ (gEqN nb) (.str i) .non M = Q (.bl (nb false)) M := tt
theorem eq_nb {i : Bool} : opK (K := Q) ⟨⟩ (gEqN nb) .non (.bl i) M = Q (.bl (nb false)) M := tt
theorem eq_bn {i : Bool} : opK (K := Q) ⟨⟩ (gEqN nb) (.bl i) .non M = Q (.bl (nb false)) M := tt
theorem eq_is {i : Int} {x : Tx} : opK (K := Q) ⟨⟩ (gEqN nb) (.int i) (.str x) M = Q (.bl (nb false)) M := tt
theorem eq_si {i : Int} {x : Tx} : opK (K := Q) ⟨⟩ (gEqN nb) (.str x) (.int i) M = Q (.bl (nb false)) M := tt
theorem ix_l {ds : List D} {i : Int} : opK (K := Q) ⟨⟩ gIx (.lst ds) (.int i) M = onSome (K := fun d => Q d M) ⟨⟩ (atI ds i) := by
  show (match atI ds i with | some d => Q d M | none => False) = _
  cases atI ds i <;> rfl
theorem ix_t {ds : List D} {i : Int} : opK (K := Q) ⟨⟩ gIx (.tup ds) (.int i) M = onSome (K := fun d => Q d M) ⟨⟩ (atI ds i) := by
  show (match atI ds i with | some d => Q d M | none => False) = _
  cases atI ds i <;> rfl
theorem ix_s {x : Tx} {i : Int} : opK (K := Q) ⟨⟩ gIx (.str x) (.int i) M = (x.length ≤ 16777216 ∧ onSome (K := fun c => Q (.str [c]) M) ⟨⟩ (atI x i)) := by
  show (x.length ≤ 16777216 ∧ (match atI x i with | some c => Q (.str [c]) M | none => False)) = _
  cases atI x i <;> rfl
theorem ix_ri {a : Addr} {i : Int} : opK (K := Q) ⟨⟩ gIx (.ref a) (.int i) M = onML3 (K := fun ds => onSome (K := fun d => Q d M) ⟨⟩ (atI ds i)) (L := fun kvs => onSome (K := fun d => Q d M) ⟨⟩ (lookK kvs (.inl i))) ⟨⟩ ⟨⟩ (M a) := by
  show (match M a with
    | some (.lst ds) => (match atI ds i with | some d => Q d M | none => False)
    | some (.dK kvs) => (match lookK kvs (.inl i) with | some d => Q d M | none => False)
    | some (.fK kvs _) => (match lookK kvs (.inl i) with | some d => Q d M | none => False)
    | _ => False) = _
  cases M a with
  | none => rfl
  | some mo => cases mo with
    | lst ds => show (match atI ds i with | some d => Q d M | none => False) = onSome (K := fun d => Q d M) ⟨⟩ (atI ds i); cases atI ds i <;> rfl
    | dK kvs => show (match lookK kvs (.inl i) with | some d => Q d M | none => False) = onSome (K := fun d => Q d M) ⟨⟩ (lookK kvs (.inl i)); cases lookK kvs (.inl i) <;> rfl
    | fK kvs u => show (match lookK kvs (.inl i) with | some d => Q d M | none => False) = onSome (K := fun d => Q d M) ⟨⟩ (lookK kvs (.inl i)); cases lookK kvs (.inl i) <;> rfl
    | _ => rfl
theorem ix_rs {a : Addr} {x : Tx} : opK (K := Q) ⟨⟩ gIx (.ref a) (.str x) M = onDR (K := fun kvs => onSome (K := fun d => Q d M) ⟨⟩ (lookK kvs (.inr x))) ⟨⟩ (M a) := by
  show (match M a with
    | some (.dK kvs) => (match lookK kvs (.inr x) with | some d => Q d M | none => False)
    | some (.fK kvs _) => (match lookK kvs (.inr x) with | some d => Q d M | none => False)
    | _ => False) = _
  cases M a with
  | none => rfl
  | some mo => cases mo with
    | dK kvs => show (match lookK kvs (.inr x) with | some d => Q d M | none => False) = onSome (K := fun d => Q d M) ⟨⟩ (lookK kvs (.inr x)); cases lookK kvs (.inr x) <;> rfl
    | fK kvs u => show (match lookK kvs (.inr x) with | some d => Q d M | none => False) = onSome (K := fun d => Q d M) ⟨⟩ (lookK kvs (.inr x)); cases lookK kvs (.inr x) <;> rfl
    | _ => rfl
theorem in_ss {c : Nat} {z : Tx} : opK (K := Q) ⟨⟩ (gInN nb) (.str [c]) (.str z) M = Q (.bl (nb (decide (c ∈ z)))) M := pq Iff.rfl
theorem in_l {x : D} {ys : List D} : opK (K := Q) ⟨⟩ (gInN nb) x (.lst ys) M = (flatD x = true ∧ ys.all flatD = true ∧ Q (.bl (nb (inD x ys))) M) := by
  cases x <;> first
    | rfl
    | (rename_i w; cases w with
      | nil => rfl
      | cons a l => cases l <;> rfl)
theorem in_t {x : D} {ys : List D} : opK (K := Q) ⟨⟩ (gInN nb) x (.tup ys) M = (flatD x = true ∧ ys.all flatD = true ∧ Q (.bl (nb (inD x ys))) M) := by
  cases x <;> first
    | rfl
    | (rename_i w; cases w with
      | nil => rfl
      | cons a l => cases l <;> rfl)
theorem in_ir {i : Int} {a : Addr} : opK (K := Q) ⟨⟩ (gInN nb) (.int i) (.ref a) M = onML3 (K := fun ys => ys.all flatD = true ∧ Q (.bl (nb (inD (.int i) ys))) M) (L := fun kvs => Q (.bl (nb (lookK kvs (.inl i)).isSome)) M) ⟨⟩ ⟨⟩ (M a) := pq Iff.rfl
theorem in_sr {x : Tx} {a : Addr} : opK (K := Q) ⟨⟩ (gInN nb) (.str x) (.ref a) M = onML3 (K := fun ys => ys.all flatD = true ∧ Q (.bl (nb (inD (.str x) ys))) M) (L := fun kvs => Q (.bl (nb (lookK kvs (.inr x)).isSome)) M) ⟨⟩ ⟨⟩ (M a) := by
  cases x with
  | nil => rfl
  | cons c l => cases l <;> rfl
theorem isn_n : opK (K := Q) ⟨⟩ (gIsNN nb) .non .non M = Q (.bl (nb true)) M := pq Iff.rfl
theorem isn_b {b : Bool} : opK (K := Q) ⟨⟩ (gIsNN nb) (.bl b) .non M = Q (.bl (nb false)) M := pq Iff.rfl
theorem isn_i {b : Int} : opK (K := Q) ⟨⟩ (gIsNN nb) (.int b) .non M = Q (.bl (nb false)) M := pq Iff.rfl
theorem isn_s {b : Tx} : opK (K := Q) ⟨⟩ (gIsNN nb) (.str b) .non M = Q (.bl (nb false)) M := pq Iff.rfl
theorem isn_r {b : Addr} : opK (K := Q) ⟨⟩ (gIsNN nb) (.ref b) .non M = Q (.bl (nb false)) M := pq Iff.rfl
theorem isn_l {b : List D} : opK (K := Q) ⟨⟩ (gIsNN nb) (.lst b) .non M = Q (.bl (nb false)) M := pq Iff.rfl
theorem isn_t {b : List D} : opK (K := Q) ⟨⟩ (gIsNN nb) (.tup b) .non M = Q (.bl (nb false)) M := pq Iff.rfl
/-! built-in functions -/
theorem len_s {x : Tx} : cbK (K := Q) ⟨⟩ gLen [.str x] M = (x.length ≤ 16777216 ∧ Q (.int x.length) M) := pq Iff.rfl
theorem len_c {ns : List Int} : cbK (K := Q) ⟨⟩ gLen [.scr ns] M = Q (.int ns.length) M := pq Iff.rfl
theorem len_l {x : List D} : cbK (K := Q) ⟨⟩ gLen [.lst x] M = Q (.int x.length) M := pq Iff.rfl
theorem len_t {x : List D} : cbK (K := Q) ⟨⟩ gLen [.tup x] M = Q (.int x.length) M := pq Iff.rfl
theorem len_r {a : Addr} : cbK (K := Q) ⟨⟩ gLen [.ref a] M = onML2 (K := fun ds => Q (.int ds.length) M) (L := fun kvs => Q (.int kvs.length) M) ⟨⟩ ⟨⟩ (M a) := pq Iff.rfl
theorem int_i {i : Int} : cbK (K := Q) ⟨⟩ gInt1 [.int i] M = Q (.int i) M := pq Iff.rfl
theorem int_b {b : Bool} : cbK (K := Q) ⟨⟩ gInt1 [.bl b] M = Q (.int (if b then 1 else 0)) M := pq Iff.rfl
theorem min_ii {i j : Int} : cbK (K := Q) ⟨⟩ gMin2 [.int i, .int j] M = Q (.int (if j < i then j else i)) M := pq Iff.rfl
theorem max_ii {i j : Int} : cbK (K := Q) ⟨⟩ gMax2 [.int i, .int j] M = Q (.int (if j > i then j else i)) M := pq Iff.rfl
theorem list_l {x : List D} : cbK (K := Q) ⟨⟩ gList [.lst x] M = Q (.lst x) M := pq Iff.rfl
theorem list_t {x : List D} : cbK (K := Q) ⟨⟩ gList [.tup x] M = Q (.lst x) M := pq Iff.rfl
theorem list_r {a : Addr} : cbK (K := Q) ⟨⟩ gList [.ref a] M = onML (K := fun ds => Q (.lst ds) M) ⟨⟩ (M a) := pq Iff.rfl
theorem list_c {ns : List Int} : cbK (K := Q) ⟨⟩ gList [.scr ns] M = Q (.lst (ns.map D.int)) M := pq Iff.rfl
theorem listM_c {ns : List Int} : cbK (K := Q) ⟨⟩ gListM [.scr ns] M = (∀ p, M p = none → Q (.ref p) (put M p (.lst (ns.map D.int)))) := pq Iff.rfl
theorem listM_l {x : List D} : cbK (K := Q) ⟨⟩ gListM [.lst x] M = (∀ p, M p = none → Q (.ref p) (put M p (.lst x))) := pq Iff.rfl
theorem listM_t {x : List D} : cbK (K := Q) ⟨⟩ gListM [.tup x] M = (∀ p, M p = none → Q (.ref p) (put M p (.lst x))) := pq Iff.rfl
theorem listM_r {a : Addr} : cbK (K := Q) ⟨⟩ gListM [.ref a] M = onML (K := fun ds => ∀ p, M p = none → Q (.ref p) (put M p (.lst ds))) ⟨⟩ (M a) := pq Iff.rfl
theorem isi_ {d : D} {T : String} : cbK (K := Q) ⟨⟩ gIsi [d, .ty T] M = isiK (K := fun b => Q (.bl b) M) ⟨⟩ (tyD M d) T := pq Iff.rfl
theorem isi_k {n T : String} {k : Bool → Prop} : isiK (K := k) ⟨⟩ (some n) T = (["bool", "int", "str", "list", "tuple", "dict"].contains T = true ∧ k (isaB n T)) := pq Iff.rfl
theorem ty_n : tyD M .non = some "NoneType" := rfl
theorem ty_b {b : Bool} : tyD M (.bl b) = some "bool" := rfl
theorem ty_i {b : Int} : tyD M (.int b) = some "int" := rfl
theorem ty_s {b : Tx} : tyD M (.str b) = some "str" := rfl
theorem ty_l {b : List D} : tyD M (.lst b) = some "list" := rfl
theorem ty_t {b : List D} : tyD M (.tup b) = some "tuple" := rfl
theorem it_s {x : Tx} : isTy "str" M (.str x) = True := by show ("str" = "str") = True; simp
theorem it_l {x : List D} : isTy "list" M (.lst x) = True := by show ("list" = "list") = True; simp
def isTyM (T : String) (o : Option MO) : Prop := match o with
  | some (.lst _) => T = "list"
  | some (.dK _) => T = "dict"
  | _ => False
theorem it_r {T : String} {a : Addr} : isTy T M (.ref a) = isTyM T (M a) := pq Iff.rfl
theorem itM_l {x : List D} : isTyM "list" (some (.lst x)) = True := by show ("list" = "list") = True; simp
theorem itM_d {x : List (DKey × D)} : isTyM "dict" (some (.dK x)) = True := by show ("dict" = "dict") = True; simp
theorem app_r {a : Addr} {y : D} : mtK (K := Q) ⟨⟩ gAppend (.ref a) [y] M = onML (K := fun ds => ds.length < 16777216 ∧ Q .non (put M a (.lst (ds ++ [y])))) ⟨⟩ (M a) := pq Iff.rfl
theorem rev_r {a : Addr} : mtK (K := Q) ⟨⟩ gReverse (.ref a) [] M = onML (K := fun ds => Q .non (put M a (.lst ds.reverse))) ⟨⟩ (M a) := pq Iff.rfl
theorem join_l {s : Tx} {ds : List D} : mtK (K := Q) ⟨⟩ gJoin (.str s) [.lst ds] M = (∃ ys : List Tx, ds = ys.map D.str ∧ (ys.map (·.length)).sum + ys.length * s.length ≤ 16777216 ∧ Q (.str (joinT s ys)) M) := pq Iff.rfl
theorem join_t {s : Tx} {ds : List D} : mtK (K := Q) ⟨⟩ gJoin (.str s) [.tup ds] M = (∃ ys : List Tx, ds = ys.map D.str ∧ (ys.map (·.length)).sum + ys.length * s.length ≤ 16777216 ∧ Q (.str (joinT s ys)) M) := pq Iff.rfl
theorem join_r {s : Tx} {a : Addr} : mtK (K := Q) ⟨⟩ gJoin (.str s) [.ref a] M = onML (K := fun ds => ∃ ys : List Tx, ds = ys.map D.str ∧ (ys.map (·.length)).sum + ys.length * s.length ≤ 16777216 ∧ Q (.str (joinT s ys)) M) ⟨⟩ (M a) := pq Iff.rfl
theorem starts_s {a b : Tx} : mtK (K := Q) ⟨⟩ gStarts (.str a) [.str b] M = Q (.bl (b.isPrefixOf a)) M := pq Iff.rfl
/-! targets, walks -/
variable {d : D} {Qs : DSt → Mu → Prop}
def tupK (n : Nat) (u : DTGs) (d : D) (τ : DSt) (M : Mu) (Q : DSt → Mu → Prop) : Prop := match d with
  | .tup ds => ds.length = n ∧ u ds τ M Q (fun _ _ => False)
  | _ => False
theorem r_gtup {n : Nat} {u : DTGs} {ds : List D} : dgTup n u (.tup ds) τ M Qs E = (ds.length = n ∧ u ds τ M Qs (fun _ _ => False)) := pq Iff.rfl
theorem r_glst {n : Nat} {u : DTGs} {ds : List D} : dgLst n u (.lst ds) τ M Qs E = (ds.length = n ∧ u ds τ M Qs (fun _ _ => False)) := pq Iff.rfl
theorem r_gnil : dgNil [] τ M Qs E = Qs τ M := pq Iff.rfl
theorem r_gcons {i : Nat} {u : DTGs} {r : List D} : dgCons i u (d :: r) τ M Qs E = u r (τ.set i (some d)) M Qs E := pq Iff.rfl
def setK {K : Mu → Prop} (_ : Lk K) (g : DSet) (o i d : D) (M : Mu) : Prop := g o i d M K
theorem set_r {a : Addr} {k : Int} {Qm : Mu → Prop} : setK (K := Qm) ⟨⟩ gSetA (.ref a) (.int k) d M = onML2 (K := fun ds => onSome (K := fun j => Qm (put M a (.lst (ds.set j d)))) ⟨⟩ (ixN ds.length k)) (L := fun kvs => kvs.length < 16777216 ∧ Qm (put M a (.dK (putD kvs (.inl k) d)))) ⟨⟩ ⟨⟩ (M a) := by
  show (match M a with
    | some (.lst ds) => (match ixN ds.length k with | some j => Qm (put M a (.lst (ds.set j d))) | none => False)
    | some (.dK kvs) => kvs.length < 16777216 ∧ Qm (put M a (.dK (putD kvs (.inl k) d)))
    | _ => False) = _
  cases M a with
  | none => rfl
  | some mo => cases mo with
    | lst ds => show (match ixN ds.length k with | some j => Qm (put M a (.lst (ds.set j d))) | none => False) = onSome (K := fun j => Qm (put M a (.lst (ds.set j d)))) ⟨⟩ (ixN ds.length k); cases ixN ds.length k <;> rfl
    | _ => rfl
theorem set_rs {a : Addr} {x : Tx} {Qm : Mu → Prop} : setK (K := Qm) ⟨⟩ gSetA (.ref a) (.str x) d M = onDK (K := fun kvs => kvs.length < 16777216 ∧ Qm (put M a (.dK (putD kvs (.inr x) d)))) ⟨⟩ (M a) := pq Iff.rfl
theorem str_i {i : Int} : cbK (K := Q) ⟨⟩ gStr1 [.int i] M = (i.natAbs.log2 < 1920 ∧ Q (.str (intT i)) M) := pq Iff.rfl
theorem str_s {x : Tx} : cbK (K := Q) ⟨⟩ gStr1 [.str x] M = Q (.str x) M := pq Iff.rfl
theorem ext_l {a : Addr} {zs : List D} : mtK (K := Q) ⟨⟩ gExtend (.ref a) [.lst zs] M = onML (K := fun ds => ds.length + zs.length ≤ 16777216 ∧ Q .non (put M a (.lst (ds ++ zs)))) ⟨⟩ (M a) := pq Iff.rfl
theorem pop_r {a : Addr} : mtK (K := Q) ⟨⟩ gPop (.ref a) [] M = onML (K := fun ds => onSome (K := fun d => Q d (put M a (.lst ds.dropLast))) ⟨⟩ ds.getLast?) ⟨⟩ (M a) := by
  show (match M a with
    | some (.lst ds) => (match ds.getLast? with
      | some d => Q d (put M a (.lst ds.dropLast))
      | none => False)
    | _ => False) = _
  cases M a with
  | none => rfl
  | some mo => cases mo with
    | lst ds => show (match ds.getLast? with | some d => Q d (put M a (.lst ds.dropLast)) | none => False) = onSome (K := fun d => Q d (put M a (.lst ds.dropLast))) ⟨⟩ ds.getLast?; cases ds.getLast? <;> rfl
    | _ => rfl
theorem clr_r {a : Addr} : mtK (K := Q) ⟨⟩ gClear (.ref a) [] M = onML (K := fun _ => Q .non (put M a (.lst []))) ⟨⟩ (M a) := pq Iff.rfl
theorem ends_s {a b : Tx} : mtK (K := Q) ⟨⟩ gEnds (.str a) [.str b] M = Q (.bl (b.isSuffixOf a)) M := pq Iff.rfl
theorem ins_r {a : Addr} {i : Int} {y : D} : mtK (K := Q) ⟨⟩ gInsert (.ref a) [.int i, y] M = onML (K := fun ds => ds.length < 16777216 ∧ 0 ≤ i ∧ i < 2 ^ 62 ∧ Q .non (put M a (.lst (ds.take i.toNat ++ [y] ++ ds.drop i.toNat)))) ⟨⟩ (M a) := pq Iff.rfl
theorem r_any {Ql : List D → Mu → Prop} : diAny te τ M Ql E = te τ M (fun d M1 => onSome (K := fun ds => Ql ds M1) ⟨⟩ (itemsD d)) E := by
  unfold diAny
  congr 1
  funext d M1
  cases itemsD d <;> rfl
def scrK {K : List D → Prop} (_ : Lk K) (d : D) : Prop := match d with
  | .scr ns => K (ns.map D.int)
  | _ => False
theorem scr_c {K : List D → Prop} {ns : List Int} : scrK (K := K) ⟨⟩ (.scr ns) = K (ns.map D.int) := pq Iff.rfl
theorem r_scr {Ql : List D → Mu → Prop} : diScr te τ M Ql E = te τ M (fun d M1 => scrK (K := fun ds => Ql ds M1) ⟨⟩ d) E := by
  unfold diScr
  congr 1
theorem items_s {x : Tx} : itemsD (.str x) = some (x.map fun c => D.str [c]) := rfl
theorem items_l {x : List D} : itemsD (.lst x) = some x := rfl
theorem items_t {x : List D} : itemsD (.tup x) = some x := rfl
theorem r_rng1 {Ql : List D → Mu → Prop} : diRng1 tl τ M Ql E = tl τ M (fun ds M1 => rng1K (K := Ql) ⟨⟩ ds M1) E := pq Iff.rfl
theorem r_rng2 {Ql : List D → Mu → Prop} : diRng2 tl τ M Ql E = tl τ M (fun ds M1 => rng2K (K := Ql) ⟨⟩ ds M1) E := pq Iff.rfl
theorem rng1_i {j : Int} {Ql : List D → Mu → Prop} : rng1K (K := Ql) ⟨⟩ [.int j] M = (-(2 ^ 62) ≤ j ∧ j < 2 ^ 62 ∧ Ql (upTo 0 j.toNat) M) := pq Iff.rfl
theorem rng2_i {i j : Int} {Ql : List D → Mu → Prop} : rng2K (K := Ql) ⟨⟩ [.int i, .int j] M = ((-(2 ^ 62) ≤ i ∧ i < 2 ^ 62 ∧ -(2 ^ 62) ≤ j ∧ j < 2 ^ 62) ∧ Ql (upTo i (j - i).toNat) M) := pq Iff.rfl
theorem r_fz {i : Nat} {t : DTS} {D0 : DEnds} : dFz i t D0 τ M = fzK (K := fun a ds => t D0 (τ.set i (some (.lst ds))) (del M a)) ⟨⟩ τ[i]? M := by
  unfold dFz fzK
  cases τ[i]? with
  | none => rfl
  | some o => cases o with
    | none => rfl
    | some d => cases d with
      | ref a => show (match M a with | some (.lst ds) => t D0 (τ.set i (some (.lst ds))) (del M a) | _ => False) = (match M a with | some (.lst ds) => t D0 (τ.set i (some (.lst ds))) (del M a) | _ => False); rfl
      | _ => rfl
theorem fz_r {a : Addr} {k : Addr → List D → Prop} : fzK (K := k) ⟨⟩ (some (some (.ref a))) M = onML (K := fun ds => k a ds) ⟨⟩ (M a) := pq Iff.rfl
end
/-! unfolding, whole readings only -/
theorem onStr_s {y : Tx} {k : Tx → Prop} : onStr (K := k) ⟨⟩ (.str y) = k y := pq Iff.rfl
theorem fmt_s {y : Tx} {M : Mu} {Q : DK} : fmtK (K := Q) ⟨⟩ (.str y) M = (y.length ≤ 16777216 ∧ Q (.str y) M) := pq Iff.rfl
theorem fmt_i {i : Int} {M : Mu} {Q : DK} : fmtK (K := Q) ⟨⟩ (.int i) M = (i.natAbs.log2 < 1920 ∧ Q (.str (intT i)) M) := pq Iff.rfl
theorem ex_mk {nx : DSt → Mu → Prop} {rt : DK} {bk ct : DSt → Mu → Prop} {xc : XD → DSt → Mu → Prop} {τ : DSt} : DEnds.ex ⟨nx, rt, bk, ct, xc⟩ τ = (fun x M => xc x τ M) := funext fun _ => funext fun _ => pq Iff.rfl
section
variable {nx : DSt → Mu → Prop} {rt : DK} {bk ct : DSt → Mu → Prop} {xc : XD → DSt → Mu → Prop}
theorem nx_mk : DEnds.nx ⟨nx, rt, bk, ct, xc⟩ = nx := funext fun _ => funext fun _ => pq Iff.rfl
theorem rt_mk : DEnds.rt ⟨nx, rt, bk, ct, xc⟩ = rt := funext fun _ => funext fun _ => pq Iff.rfl
theorem bk_mk : DEnds.bk ⟨nx, rt, bk, ct, xc⟩ = bk := funext fun _ => funext fun _ => pq Iff.rfl
theorem ct_mk : DEnds.ct ⟨nx, rt, bk, ct, xc⟩ = ct := funext fun _ => funext fun _ => pq Iff.rfl
theorem xc_mk : DEnds.xc ⟨nx, rt, bk, ct, xc⟩ = xc := funext fun _ => funext fun _ => funext fun _ => pq Iff.rfl
end
section
variable {d : D} {g : DOp} {gu : DUn} {gc : DCb} {gm : DMt} {gs : DSet} {tg : DTG} {T : String} {ta tb te to : DTE} {t u : DTT} {tl : DTA} {sp : DSp} {a b : DTS} {ti : DTI} {i : Nat} {l h : DTO} {τ : DSt} {M : Mu} {Q : DK} {E : DX} {Qb : Bool → Mu → Prop} {Ql : List D → Mu → Prop} {Qo : Option Int → Mu → Prop} {Qs : DSt → Mu → Prop} {D0 : DEnds} {ts : List DTE} {acc : Tx} {Qt : Tx → Mu → Prop} {p : Addr} {Nx : Mu → Prop}
theorem u_c : dC d τ M Q E = Q d M := pq Iff.rfl
theorem u_op : dOp g ta tb τ M Q E = ta τ M (fun x M1 => tb τ M1 (fun y M2 => opK (K := Q) ⟨⟩ g x y M2) E) E := pq Iff.rfl
theorem u_un : dUn gu ta τ M Q E = ta τ M (fun x M1 => unK (K := Q) ⟨⟩ gu x M1) E := pq Iff.rfl
theorem u_and : dAnd t u τ M Qb E = t τ M (fun b M1 => if b = true then u τ M1 Qb E else Qb false M1) E := pq Iff.rfl
theorem u_or : dOr t u τ M Qb E = t τ M (fun b M1 => if b = true then Qb true M1 else u τ M1 Qb E) E := pq Iff.rfl
theorem u_not : dNot t τ M Qb E = t τ M (fun b M1 => Qb (!b) M1) E := pq Iff.rfl
theorem u_if : dIf t ta tb τ M Q E = t τ M (fun b M1 => if b = true then ta τ M1 Q E else tb τ M1 Q E) E := pq Iff.rfl
theorem u_anil : daNil τ M Ql E = Ql [] M := pq Iff.rfl
theorem u_acons : daCons te tl τ M Ql E = te τ M (fun d M1 => tl τ M1 (fun ds M2 => Ql (d :: ds) M2) E) E := pq Iff.rfl
theorem u_lst : dLst tl τ M Q E = tl τ M (fun ds M1 => ds.length ≤ 16777216 ∧ Q (.lst ds) M1) E := pq Iff.rfl
theorem u_lstM : dLstM tl τ M Q E = tl τ M (fun ds M1 => ds.length ≤ 16777216 ∧ ∀ p, M1 p = none → Q (.ref p) (put M1 p (.lst ds))) E := pq Iff.rfl
theorem u_tup : dTup tl τ M Q E = tl τ M (fun ds M1 => ds.length ≤ 16777216 ∧ Q (.tup ds) M1) E := pq Iff.rfl
theorem u_call : dCall sp tl τ M Q E = tl τ M (fun ds M1 => callK (K := Q) (L := E) ⟨⟩ ⟨⟩ sp ds M1) E := pq Iff.rfl
theorem u_sl : dSl te l h τ M Q E = te τ M (fun d M1 => l τ M1 (fun lo M2 => h τ M2 (fun hi M3 => slK (K := Q) ⟨⟩ d lo hi M3) E) E) E := pq Iff.rfl
theorem u_onone : doNone τ M Qo E = Qo none M := pq Iff.rfl
theorem u_cb : dCB gc tl τ M Q E = tl τ M (fun ds M1 => cbK (K := Q) ⟨⟩ gc ds M1) E := pq Iff.rfl
theorem u_mt : dMt T gm to tl τ M Q E = to τ M (fun d M1 => isTy T M1 d ∧ tl τ M1 (fun ds M2 => mtK (K := Q) ⟨⟩ gm d ds M2) E) E := pq Iff.rfl
theorem u_mt0 : dMt0 T gm to τ M Q E = to τ M (fun d M1 => isTy T M1 d ∧ mtK (K := Q) ⟨⟩ gm d [] M1) E := pq Iff.rfl
theorem u_pass : dPass D0 τ M = D0.nx τ M := pq Iff.rfl
theorem u_seq : dSeq a b D0 τ M = a { D0 with nx := b D0 } τ M := pq Iff.rfl
theorem u_set : dSet i te D0 τ M = te τ M (fun d M1 => D0.nx (τ.set i (some d)) M1) (D0.ex τ) := pq Iff.rfl
theorem u_asg : dAsg te tg D0 τ M = te τ M (fun d M1 => tg d τ M1 D0.nx (D0.ex τ)) (D0.ex τ) := pq Iff.rfl
theorem u_drop : dDrop te D0 τ M = te τ M (fun _ M1 => D0.nx τ M1) (D0.ex τ) := pq Iff.rfl
theorem u_ret : dRet te D0 τ M = te τ M D0.rt (D0.ex τ) := pq Iff.rfl
theorem u_retN : dRetN D0 τ M = D0.rt .non M := pq Iff.rfl
theorem u_ifs : dIfS t a b D0 τ M = t τ M (fun c M1 => if c = true then a D0 τ M1 else b D0 τ M1) (D0.ex τ) := pq Iff.rfl
theorem u_brk : dBrk D0 τ M = D0.bk τ M := pq Iff.rfl
theorem u_cnt : dCnt D0 τ M = D0.ct τ M := pq Iff.rfl
theorem u_for : dFor ti tg a D0 τ M = ti τ M (fun ds M1 => wFor tg a D0 ds τ M1) (D0.ex τ) := pq Iff.rfl
theorem u_gname : dgName i d τ M Qs E = Qs (τ.set i (some d)) M := pq Iff.rfl
theorem u_gsub : dgSub ta tb gs d τ M Qs E = ta τ M (fun o M1 => tb τ M1 (fun i M2 => setK (K := fun M3 => Qs τ M3) ⟨⟩ gs o i d M2) E) E := pq Iff.rfl
theorem u_fs : dFs ts τ M Q E = dJs ts [] τ M (fun out M1 => Q (.str out) M1) E := pq Iff.rfl
theorem u_fmt : dFmt te τ M Q E = te τ M (fun x M1 => fmtK (K := Q) ⟨⟩ x M1) E := pq Iff.rfl
theorem u_js0 : dJs [] acc τ M Qt E = Qt acc M := pq Iff.rfl
theorem u_js : dJs (te :: ts) acc τ M Qt E = te τ M (fun x M1 => onStr (K := fun y => (acc ++ y).length ≤ 16777216 ∧ dJs ts (acc ++ y) τ M1 Qt E) ⟨⟩ x) E := pq Iff.rfl
theorem u_em : dEm p te τ M Nx = te τ M (fun y M1 => ∃ acc, M1 p = some (.lst acc) ∧ acc.length < sizeLine ∧ Nx (put M1 p (.lst (acc ++ [y])))) noX := pq Iff.rfl
def onRef {K : Addr → Prop} (_ : Lk K) (d : D) : Prop := match d with
  | .ref a => K a
  | _ => False
theorem onRef_r {K : Addr → Prop} {a : Addr} : onRef (K := K) ⟨⟩ (.ref a) = K a := pq Iff.rfl
theorem u_dict {prs : List (DTE × DTE)} : dDict prs τ M Q E = ∀ p, M p = none → dPairs prs τ (put M p (.dK [])) (fun ps M2 => M2 p = some (.dK []) ∧ ∃ kvs : List (DKey × D), ps = kvs.map (fun q => (kD q.1, q.2)) ∧ kvs.length ≤ 15 ∧ Q (.ref p) (put M2 p (.dK (mergeD [] kvs)))) E := pq Iff.rfl
theorem u_dict0 : dDict0 τ M Q E = ∀ p, M p = none → Q (.ref p) (put M p (.dK [])) := pq Iff.rfl
theorem u_dp0 {Qp : List (D × D) → Mu → Prop} : dPairs [] τ M Qp E = Qp [] M := pq Iff.rfl
theorem u_dp1 {Qp : List (D × D) → Mu → Prop} {prs : List (DTE × DTE)} : dPairs ((ta, tb) :: prs) τ M Qp E = ta τ M (fun x M1 => tb τ M1 (fun y M2 => dPairs prs τ M2 (fun ps M3 => Qp ((x, y) :: ps) M3) E) E) E := pq Iff.rfl
def starK {K : List D → Mu → Prop} (_ : Lk K) (d : D) (M : Mu) : Prop := match d with
  | .lst xs => K xs M
  | .tup xs => K xs M
  | .ref a => (match M a with
    | some (.lst xs) => K xs M
    | _ => False)
  | _ => False
theorem star_l {xs : List D} : starK (K := Ql) ⟨⟩ (.lst xs) M = Ql xs M := pq Iff.rfl
theorem star_t {xs : List D} : starK (K := Ql) ⟨⟩ (.tup xs) M = Ql xs M := pq Iff.rfl
theorem star_r {a : Addr} : starK (K := Ql) ⟨⟩ (.ref a) M = onML (K := fun xs => Ql xs M) ⟨⟩ (M a) := pq Iff.rfl
theorem u_star : dStar te tl τ M Ql E = te τ M (fun d M1 => starK (K := fun xs M2 => tl τ M2 (fun ys M3 => Ql (xs ++ ys) M3) E) ⟨⟩ d M1) E := pq Iff.rfl
theorem u_ref {Qr : Addr × List D → Mu → Prop} : diRef te τ M Qr E = te τ M (fun d M1 => onRef (K := fun p => onML (K := fun ds => Qr (p, ds) M1) ⟨⟩ (M1 p)) ⟨⟩ d) E := by
  unfold diRef
  congr 1
theorem u_forR {tr : DTR} : dForR tr tg a D0 τ M = tr τ M (fun q M1 => wForR q.1 q.2 tg a D0 q.2 τ M1) (D0.ex τ) := pq Iff.rfl
theorem u_forK : dForK te tg a D0 τ M = te τ M (fun d M1 => onRef (K := fun p => onFK (K := fun kvs u => wForK p kvs u tg a D0 (keysOf kvs) τ M1) ⟨⟩ (M1 p)) ⟨⟩ d) (D0.ex τ) := pq Iff.rfl
theorem u_lock : dLock i a D0 τ M = onVar (K := fun d => onRef (K := fun p => onDK (K := fun kvs => ∀ u, a ⟨fun τ' M' => M' p = some (.fK kvs u) ∧ D0.nx τ' (put M' p (.dK kvs)), fun d M' => M' p = some (.fK kvs u) ∧ D0.rt d (put M' p (.dK kvs)), fun τ' M' => M' p = some (.fK kvs u) ∧ D0.bk τ' (put M' p (.dK kvs)),
    fun τ' M' => M' p = some (.fK kvs u) ∧ D0.ct τ' (put M' p (.dK kvs)), fun _ _ _ => False⟩ τ (put M p (.fK kvs u))) ⟨⟩ (M p)) ⟨⟩ d) ⟨⟩ τ[i]? := by
  unfold dLock
  cases τ[i]? with
  | none => rfl
  | some o => cases o with
    | none => rfl
    | some d => cases d with
      | _ => rfl
theorem u_kd {kvs : List (Tx × Tx)} : dKd kvs te τ M Q E = te τ M (fun d M1 => onStr (K := fun z => onSome (K := fun v => Q (.str v) M1) ⟨⟩ (kvs.lookup z)) ⟨⟩ d) E := by
  unfold dKd
  congr 1
  funext d M1
  cases d with
  | str z => show (match kvs.lookup z with | some v => Q (.str v) M1 | none => False) = onSome (K := fun v => Q (.str v) M1) ⟨⟩ (kvs.lookup z); cases kvs.lookup z <;> rfl
  | _ => rfl
theorem u_yes : dYes τ M Qb E = Qb true M := pq Iff.rfl
theorem u_never : dNever D0 τ M = False := pq Iff.rfl
end
end DL

namespace DL
open PySem L2 He

/-! ### own classes: promises by positional arguments -/
section
variable {X : Cx} {W : WX} {k : Nat} {A : Around} {g : Addr} {sp : Sp} {pins : List (Addr × Obj)} {σ : L2.St} {H : Hp} {s : Shared} {Q : VK} {us : List Value} {vs : List V}
theorem run_S (F : FnR X.prog X.w X.K X.mg X.base (L2.CX X.prog X.w) k g sp) (tk : Takes X W) (hr : Room k A) (e0 : Env0 X.prog X.w X.K X.mg X.base A X.stack s H) (I : Inv X pins σ H s) (r : Vals vs us) (h : sp vs H Q (WE W σ)) :
    wpAny (model X.prog X.w) A (call (.ref g) us) (EP X pins σ Q) X.xe s := by
  refine wpAny_call (codeAny_mono (F A X.stack s H us vs Q (WE W σ) hr e0 r h) fun r s' hq => ?_)
  cases r with
  | error e => exact passAt tk σ pins H s e s' I hq
  | ok fl =>
    cases fl with
    | ret u => exact I.after hq
    | next => exact False.elim hq
    | brk => exact False.elim hq
    | cont => exact False.elim hq
end
/-- what stands at the class C by the name m is a def that keeps sp -/
structure FnC (P : Program) (w : World) (K : PySem.W.Frag) (mg : Str → Option Value) (base : Heap) (k : Nat) (C m : Str) (sp : DSp) : Prop where
  at_ : PySem.W.findIn K (.ref (ga K C)) m = some (some (.ref (ma K (ga K C) m)))
  fn : PySem.W.isFn K (.ref (ma K (ga K C) m)) = true
  kp : PySem.W.keepIn K (.ref (ma K (ga K C) m)) = true
  run : FnR P w K mg base (L2.CX P w) k (ma K (ga K C) m) (lsp K sp)
theorem FnC.mono {P : Program} {w : World} {K : PySem.W.Frag} {mg : Str → Option Value} {base : Heap} {j k : Nat} {C m : Str} {sp : DSp} (F : FnC P w K mg base j C m sp) (h : j ≤ k) : FnC P w K mg base k C m sp := ⟨F.at_, F.fn, F.kp, F.run.mono h⟩
theorem _root_.L2.FnOk.fnR {P : Program} {w : World} {K : PySem.W.Frag} {mg : Str → Option Value} {base : Heap} {CX : CXT} {k : Nat} {f : Addr} {fd : FuncData} {ps : List Str} {sp : Sp} (F : FnOk P w K mg base CX k f fd ps sp) (hb : Binds K fd ps []) : FnR P w K mg base CX k f sp := by
  have q := F.raw hb .nil
  simpa using q
theorem FnC.of {P : Program} {w : World} {K : PySem.W.Frag} {mg : Str → Option Value} {base : Heap} {k : Nat} {C m : Str} {fd : FuncData} {ps : List Str} {sp : DSp} (F : FnOk P w K mg base (L2.CX P w) k (ma K (ga K C) m) fd ps (lsp K sp))
    (M : Meth K (ga K C) m (ma K (ga K C) m)) (hb : Binds K fd ps []) : FnC P w K mg base k C m sp := ⟨M.at_, M.fn, M.kp, F.fnR hb⟩
theorem FnC.ofR {P : Program} {w : World} {K : PySem.W.Frag} {mg : Str → Option Value} {base : Heap} {k : Nat} {C m : Str} {sp : DSp} (F : FnR P w K mg base (L2.CX P w) k (ma K (ga K C) m) (lsp K sp))
    (M : Meth K (ga K C) m (ma K (ga K C) m)) : FnC P w K mg base k C m sp := ⟨M.at_, M.fn, M.kp, F⟩
theorem FnC.meth {P : Program} {w : World} {K : PySem.W.Frag} {mg : Str → Option Value} {base : Heap} {k : Nat} {C m : Str} {sp : DSp} (F : FnC P w K mg base k C m sp) : Meth K (ga K C) m (ma K (ga K C) m) := ⟨F.at_, F.fn, F.kp⟩

section
variable {K : PySem.W.Frag} {W : WX} {τ : DSt} {M : Mu} {σ : L2.St} {H : Hp} {E0 : DX} {sp : DSp} {ds : List D} {vs : List V} {G : DK} {Q1 : VK}
theorem Sit.call {α β : Type} {R : Mu → Hp → α → β → Prop} {Q0 : α → Mu → Prop} {Q : β → Hp → Prop} (S : Sit K W R τ M σ H Q0 E0 Q) (r : Reps K M H ds vs) (h : sp ds M G E0)
    (k : ∀ d M1 v H1, G d M1 → Rep K M1 H1 d v → Sit K W R τ M1 σ H1 Q0 E0 Q → Stp M H M1 H1 → Q1 v H1) : lsp K sp vs H Q1 (WE W σ) :=
  ⟨ds, M, G, E0, r, S.co, h, fun d M' v H' g r c s => k d M' v H' g r (S.go c s) s, S.e⟩
theorem SitS.call {D0 : DEnds} {D1 : Ends} (S : SitS K W τ M σ H D0 D1) (r : Reps K M H ds vs) (h : sp ds M G (D0.ex τ))
    (k : ∀ d M1 v H1, G d M1 → Rep K M1 H1 d v → SitS K W τ M1 σ H1 D0 D1 → Stp M H M1 H1 → Q1 v H1) : lsp K sp vs H Q1 (WE W σ) :=
  ⟨ds, M, G, D0.ex τ, r, S.co, h, fun d M' v H' g r c s => k d M' v H' g r (S.go (S.rs.stp s) c s) s, fun x M' c d H' h r c' s => S.xc x τ M' c d σ H' h r (S.rs.stp s) c' s⟩
theorem SitG.call {Q0 : DSt → Mu → Prop} {Q : L2.St → Hp → Prop} (S : SitG K W τ M σ H Q0 E0 Q) (r : Reps K M H ds vs) (h : sp ds M G E0)
    (k : ∀ d M1 v H1, G d M1 → Rep K M1 H1 d v → SitG K W τ M1 σ H1 Q0 E0 Q → Stp M H M1 H1 → Q1 v H1) : lsp K sp vs H Q1 (WE W σ) :=
  ⟨ds, M, G, E0, r, S.co, h, fun d M' v H' g r c s => k d M' v H' g r ⟨S.rs.stp s, c, fun a b c d h r' c' s' => S.q a b c d h r' c' (s.trans s'), fun x M' c d H' h r c' s' => S.e x M' c d H' h r c' (s.trans s')⟩ s, S.e⟩
theorem mu_ins {a : Addr} {C : Str} {fs : List (Str × D)} (c : Cor K M H) (e : M a = some (.ins C fs)) : ∃ dx gs, H a = some (.ins (ga K C) dx gs) ∧ gs.map (·.1) = fs.map (·.1) ∧ Reps K M H (fs.map (·.2)) (gs.map (·.2)) := by
  obtain ⟨o, h1, dx, gs, rfl, h2, h3⟩ := c a _ e
  exact ⟨dx, gs, h1, h2, h3⟩
end
/-! fields by names -/
def putG {α : Type} (f : Str) (x : α) : List (Str × α) → List (Str × α)
  | [] => [(f, x)]
  | (g, y) :: r => if g = f then (g, x) :: r else (g, y) :: putG f x r
theorem putG_F (f : Str) (v : V) : ∀ fs : List (Str × V), putG f v fs = putF f v fs
  | [] => rfl
  | (g, x) :: r => by
    unfold putG putF
    rw [putG_F f v r]
section
variable {K : PySem.W.Frag} {M : Mu} {H : Hp}
theorem fld_get {f : Str} : ∀ {fs : List (Str × D)} {gs : List (Str × V)} {d : D}, gs.map (·.1) = fs.map (·.1) → Reps K M H (fs.map (·.2)) (gs.map (·.2)) → fs.lookup f = some d → ∃ v, gs.lookup f = some v ∧ Rep K M H d v
  | [], _, _, _, _, e => by cases e
  | (g, x) :: r, [], _, h, _, _ => by cases h
  | (g, x) :: r, (g', y) :: r', d, h, hr, e => by
    obtain ⟨h1, h2⟩ := List.cons.inj h
    have h1 : g' = g := h1
    subst h1
    obtain ⟨v, u, e1, r1, r2⟩ := hr.uncons
    obtain ⟨e2, e3⟩ := List.cons.inj e1
    subst e2 e3
    rw [List.lookup_cons] at e ⊢
    cases q : (f == g') with
    | true =>
      rw [q] at e
      cases e
      exact ⟨_, rfl, r1⟩
    | false =>
      rw [q] at e
      exact fld_get h2 r2 e
theorem fld_put {f : Str} {d : D} {v : V} (rd : Rep K M H d v) : ∀ {fs : List (Str × D)} {gs : List (Str × V)}, gs.map (·.1) = fs.map (·.1) → Reps K M H (fs.map (·.2)) (gs.map (·.2)) →
    (putF f v gs).map (·.1) = (putG f d fs).map (·.1) ∧ Reps K M H ((putG f d fs).map (·.2)) ((putF f v gs).map (·.2))
  | [], [], _, _ => ⟨rfl, .cons rd .nil⟩
  | [], _ :: _, h, _ => by cases h
  | _ :: _, [], h, _ => by cases h
  | (g, x) :: r, (g', y) :: r', h, hr => by
    obtain ⟨h1, h2⟩ := List.cons.inj h
    have h1 : g' = g := h1
    subst h1
    obtain ⟨w, u, e1, r1, r2⟩ := hr.uncons
    obtain ⟨e2, e3⟩ := List.cons.inj e1
    subst e2 e3
    unfold putF putG
    by_cases q : g' = f
    · rw [if_pos q, if_pos q]
      exact ⟨congrArg (g' :: ·) h2, .cons rd r2⟩
    · rw [if_neg q, if_neg q]
      obtain ⟨i1, i2⟩ := fld_put rd h2 r2
      exact ⟨congrArg (g' :: ·) i1, .cons r1 i2⟩
end

/-! ### readings -/
def dFld (C f : Str) (te : DTE) : DTE := fun τ M Q E => te τ M (fun d M1 => match d with
  | .ref a => (match M1 a with
    | some (.ins c fs) => c = C ∧ (match fs.lookup f with
      | some x => Q x M1
      | none => False)
    | _ => False)
  | _ => False) E
def dSetF (C f : Str) (to tv : DTE) : DTS := fun D0 τ M => tv τ M (fun y M1 => to τ M1 (fun d M2 => match d with
  | .ref a => (match M2 a with
    | some (.ins c fs) => c = C ∧ fs.length < 1000 ∧ D0.nx τ (put M2 a (.ins C (putG f y fs)))
    | _ => False)
  | _ => False) (D0.ex τ)) (D0.ex τ)
def dMake (C : Str) (sp : DSp) (ta : DTA) : DTE := fun τ M Q E => ta τ M (fun ds M1 => ∀ p, M1 p = none → sp (.ref p :: ds) (put M1 p (.ins C [])) (fun d M2 => d = .non ∧ Q (.ref p) M2) E) E
/-- the instance of C that is meant -/
def isIns (C : Str) (M : Mu) (d : D) : Prop := match d with
  | .ref a => (match M a with
    | some (.ins c _) => c = C
    | _ => False)
  | _ => False
/-- an operator, a method by its def: x is an instance of C -/
def dMet (C : Str) (sp : DSp) (to : DTE) (ta : DTA) : DTE := fun τ M Q E => to τ M (fun x M1 => ta τ M1 (fun ds M2 => isIns C M2 x ∧ sp (x :: ds) M2 Q E) E) E
/-- x op y by x's class | y's class -/
def dBinL (C : Str) (sp : DSp) (ta tb : DTE) : DTE := fun τ M Q E => ta τ M (fun x M1 => tb τ M1 (fun y M2 => isIns C M2 x ∧ ((∃ z, y = .str z) ∨ isIns C M2 y) ∧ sp [x, y] M2 Q E) E) E
def dBinR (C : Str) (sp : DSp) (ta tb : DTE) : DTE := fun τ M Q E => ta τ M (fun x M1 => tb τ M1 (fun y M2 => (∃ z, x = .str z) ∧ isIns C M2 y ∧ sp [y, x] M2 Q E) E) E
/-- y in x -/
def dInO (C : Str) (sp : DSp) (ta tb : DTE) : DTE := fun τ M Q E => ta τ M (fun y M1 => tb τ M1 (fun x M2 => isIns C M2 x ∧ sp [x, y] M2 (fun r M3 => match r with
  | .bl b => Q (.bl b) M3
  | _ => False) E) E) E
/-- x[y] -/
def dGetO (C : Str) (sp : DSp) (ta tb : DTE) : DTE := fun τ M Q E => ta τ M (fun x M1 => tb τ M1 (fun y M2 => isIns C M2 x ∧ sp [x, y] M2 Q E) E) E
/-- x[y] = v -/
def dgSetO (C : Str) (sp : DSp) (to ti : DTE) : DTG := fun d τ M Q E => to τ M (fun x M1 => ti τ M1 (fun y M2 => isIns C M2 x ∧ sp [x, y, d] M2 (fun _ M3 => Q τ M3) E) E) E
/-- x op= e, x a name -/
def dAugO (C : Str) (sp : DSp) (i : Nat) (te : DTE) : DTS := fun D0 τ M => match τ[i]? with
  | some (some x) => te τ M (fun y M1 => isIns C M1 x ∧ sp [x, y] M1 (fun r M2 => D0.nx (τ.set i (some r)) M2) (D0.ex τ)) (D0.ex τ)
  | _ => False
def dProp (C : Str) (sp : DSp) (te : DTE) : DTE := fun τ M Q E => te τ M (fun d M1 => isIns C M1 d ∧ sp [d] M1 Q E) E
/-- a field that is a list: what len, list and a walk over the object ask -/
def onRows (C f : Str) (M : Mu) (d : D) (K : List D → Prop) : Prop := match d with
  | .ref a => (match M a with
    | some (.ins c fs) => c = C ∧ (match fs.lookup f with
      | some (.lst ds) => K ds
      | _ => False)
    | _ => False)
  | _ => False
def gLenO (C f : Str) : DCb := fun xs M Q => match xs with
  | [d] => onRows C f M d fun ds => Q (.int ds.length) M
  | _ => False
def gListO (C f : Str) : DCb := fun xs M Q => match xs with
  | [d] => onRows C f M d fun ds => Q (.lst ds) M
  | _ => False
def gListOM (C f : Str) : DCb := fun xs M Q => match xs with
  | [d] => onRows C f M d fun ds => ∀ p, M p = none → Q (.ref p) (put M p (.lst ds))
  | _ => False
theorem isIns_at {C : Str} {K : PySem.W.Frag} {M : Mu} {H : Hp} {x : D} {v : V} (h : isIns C M x) (r : Rep K M H x v) (c : Cor K M H) : ∃ a fs dx gs, x = .ref a ∧ v = .ref a ∧ M a = some (.ins C fs) ∧ H a = some (.ins (ga K C) dx gs) ∧ gs.map (·.1) = fs.map (·.1) := by
  cases x with
  | ref a =>
    cases r
    have h2 : (match M a with
      | some (.ins c _) => c = C
      | _ => False) := h
    cases e : M a with
    | none => rw [e] at h2; exact h2.elim
    | some mo =>
      rw [e] at h2
      cases mo with
      | ins c' fs =>
        cases h2
        obtain ⟨dx, gs, h1, h3, _⟩ := mu_ins c e
        exact ⟨a, fs, dx, gs, rfl, rfl, e, h1, h3⟩
      | _ => exact h2.elim
  | _ => exact h.elim
theorem onRows_at {C f : Str} {K : PySem.W.Frag} {M : Mu} {H : Hp} {x : D} {v : V} {L : List D → Prop} (h : onRows C f M x L) (r : Rep K M H x v) (c : Cor K M H) :
    ∃ a dx gs l ds vs, v = .ref a ∧ H a = some (.ins (ga K C) dx gs) ∧ gs.lookup f = some (.ref l) ∧ H l = some (.lst vs) ∧ M l = none ∧ Reps K M H ds vs ∧ L ds := by
  cases x with
  | ref a =>
    cases r
    have h2 : (match M a with
      | some (.ins c fs) => c = C ∧ (match fs.lookup f with
        | some (.lst ds) => L ds
        | _ => False)
      | _ => False) := h
    cases e : M a with
    | none => rw [e] at h2; exact h2.elim
    | some mo =>
      rw [e] at h2
      cases mo with
      | ins c' fs =>
        obtain ⟨h3, h4⟩ := h2
        subst h3
        obtain ⟨dx, gs, h1, h3, h5⟩ := mu_ins c e
        cases q : fs.lookup f with
        | none => rw [q] at h4; exact h4.elim
        | some d =>
          rw [q] at h4
          cases d with
          | lst ds =>
            obtain ⟨v, h6, h7⟩ := fld_get h3 h5 q
            obtain ⟨l, vs, rfl, h8, h9, h10⟩ := rep_of_lst h7
            exact ⟨a, dx, gs, l, ds, vs, rfl, h1, h6, h8, h9, h10, h4⟩
          | _ => exact h4.elim
      | _ => exact h2.elim
  | _ => exact h.elim
end DL

namespace DL
open PySem L2 He
abbrev FC (X : Cx) (k : Nat) (C m : Str) (sp : DSp) : Prop := FnC X.prog X.w X.K X.mg X.base k C m sp
section
variable {X : Cx} {W : WX} {a b e o i : Expr} {es : List Expr} {ta tb te to tv ti : DTE} {tl : DTA} {C f m x : Str} {sp : DSp} {k : Nat} {pos pos' apos p p2 : Pos}
/-- the class as a value -/
theorem de_cls (hm : X.mg C = some (.ref (ga X.K C))) (hg : Gl X C := by rfl) (hd : (C == ("__debug__" : Str)) = false := by decide) : DE X W (.Name C pos) (dC (.cl C)) :=
  de_glob (v := .ref (ga X.K C)) hg hm rfl (fun M H => rfl) hd
/-! ### fields -/
theorem de_fld (c : Cls X.K (ga X.K C)) (n : NoAttr X.K (ga X.K C) f) (he : DE X W e te) (hb : attributeBase e f X.env (eval e X.env) = eval e X.env := by rfl) : DE X W (.Attribute e f pos) (dFld C f te) :=
  PE.of (pe_fld he hb) fun σ H Q ⟨τ, M, Q0, E0, S, h⟩ => S.sub h fun d M1 v H1 h1 r1 S1 s1 => by
    cases d with
    | ref a =>
      cases r1
      have h2 : (match M1 a with
        | some (.ins c fs) => c = C ∧ (match fs.lookup f with
          | some x => Q0 x M1
          | none => False)
        | _ => False) := h1
      cases q : M1 a with
      | none => rw [q] at h2; exact h2.elim
      | some mo =>
        rw [q] at h2
        cases mo with
        | ins c' fs =>
          obtain ⟨h3, h4⟩ := h2
          subst h3
          obtain ⟨dx, gs, g1, g2, g3⟩ := mu_ins S1.co q
          cases e1 : fs.lookup f with
          | none => rw [e1] at h4; exact h4.elim
          | some y =>
            rw [e1] at h4
            obtain ⟨v, g4, g5⟩ := fld_get g2 g3 e1
            exact ⟨a, _, dx, gs, v, rfl, g1, c, n, g4, S1.end_ h4 g5⟩
        | _ => exact h2.elim
    | _ => exact h1.elim
theorem ds_setF (c : Cls X.K (ga X.K C)) (n : NoAttr X.K (ga X.K C) f) (ho : DE X W o to) (hv : DE X W e tv) (hs : swapsWith e (some (.Attribute o f pos')) pos.line X.env = pure false := by rfl) : DS X W (.Assign [.Attribute o f pos'] e pos) (dSetF C f to tv) :=
  PS.of (ps_fld ho hv hs) fun D1 σ H ⟨τ, M, D0, S, h⟩ => S.sub h fun y M1 v1 H1 h1 r1 S1 s1 => S1.sub h1 fun d M2 v2 H2 h2 r2 S2 s2 => by
    cases d with
    | ref a =>
      cases r2
      have h3 : (match M2 a with
        | some (.ins c fs) => c = C ∧ fs.length < 1000 ∧ D0.nx τ (put M2 a (.ins C (putG f y fs)))
        | _ => False) := h2
      cases q : M2 a with
      | none => rw [q] at h3; exact h3.elim
      | some mo =>
        rw [q] at h3
        cases mo with
        | ins c' fs =>
          obtain ⟨h4, h5, h6⟩ := h3
          subst h4
          obtain ⟨dx, gs, g1, g2, g3⟩ := mu_ins S2.co q
          obtain ⟨p1, p3⟩ := fld_put (f := f) (r1.stp s2) g2 g3
          have hl := congrArg List.length g2
          rw [List.length_map, List.length_map] at hl
          have st : Stp M2 H2 (put M2 a (.ins c' (putG f y fs))) (upd H2 a (.ins (ga X.K c') dx (putF f v1 gs))) := Stp.write q
          exact ⟨a, _, dx, gs, rfl, g1, c, n, by rw [hl]; exact h5, S2.nx τ _ σ _ h6 (S2.rs.stp st) (S2.co.write q ⟨dx, _, rfl, p1, p3⟩) st⟩
        | _ => exact h3.elim
    | _ => exact h2.elim

/-! ### C(..) -/
theorem run_makeS {pins : List (Addr × Obj)} {σ : L2.St} {H : Hp} {s : Shared} {Q : VK} {us : List Value} {vs : List V} {Ca fa : Addr} {spv : Sp} (M : Mk X.K Ca fa) (F : FnR X.prog X.w X.K X.mg X.base (L2.CX X.prog X.w) k fa spv) (tk : Takes X W) (hr : Room (k + 1) X.A) (I : Inv X pins σ H s) (r : Vals vs us)
    (h : ∀ x dx, H x = Option.none → H dx = Option.none → dx ≠ x → spv (V.ref x :: vs) (upd (upd H dx (.own x)) x (.ins Ca dx [])) (fun v H2 => v = .non ∧ Q (.ref x) H2) (WE W σ)) :
    wpAny (model X.prog X.w) X.A (call (.ref Ca) us) (EP X pins σ Q) X.xe s := by
  have hq := h (s.heap.objs.size + 1) s.heap.objs.size (I.hok.fresh (Nat.le_succ _)) (I.hok.fresh (Nat.le_refl _)) (Nat.ne_of_lt (Nat.lt_succ_self _))
  have I2 := Inv.made (C := Ca) I
  have r2 : Vals (V.ref (s.heap.objs.size + 1) :: vs) (Value.ref (s.heap.objs.size + 1) :: us) := .cons rfl r
  refine wpAny_call (make_map (f := fa) I.kIn M.makes M.init (beq_iff_eq.mp M.fn) (codeAny_mono (F _ X.stack _ _ (Value.ref (s.heap.objs.size + 1) :: us) _ _ (WE W σ) (hr.make Ca us []) (I2.env0.make Ca us []) r2 hq) fun r s' hq' => ?_))
  cases r with
  | error e => exact passAt tk σ pins _ _ e s' I2 hq'
  | ok fl =>
    cases fl with
    | ret u =>
      obtain ⟨v, H', I3, rv, ev, q3⟩ := I2.after hq'
      subst ev
      exact ⟨rv, ⟨V.ref (s.heap.objs.size + 1), H', I3, rfl, q3⟩⟩
    | next => exact False.elim hq'
    | brk => exact False.elim hq'
    | cont => exact False.elim hq'
theorem make_of {τ : DSt} {M : Mu} {σ : L2.St} {H : Hp} {Q0 : DK} {E0 : DX} {Q : VK} {ds : List D} {vs : List V} (S : Sit X.K W (RD X.K) τ M σ H Q0 E0 Q) (r : Reps X.K M H ds vs)
    (h : ∀ p, M p = none → sp (.ref p :: ds) (put M p (.ins C [])) (fun d M2 => d = .non ∧ Q0 (.ref p) M2) E0) (x dx : Addr) (hx : H x = none) (hd : H dx = none) (hn : dx ≠ x) :
    lsp X.K sp (V.ref x :: vs) (upd (upd H dx (.own x)) x (.ins (ga X.K C) dx [])) (fun v H2 => v = .non ∧ Q (.ref x) H2) (WE W σ) := by
  have s1 : Stp M H M (upd H dx (.own x)) := Stp.new hd
  have hx' : upd H dx (.own x) x = none := by rw [upd_ne (Ne.symm hn)]; exact hx
  have s2 : Stp M (upd H dx (.own x)) (put M x (.ins C [])) (upd (upd H dx (.own x)) x (.ins (ga X.K C) dx [])) := Stp.newM hx'
  have st := s1.trans s2
  exact ⟨.ref x :: ds, _, _, E0, .cons rfl (r.stp st), (S.co.new hd).newM hx' ⟨dx, [], rfl, rfl, .nil⟩, h x (S.co.free hx),
    fun d M' v H' q r c s' => by obtain ⟨rfl, q⟩ := q; exact ⟨r, S.q _ M' _ H' q rfl c (st.trans s')⟩, fun y M' c d H' q r c' s' => S.e y M' c d H' q r c' (st.trans s')⟩
theorem de_make (F : FC X k C "__init__" sp) (M : Mk X.K (ga X.K C) (ma X.K (ga X.K C) "__init__")) (G : Gd X W) (hm : X.mg C = some (.ref (ga X.K C))) (hr : Room (k + 1) X.A) (ha : DA X W (e :: es) tl) (hg : Gl X C := by rfl) (hdb : (C == ("__debug__" : Str)) = false := by decide)
    (he : starEach (e :: es) X.env = (false, eval e X.env) :: starEach es X.env := by rfl) (hpl : (backTo pos (starEach es X.env)).any (·.1) = false := by rfl) : DE X W (.Call (.Name C p) (e :: es) [] pos) (dMake C sp tl) := by
  refine ⟨fun pins s σ H Q I h => ?_⟩
  refine wpAny_Call_Name_kw (ld_glob I hg hm ?_ hdb)
  obtain ⟨τ, M0, Q0, E0, S, h⟩ := h
  refine PySem.W.callWith_K (h₀ := X.base) I.ok.mod.kin M.kp (thn (ha.run pos pins s σ H _ I (S.sub (Q1 := fun vs H1 => ∀ x dx, H1 x = none → H1 dx = none → dx ≠ x → lsp X.K sp (V.ref x :: vs) (upd (upd H1 dx (.own x)) x (.ins (ga X.K C) dx [])) (fun v H2 => v = .non ∧ Q (.ref x) H2) (WE W σ)) h
    fun ds M1 vs H1 h1 r1 S1 s1 => make_of S1 r1 h1)) fun us s1 ⟨vs, H1, I1, r, q⟩ => ⟨I1.kIn, ?_⟩) he hpl
  exact run_makeS M F.run G.tk hr I1 r q
theorem de_make0 (F : FC X k C "__init__" sp) (M : Mk X.K (ga X.K C) (ma X.K (ga X.K C) "__init__")) (G : Gd X W) (hm : X.mg C = some (.ref (ga X.K C))) (hr : Room (k + 1) X.A) (hg : Gl X C := by rfl) (hdb : (C == ("__debug__" : Str)) = false := by decide) :
    DE X W (.Call (.Name C p) [] [] pos) (dMake C sp daNil) := by
  refine ⟨fun pins s σ H Q I h => ?_⟩
  refine wpAny_Call_Name_kw (ld_glob I hg hm ?_ hdb)
  obtain ⟨τ, M0, Q0, E0, S, h⟩ := h
  exact PySem.W.callWith_K0 I.kIn M.kp (run_makeS (us := []) M F.run G.tk hr I .nil (make_of S .nil h))
def starP (M : Mu) (L : List D → Prop) : D → Prop
  | .lst xs => L xs
  | .tup xs => L xs
  | .ref a => (match M a with
    | some (.lst xs) => L xs
    | _ => False)
  | _ => False
theorem star_D {K : PySem.W.Frag} {M : Mu} {H : Hp} {d : D} {v : V} {L : List D → Prop} (r : Rep K M H d v) (c : Cor K M H) (h : starP M L d) : ∃ a ds vs, v = .ref a ∧ (SqT K H a vs ∨ SqL K H a vs) ∧ Reps K M H ds vs ∧ L ds := by
  cases d with
  | lst ds =>
    obtain ⟨a, vs, rfl, ha, _, ra⟩ := rep_of_lst r
    exact ⟨a, ds, vs, rfl, .inr (.inl (.inl ha)), ra, h⟩
  | tup ds =>
    obtain ⟨a, vs, rfl, ha, ra⟩ := rep_of_tup r
    exact ⟨a, ds, vs, rfl, .inl (sqT_of ha), ra, h⟩
  | ref a =>
    cases r
    have h2 : (match M a with
      | some (.lst xs) => L xs
      | _ => False) := h
    cases e : M a with
    | none => rw [e] at h2; exact h2.elim
    | some mo =>
      rw [e] at h2
      cases mo with
      | lst ds =>
        obtain ⟨vs, ha, ra⟩ := mu_lst c e
        exact ⟨a, ds, vs, rfl, .inr (.inl (.inl ha)), ra, h2⟩
      | _ => exact h2.elim
  | _ => exact h.elim
theorem de_makeS (F : FC X k C "__init__" sp) (M : Mk X.K (ga X.K C) (ma X.K (ga X.K C) "__init__")) (G : Gd X W) (hm : X.mg C = some (.ref (ga X.K C))) (hr : Room (k + 1) X.A) (he : DE X W e te) (hg : Gl X C := by rfl) (hdb : (C == ("__debug__" : Str)) = false := by decide)
    (hst : starEach [.Starred e p2] X.env = [(true, eval e X.env)] := by rfl) : DE X W (.Call (.Name C p) [.Starred e p2] [] pos) (dMake C sp (dStar te daNil)) := by
  refine ⟨fun pins s σ H Q I h => ?_⟩
  refine wpAny_Call_Name_kw (ld_glob I hg hm ?_ hdb)
  obtain ⟨τ, M0, Q0, E0, S, h⟩ := h
  refine PySem.W.callWith_S (h₀ := X.base) I.ok.mod.kin M.kp (thn (he.run pins s σ H _ I (S.sub (Q1 := fun y H1 => ∃ a xs, y = V.ref a ∧ (SqT X.K H1 a xs ∨ SqL X.K H1 a xs) ∧ ∀ x dx, H1 x = none → H1 dx = none → dx ≠ x → lsp X.K sp (V.ref x :: xs) (upd (upd H1 dx (.own x)) x (.ins (ga X.K C) dx [])) (fun v H2 => v = .non ∧ Q (.ref x) H2) (WE W σ)) h
    fun d M1 v H1 h1 r1 S1 s1 => ?_)) fun v s1 ⟨y, H1, I1, ry, a, xs, ey, hxs, q⟩ => ?_) hst
  · obtain ⟨a, ds, vs, e1, e2, e3, e4⟩ := star_D (L := fun xs => ∀ p, M1 p = none → sp (.ref p :: (xs ++ [])) (put M1 p (.ins C [])) (fun d M2 => d = .non ∧ Q0 (.ref p) M2) E0) r1 S1.co (by cases d <;> exact h1)
    exact ⟨a, vs, e1, e2, make_of S1 e3 (fun p hp => by have := e4 p hp; rwa [List.append_nil] at this)⟩
  · subst ey
    obtain rfl : v = Value.ref a := ry
    exact StX.star_any I1 hxs fun us s2 I2 rv => ⟨I2.kIn, run_makeS M F.run G.tk hr I2 rv q⟩
end
end DL

namespace DL
open PySem L2 He
section
variable {X : Cx} {W : WX} {a b e o i : Expr} {es : List Expr} {ta tb te to tv ti : DTE} {tl : DTA} {C f m x : Str} {sp : DSp} {k : Nat} {pos pos' apos p p2 : Pos}
/-- a class in which subscripts are no sequence's -/
abbrev NoSq (K : PySem.W.Frag) (C : Str) : Prop := PySem.W.noSeq K (ga K C) = true
/-- one call of a method, from values -/
theorem run_C {pins : List (Addr × Obj)} {σ : L2.St} {H : Hp} {s : Shared} {Q : VK} {us : List Value} {vs : List V} {A : Around} (F : FC X k C m sp) (G : Gd X W) (hr : Room k A) (e0 : Env0 X.prog X.w X.K X.mg X.base A X.stack s H) (I : Inv X pins σ H s) (r : Vals vs us)
    (h : lsp X.K sp vs H Q (WE W σ)) : wpAny (model X.prog X.w) A (call (.ref (ma X.K (ga X.K C) m)) us) (EP X pins σ Q) X.xe s := run_S F.run G.tk hr e0 I r h
/-- v in o -/
theorem in_O {pins : List (Addr × Obj)} {τ : DSt} {M : Mu} {σ : L2.St} {H : Hp} {s : Shared} {Q0 : DK} {E0 : DX} {Q : VK} {x y : D} {v u : V} {vv uu : Value} (F : FC X k C "__contains__" sp) (G : Gd X W) (hr : Room k X.A) (I : Inv X pins σ H s)
    (S : Sit X.K W (RD X.K) τ M σ H Q0 E0 Q) (rx : Rep X.K M H x v) (ry : Rep X.K M H y u) (r1 : RelV v vv) (r2 : RelV u uu) (h : isIns C M x ∧ sp [x, y] M (fun r M3 => match r with
      | .bl b => Q0 (.bl b) M3
      | _ => False) E0) : wpAny (model X.prog X.w) X.A (compareOp .In uu vv) (EP X pins σ Q) X.xe s := by
  obtain ⟨a, fs, dx, gs, rfl, rfl, hM, hH, _⟩ := isIns_at h.1 rx S.co
  cases r1
  obtain ⟨mA, O, _⟩ := ins_get I.hok hH
  obtain ⟨od, J, _⟩ := O.look
  obtain ⟨m0, hF⟩ := I.fr
  refine PySem.W.in_K hF I.ok.mod.kin J F.at_ F.fn ?_
  refine thn (run_C (us := [.ref a, uu]) (vs := [.ref a, u]) F G hr I.env0 I (.cons rfl (.cons r2 .nil)) (S.call (Q1 := fun z H' => ∃ b, z = .bl b ∧ Q (.bl b) H') (.cons rx (.cons ry .nil)) h.2 fun d M1 z H1 h1 r S1 s1 => ?_)) fun w s1 ⟨z, H1, I1, rz, b, ez, q⟩ => ?_
  · cases d with
    | bl b => exact ⟨b, r, S1.end_ h1 rfl⟩
    | _ => exact h1.elim
  · subst ez
    cases rz
    exact wpAny_truthy_bool ⟨.bl b, H1, I1, rfl, q⟩
theorem de_inO (F : FC X k C "__contains__" sp) (G : Gd X W) (hr : Room k X.A) (ha : DE X W a ta) (hb : DE X W b tb) (hm : behindInMarks .In b = false) : DE X W (.Compare a [.In] [b] pos) (dInO C sp ta tb) :=
  ⟨fun pins s σ H Q I ⟨τ, M, Q0, E0, S, h⟩ => wpAny_Compare1 (thn (ha.run pins s σ H _ I (S.sub (Q1 := fun u H1 => ∃ y M1, Rep X.K M1 H1 y u ∧ Sit X.K W (RD X.K) τ M1 σ H1 Q0 E0 Q ∧ tb τ M1 (fun x M2 => isIns C M2 x ∧ sp [x, y] M2 (fun r M3 => match r with
      | .bl b => Q0 (.bl b) M3
      | _ => False) E0) E0) h fun d M1 v H1 h1 r1 S1 s1 => ⟨d, M1, r1, S1, h1⟩)) fun u s1 ⟨uv, H1, I1, ru, y, M1, ry, S1, h1⟩ =>
    thn (hb.run pins s1 σ H1 _ I1 (S1.sub (Q1 := fun v H2 => ∃ x M2, Rep X.K M2 H2 x v ∧ Rep X.K M2 H2 y uv ∧ Sit X.K W (RD X.K) τ M2 σ H2 Q0 E0 Q ∧ isIns C M2 x ∧ sp [x, y] M2 (fun r M3 => match r with
      | .bl b => Q0 (.bl b) M3
      | _ => False) E0) h1 fun d M2 v H2 h2 r2 S2 s2 => ⟨d, M2, r2, ry.stp s2, S2, h2⟩)) fun w s2 ⟨vv, H2, I2, rv, x, M2, rx, ry2, S2, h2⟩ => in_O F G hr I2 S2 rx ry2 rv ru h2) hm⟩
theorem dt_inO (F : FC X k C "__contains__" sp) (G : Gd X W) (hr : Room k X.A) (ha : DE X W a ta) (hb : DE X W b tb) (hm : behindInMarks .In b = false) : DT X W (.Compare a [.In] [b] pos) (dTest (dInO C sp ta tb)) :=
  ⟨fun pins s σ H Q I h0 => by
    obtain ⟨τ, M, Q0, E0, S, h⟩ := lif_test h0
    refine wpAny_isTrue_Compare1 (thn (ha.run pins s σ H _ I (S.sub (Q1 := fun u H1 => ∃ y M1, Rep X.K M1 H1 y u ∧ Sit X.K W (RD X.K) τ M1 σ H1 Q0 E0 _ ∧ tb τ M1 (fun x M2 => isIns C M2 x ∧ sp [x, y] M2 (fun r M3 => match r with
        | .bl b => Q0 (.bl b) M3
        | _ => False) E0) E0) h fun d M1 v H1 h1 r1 S1 s1 => ⟨d, M1, r1, S1, h1⟩)) fun u s1 ⟨uv, H1, I1, ru, y, M1, ry, S1, h1⟩ =>
      thn (hb.run pins s1 σ H1 _ I1 (S1.sub (Q1 := fun v H2 => ∃ x M2, Rep X.K M2 H2 x v ∧ Rep X.K M2 H2 y uv ∧ Sit X.K W (RD X.K) τ M2 σ H2 Q0 E0 _ ∧ isIns C M2 x ∧ sp [x, y] M2 (fun r M3 => match r with
        | .bl b => Q0 (.bl b) M3
        | _ => False) E0) h1 fun d M2 v H2 h2 r2 S2 s2 => ⟨d, M2, r2, ry.stp s2, S2, h2⟩)) fun w s2 ⟨vv, H2, I2, rv, x, M2, rx, ry2, S2, h2⟩ => thn (in_O F G hr I2 S2 rx ry2 rv ru h2) fun c s3 ⟨z, H3, I3, r3, kk, ez, q3⟩ => ?_) hm
    subst ez
    cases r3
    exact wpAny_truthy_bool ⟨H3, I3, q3⟩⟩
end
end DL

namespace DL
open PySem L2 He
section
variable {X : Cx} {W : WX} {a b e o i : Expr} {es : List Expr} {ta tb te to tv ti : DTE} {tl : DTA} {C f m x : Str} {sp : DSp} {k : Nat} {pos pos' apos p p2 : Pos}
/-- o[i] -/
theorem de_getO (F : FC X k C "__getitem__" sp) (hf : PySem.W.fnIn X.K (ma X.K (ga X.K C) "__getitem__") = true) (G : Gd X W) (hr : Room (k + 1) X.A) (ha : DE X W a ta) (hb : DE X W b tb)
    (hsl : ∀ o i, subscripted b true o i = runValue (.builtin "lifetime.subscript" ⟨[o, i], []⟩) := by intro _ _; with_unfolding_all rfl) : DE X W (.Subscript a b pos) (dGetO C sp ta tb) :=
  ⟨fun pins s σ H Q I ⟨τ, M, Q0, E0, S, h⟩ => PyProof.Rows.Subscript_ (thn (ha.run pins s σ H _ I (S.sub (Q1 := fun u H1 => ∃ y M1, Rep X.K M1 H1 y u ∧ Sit X.K W (RD X.K) τ M1 σ H1 Q0 E0 Q ∧ tb τ M1 (fun x M2 => isIns C M2 y ∧ sp [y, x] M2 Q0 E0) E0) h fun d M1 v H1 h1 r1 S1 s1 => ⟨d, M1, r1, S1, h1⟩)) fun u s1 ⟨uv, H1, I1, ru, y, M1, ry, S1, h1⟩ =>
    thn (hb.run pins s1 σ H1 _ I1 (S1.sub (Q1 := fun v H2 => ∃ x M2, Rep X.K M2 H2 x v ∧ Rep X.K M2 H2 y uv ∧ Sit X.K W (RD X.K) τ M2 σ H2 Q0 E0 Q ∧ isIns C M2 y ∧ sp [y, x] M2 Q0 E0) h1 fun d M2 v H2 h2 r2 S2 s2 => ⟨d, M2, r2, ry.stp s2, S2, h2⟩)) fun w s2 ⟨vv, H2, I2, rv, x, M2, rx, ry2, S2, h2⟩ => by
      obtain ⟨a, fs, dx, gs, rfl, rfl, hM, hH, _⟩ := isIns_at h2.1 ry2 S2.co
      cases ru
      obtain ⟨mA, O, _⟩ := ins_get I2.hok hH
      obtain ⟨od, J, _⟩ := O.look
      obtain ⟨m0, hF⟩ := I2.fr
      refine PySem.W.sub_K hF I2.ok.mod.kin J F.at_ hf F.fn ?_ (hsl _ _)
      exact run_C (us := [.ref a, w]) (vs := [.ref a, vv]) F G hr.in1 I2.env0.in1 I2 (.cons rfl (.cons rv .nil)) (S2.call (.cons ry2 (.cons rx .nil)) h2.2 fun d M1 z H1 h1 r S1 s1 => S1.end_ h1 r))⟩
/-- o[i] = v -/
theorem dg_setO (F : FC X k C "__setitem__" sp) (nq : NoSq X.K C) (G : Gd X W) (hr : Room k X.A) (ho : DE X W o to) (hi : DE X W i ti) (ha : ∀ v, assign (.Subscript o i pos) X.env v = (do
      let ov ← holding [v] (eval o X.env)
      let iv ← holding [v, ov] (eval i X.env)
      standAt pos
      holding [v, ov, iv] (setItem ov iv v)
      release [v, ov, iv] []) := by intro _; rfl) : DG X W (.Subscript o i pos) (dgSetO C sp to ti) := by
  refine ⟨fun pins s σ H v u Q I r h => ?_⟩
  obtain ⟨d, τ, M, Q0, E0, rd, S, h⟩ := h
  rw [ha]
  refine wpAny_bind (wpAny_holding (thn (ho.run pins s σ H _ I (S.sub (Q1 := fun z H1 => ∃ x M1, Rep X.K M1 H1 x z ∧ Rep X.K M1 H1 d v ∧ SitG X.K W τ M1 σ H1 Q0 E0 Q ∧ ti τ M1 (fun y M2 => isIns C M2 x ∧ sp [x, y, d] M2 (fun _ M3 => Q0 τ M3) E0) E0) h
    fun x M1 z H1 h1 r1 S1 s1 => ⟨x, M1, r1, rd.stp s1, S1, h1⟩)) fun ov s1 ⟨x1, H1, I1, r1, x, M1, rx, rd1, S1, h1⟩ => ?_))
  refine wpAny_bind (wpAny_holding (thn (hi.run pins s1 σ H1 _ I1 (S1.sub (Q1 := fun z H2 => ∃ y M2, Rep X.K M2 H2 y z ∧ Rep X.K M2 H2 x x1 ∧ Rep X.K M2 H2 d v ∧ SitG X.K W τ M2 σ H2 Q0 E0 Q ∧ isIns C M2 x ∧ sp [x, y, d] M2 (fun _ M3 => Q0 τ M3) E0) h1
    fun y M2 z H2 h2 r2 S2 s2 => ⟨y, M2, r2, rx.stp s2, rd1.stp s2, S2, h2⟩)) fun iv s2 ⟨y1, H2, I2, r2, y, M2, ry, rx2, rd2, S2, h2⟩ => ?_))
  obtain ⟨a, fs, dx, gs, rfl, rfl, hM, hH, _⟩ := isIns_at h2.1 rx2 S2.co
  cases r1
  obtain ⟨mA, O, _⟩ := ins_get I2.hok hH
  obtain ⟨od, J, _⟩ := O.look
  obtain ⟨m0, hF⟩ := I2.fr
  refine wpAny_bind (wpAny_standAt (wpAny_bind (wpAny_holding (PySem.W.ksp_setItem hF I2.ok.mod.kin J nq F.at_ F.fn ?_))))
  refine thn (run_C (us := [.ref a, iv, u]) (vs := [.ref a, y1, v]) F G hr I2.env0 I2 (.cons rfl (.cons r2 (.cons r .nil))) (S2.call (Q1 := fun _ H' => Q σ H') (.cons rx2 (.cons ry (.cons rd2 .nil))) h2.2 fun d M3 z H3 h3 r3 S3 s3 => S3.q τ M3 σ H3 h3 S3.rs S3.co (Stp.refl M3 H3))) fun w s3 ⟨z, H3, I3, rz, q3⟩ => ?_
  exact wpAny_release ⟨σ, H3, I3, q3⟩

/-! ### operators -/
/-- what the classes must have for x op y: x of C (the def at the operator's name), y of C or a text -/
structure OpC (K : PySem.W.Frag) (C : Str) (op : Operator) : Prop where
  sf : PySem.W.selfFirst K (ga K C) = true
  rc : ∃ rc, PySem.W.findIn K (.ref (ga K C)) (dunderR op.info.2) = some rc ∧ (rc = none ∨ ∃ g : Addr, rc = some (.ref g))
  s1 : ∃ fo, PySem.W.findIn K (.type "str") (PySem.dunder op.info.2) = some fo
  s2 : ∃ ro, PySem.W.findIn K (.type "str") (dunderR op.info.2) = some ro
  su : PySem.W.subIn K (.type "str") (.ref (ga K C)) = some false
def opCB (C : Str) (op : Operator) (K : PySem.W.Frag) : Bool := PySem.W.selfFirst K (ga K C) && ((match PySem.W.findIn K (.ref (ga K C)) (dunderR op.info.2) with
    | some none => true
    | some (some (.ref _)) => true
    | _ => false) && ((PySem.W.findIn K (.type "str") (PySem.dunder op.info.2)).isSome && ((PySem.W.findIn K (.type "str") (dunderR op.info.2)).isSome && decide (PySem.W.subIn K (.type "str") (.ref (ga K C)) = some false))))
theorem opCB_ok {C : Str} {op : Operator} {K : PySem.W.Frag} (h : opCB C op K = true) : OpC K C op := by
  obtain ⟨h1, h⟩ := ba h
  obtain ⟨h2, h⟩ := ba h
  obtain ⟨h3, h⟩ := ba h
  obtain ⟨h4, h5⟩ := ba h
  refine ⟨h1, ?_, Option.isSome_iff_exists.mp h3, Option.isSome_iff_exists.mp h4, of_decide_eq_true h5⟩
  split at h2
  · rename_i e; exact ⟨_, e, .inl rfl⟩
  · rename_i g e; exact ⟨_, e, .inr ⟨g, rfl⟩⟩
  · cases h2
theorem bin_O {op : Operator} {pins : List (Addr × Obj)} {τ : DSt} {M : Mu} {σ : L2.St} {H : Hp} {s : Shared} {Q0 : DK} {E0 : DX} {Q : VK} {x y : D} {v u : V} {vv uu : Value} (F : FC X k C (PySem.dunder op.info.2) sp) (O : OpC X.K C op) (G : Gd X W) (hr : Room k X.A) (I : Inv X pins σ H s)
    (S : Sit X.K W (RD X.K) τ M σ H Q0 E0 Q) (rx : Rep X.K M H x v) (ry : Rep X.K M H y u) (r1 : RelV v vv) (r2 : RelV u uu) (h : isIns C M x ∧ ((∃ z, y = .str z) ∨ isIns C M y) ∧ sp [x, y] M Q0 E0) : wpAny (model X.prog X.w) X.A (binaryOp op vv uu) (EP X pins σ Q) X.xe s := by
  obtain ⟨h0, h1, h⟩ := h
  obtain ⟨a, fs, dx, gs, rfl, rfl, hM, hH, _⟩ := isIns_at h0 rx S.co
  cases r1
  obtain ⟨mA, O1, _⟩ := ins_get I.hok hH
  obtain ⟨od, J, _⟩ := O1.look
  obtain ⟨m0, hF⟩ := I.fr
  have run : wpAny (model X.prog X.w) X.A (call (.ref (ma X.K (ga X.K C) (PySem.dunder op.info.2))) [.ref a, uu]) (PySem.W.CmpBack (EP X pins σ Q)) X.xe s := by
    refine wpAny_mono (run_C (us := [.ref a, uu]) (vs := [.ref a, u]) (Q := Q) F G hr I.env0 I (.cons rfl (.cons r2 .nil)) (S.call (.cons rx (.cons ry .nil)) h fun d M1 z H1 h1 r S1 s1 => S1.end_ h1 r)) (fun w s' z => ?_) fun _ _ z => z
    obtain ⟨z', H', I', rz, qz⟩ := z
    exact SlX.cmpback rz ⟨z', H', I', rz, qz⟩
  rcases h1 with ⟨z, rfl⟩ | h1
  · cases ry
    obtain ⟨t, rfl⟩ := r2
    obtain ⟨rc, e1, e2⟩ := O.rc
    obtain ⟨fo, e3⟩ := O.s1
    obtain ⟨ro, e4⟩ := O.s2
    exact PySem.W.ksp_binT (T := "str") hF I.ok.mod.kin J rfl O.sf F.at_ F.fn e1 e2 e3 e4 O.su run
  · obtain ⟨b, fs2, dx2, gs2, rfl, rfl, hM2, hH2, _⟩ := isIns_at h1 ry S.co
    cases r2
    obtain ⟨mA2, O2, _⟩ := ins_get I.hok hH2
    obtain ⟨od2, J2, _⟩ := O2.look
    exact PySem.W.binop_K hF I.ok.mod.kin J J2.type O.sf F.at_ F.fn run
theorem de_binL {op : Operator} (F : FC X k C (PySem.dunder op.info.2) sp) (O : OpC X.K C op) (G : Gd X W) (hr : Room k X.A) (ha : DE X W a ta) (hb : DE X W b tb) : DE X W (.BinOp a op b pos) (dBinL C sp ta tb) :=
  ⟨fun pins s σ H Q I ⟨τ, M, Q0, E0, S, h⟩ => wpAny_BinOp (thn (ha.run pins s σ H _ I (S.sub (Q1 := fun u H1 => ∃ y M1, Rep X.K M1 H1 y u ∧ Sit X.K W (RD X.K) τ M1 σ H1 Q0 E0 Q ∧ tb τ M1 (fun x M2 => isIns C M2 y ∧ ((∃ z, x = .str z) ∨ isIns C M2 x) ∧ sp [y, x] M2 Q0 E0) E0) h fun d M1 v H1 h1 r1 S1 s1 => ⟨d, M1, r1, S1, h1⟩)) fun u s1 ⟨uv, H1, I1, ru, y, M1, ry, S1, h1⟩ =>
    thn (hb.run pins s1 σ H1 _ I1 (S1.sub (Q1 := fun v H2 => ∃ x M2, Rep X.K M2 H2 x v ∧ Rep X.K M2 H2 y uv ∧ Sit X.K W (RD X.K) τ M2 σ H2 Q0 E0 Q ∧ isIns C M2 y ∧ ((∃ z, x = .str z) ∨ isIns C M2 x) ∧ sp [y, x] M2 Q0 E0) h1 fun d M2 v H2 h2 r2 S2 s2 => ⟨d, M2, r2, ry.stp s2, S2, h2⟩)) fun w s2 ⟨vv, H2, I2, rv, x, M2, rx, ry2, S2, h2⟩ =>
      bin_O F O G hr I2 S2 ry2 rx ru rv h2)⟩

/-! x op= e -/
structure InC (K : PySem.W.Frag) (C : Str) (op : Operator) : Prop where
  sf : PySem.W.selfFirst K (ga K C) = true
theorem ds_augO {op : Operator} (j : Nat) (F : FC X k C (dunderI op.info.2) sp) (O : PySem.W.selfFirst X.K (ga X.K C) = true) (G : Gd X W) (hr : Room k X.A) (he : DE X W e te) (hi : X.N[j]? = some x := by rfl) (hx : Loc X.env.scope x := by first | exact .inl rfl | exact .inr rfl)
    (hf : X.fn x = true ∨ X.env.scope.names.lookup x = some .local := by first | exact .inl rfl | exact .inr rfl) : DS X W (.AugAssign (.Name x pos') op e pos) (dAugO C sp j te) := by
  refine ⟨fun pins s σ H D1 I h => ?_⟩
  obtain ⟨τ, M, D0, S, h⟩ := h
  unfold dAugO at h
  split at h
  · rename_i d ed
    obtain ⟨v, e1, rd⟩ := S.rs.get ed
    obtain ⟨m, hn, hl⟩ := I.loc
    have vis : Vis X.env.scope x := by rcases hx with k | k; exact .inl k; exact .inr (.inl k)
    obtain ⟨u, r, l⟩ := hl j x v hi e1 vis
    refine wpAny_AugAssign_Name ?_
    have go : wpAny (model X.prog X.w) X.A (eval e X.env) (fun w s₂ => wpAny (model X.prog X.w) X.A (inplaceOp op u w) (fun r s₃ => wpAny (model X.prog X.w) X.A (storeName X.env x r) (fun _ => SP X pins D1 .next) X.xe s₃) X.xe s₂) X.xe s := by
      refine thn (he.run pins s σ H _ I (S.sub (Q1 := fun z H1 => ∃ y M1, Rep X.K M1 H1 y z ∧ Rep X.K M1 H1 d v ∧ SitS X.K W τ M1 σ H1 D0 D1 ∧ isIns C M1 d ∧ sp [d, y] M1 (fun r M2 => D0.nx (τ.set j (some r)) M2) (D0.ex τ)) h fun y M1 z H1 h1 r1 S1 s1 => ⟨y, M1, r1, rd.stp s1, S1, h1⟩)) fun w s1 ⟨z, H1, I1, rz, y, M1, ry, rd1, S1, h1⟩ => ?_
      obtain ⟨a, fs, dx, gs, rfl, rfl, hM, hH, _⟩ := isIns_at h1.1 rd1 S1.co
      cases r
      obtain ⟨mA, O1, _⟩ := ins_get I1.hok hH
      obtain ⟨od, J, _⟩ := O1.look
      obtain ⟨m0, hF⟩ := I1.fr
      refine PySem.W.ksp_inplace hF I1.ok.mod.kin J O F.at_ F.fn ?_
      refine wpAny_mono (run_C (us := [.ref a, w]) (vs := [.ref a, z]) (Q := fun z' H' => D1.nx (σ.set j (some z')) H') F G hr I1.env0 I1 (.cons rfl (.cons rz .nil)) (S1.call (.cons rd1 (.cons ry .nil)) h1.2 fun d2 M2 z2 H2 h2 r2 S2 s2 => S2.nx _ M2 _ H2 h2 (S2.rs.set r2 j) S2.co (Stp.refl M2 H2))) (fun w' s' z => ?_) fun _ _ z => z
      obtain ⟨z', H', I', rz', qz⟩ := z
      exact SlX.cmpback rz' (store_ok I' G.nd hi hx rz' (fun s3 I3 => ⟨_, H', I3, qz⟩) hf)
    rcases l with ⟨hk, hm⟩ | ⟨hk, c, hc, hcell⟩
    · exact wpAny_loadName_local I.ok.kind hk hn hm go
    · rcases hk with hk | hk
      · exact wpAny_loadName_cell I.ok.kind hk hc hcell go
      · rcases hx with k | k
        · have : X.env.scope.names.lookup x = some .free := hk
          rw [k] at this; cases this
        · have : X.env.scope.names.lookup x = some .free := hk
          rw [k] at this; cases this
  · exact h.elim
end
end DL

namespace DL
open PySem L2 He
section
open PySem.W PySem.Calls PyProof.Rows
variable {prog : Program} {w : World} {A : Around} {E : Value → Shared → Prop} {s : Shared} {K : Frag} {x C L f f1 : Addr} {h₀ : Heap} {m : Str → Option Value} {ox : Obj} {od : Option Obj}
/-- a text op an instance: the class's reflected def -/
theorem bin_refl {op : Operator} {b : Value} {Q : Value → Shared → Prop} (F : Fr h₀ L s.heap m) (X₀ : K.In h₀) (I : InstAt s.heap x ox C od) (hb : typeOf b = pure (.type "str")) (hc : selfFirst K C = true)
    (hs : findIn K (.ref C) (PySem.dunder op.info.2) = some (some (.ref f1))) (hr : findIn K (.ref C) (dunderR op.info.2) = some (some (.ref f))) (hf : isFn K (.ref f) = true)
    (h1 : findIn K (.type "str") (PySem.dunder op.info.2) = some none) (h2 : findIn K (.type "str") (dunderR op.info.2) = some none)
    (h : wpAny (model prog w) A (call (.ref f) [.ref x, b]) (PySem.W.CmpBack Q) E s) : wpAny (model prog w) A (binaryOp op b (.ref x)) Q E s := by
  have X := X₀.keeps F.keep
  obtain ⟨cd, rest, hcd, hm⟩ := ksp_first hc
  rcases hi : op.info with ⟨sym, nm'⟩
  rw [hi] at hs hr h1 h2
  dsimp only at hs hr h1 h2
  have one := ksp_try X I hr hf h
  obtain ⟨hh, g, d, tt, os⟩ := s
  have L1 : Looks (model prog w) hh (typeOf (.ref x)) (.ref C) := I.type
  have L2 : Looks (model prog w) hh (typeOf b) (.type "str") := Looks.of_pure hb
  have L3 : Looks (model prog w) hh (fillsNumberSlot (.ref C) nm') true := fills_K X hcd hm hs
  have L4 : Looks (model prog w) hh (fillsNumberSlot (.type "str") nm') false := ksp_fillsT X h1 h2
  have hne : (Value.type "str" == Value.ref C) = false := Bool.eq_false_iff.mpr fun q => by cases beq_iff_eq.mp q
  simp only [binaryOp, hi]
  refine wpAny_holding (wpAny_bind ?_)
  unfold binaryOp1
  refine wpAny_bind (L2.at (wpAny_bind (L1.at (wpAny_bind (L4.at ?_)))))
  simp only [hne, Bool.false_eq_true, if_false]
  refine wpAny_bind (L3.at ?_)
  ksp_lk
  refine wpAny_mono one (fun r s' hr' => ?_) fun _ _ e => e
  obtain ⟨v, rfl, hq⟩ := hr'
  ksp_lk
  exact hq
end
section
variable {X : Cx} {W : WX} {a b e o i : Expr} {es : List Expr} {ta tb te to tv ti : DTE} {tl : DTA} {C f m x : Str} {sp : DSp} {k : Nat} {pos pos' apos p p2 : Pos}
structure OpR' (K : PySem.W.Frag) (C : Str) (op : Operator) : Prop where
  sf : PySem.W.selfFirst K (ga K C) = true
  fw : ∃ g : Addr, PySem.W.findIn K (.ref (ga K C)) (PySem.dunder op.info.2) = some (some (.ref g))
  s1 : PySem.W.findIn K (.type "str") (PySem.dunder op.info.2) = some none
  s2 : PySem.W.findIn K (.type "str") (dunderR op.info.2) = some none
def opRB (C : Str) (op : Operator) (K : PySem.W.Frag) : Bool := PySem.W.selfFirst K (ga K C) && ((match PySem.W.findIn K (.ref (ga K C)) (PySem.dunder op.info.2) with
    | some (some (.ref _)) => true
    | _ => false) && (decide (PySem.W.findIn K (.type "str") (PySem.dunder op.info.2) = some none) && decide (PySem.W.findIn K (.type "str") (dunderR op.info.2) = some none)))
theorem opRB_ok {C : Str} {op : Operator} {K : PySem.W.Frag} (h : opRB C op K = true) : OpR' K C op := by
  obtain ⟨h1, h⟩ := ba h
  obtain ⟨h2, h⟩ := ba h
  obtain ⟨h3, h4⟩ := ba h
  refine ⟨h1, ?_, of_decide_eq_true h3, of_decide_eq_true h4⟩
  split at h2
  · rename_i g e; exact ⟨g, e⟩
  · cases h2
theorem de_binR {op : Operator} (F : FC X k C (dunderR op.info.2) sp) (O : OpR' X.K C op) (G : Gd X W) (hr : Room k X.A) (ha : DE X W a ta) (hb : DE X W b tb) : DE X W (.BinOp a op b pos) (dBinR C sp ta tb) :=
  ⟨fun pins s σ H Q I ⟨τ, M, Q0, E0, S, h⟩ => wpAny_BinOp (thn (ha.run pins s σ H _ I (S.sub (Q1 := fun u H1 => ∃ y M1, Rep X.K M1 H1 y u ∧ Sit X.K W (RD X.K) τ M1 σ H1 Q0 E0 Q ∧ tb τ M1 (fun x M2 => (∃ z, y = .str z) ∧ isIns C M2 x ∧ sp [x, y] M2 Q0 E0) E0) h fun d M1 v H1 h1 r1 S1 s1 => ⟨d, M1, r1, S1, h1⟩)) fun u s1 ⟨uv, H1, I1, ru, y, M1, ry, S1, h1⟩ =>
    thn (hb.run pins s1 σ H1 _ I1 (S1.sub (Q1 := fun v H2 => ∃ x M2, Rep X.K M2 H2 x v ∧ Rep X.K M2 H2 y uv ∧ Sit X.K W (RD X.K) τ M2 σ H2 Q0 E0 Q ∧ (∃ z, y = .str z) ∧ isIns C M2 x ∧ sp [x, y] M2 Q0 E0) h1 fun d M2 v H2 h2 r2 S2 s2 => ⟨d, M2, r2, ry.stp s2, S2, h2⟩)) fun w s2 ⟨vv, H2, I2, rv, x, M2, rx, ry2, S2, h2⟩ => by
      obtain ⟨⟨z, rfl⟩, h3, h4⟩ := h2
      obtain ⟨a, fs, dx, gs, rfl, rfl, hM, hH, _⟩ := isIns_at h3 rx S2.co
      cases rv
      have e3 : uv = V.str (sx z) := ry2
      subst e3
      obtain ⟨t, rfl⟩ := ru
      obtain ⟨mA, O1, _⟩ := ins_get I2.hok hH
      obtain ⟨od, J, _⟩ := O1.look
      obtain ⟨m0, hF⟩ := I2.fr
      obtain ⟨g1, e1⟩ := O.fw
      refine bin_refl hF I2.ok.mod.kin J rfl O.sf e1 F.at_ F.fn O.s1 O.s2 ?_
      refine wpAny_mono (run_C (us := [.ref a, .str (sx z) t]) (vs := [.ref a, .str (sx z)]) (Q := Q) F G hr I2.env0 I2 (.cons rfl (.cons ⟨t, rfl⟩ .nil)) (S2.call (.cons rx (.cons ry2 .nil)) h4 fun d M1 z H1 h1 r S1 s1 => S1.end_ h1 r)) (fun w s' z => ?_) fun _ _ z => z
      obtain ⟨z', H', I', rz, qz⟩ := z
      exact SlX.cmpback rz ⟨z', H', I', rz, qz⟩)⟩
/-- ~o -/
def dInv (C : Str) (sp : DSp) (te : DTE) : DTE := fun τ M Q E => te τ M (fun d M1 => isIns C M1 d ∧ sp [d] M1 Q E) E
theorem de_inv (F : FC X k C "__invert__" sp) (G : Gd X W) (hr : Room k X.A) (ha : DE X W a ta) : DE X W (.UnaryOp .Invert a pos) (dInv C sp ta) :=
  ⟨fun pins s σ H Q I ⟨τ, M, Q0, E0, S, h⟩ => PyProof.Rows.UnaryOp_ (thn (ha.run pins s σ H _ I (S.sub (Q1 := fun u H1 => ∃ y M1, Rep X.K M1 H1 y u ∧ Sit X.K W (RD X.K) τ M1 σ H1 Q0 E0 Q ∧ isIns C M1 y ∧ sp [y] M1 Q0 E0) h fun d M1 v H1 h1 r1 S1 s1 => ⟨d, M1, r1, S1, h1⟩)) fun u s1 ⟨uv, H1, I1, ru, y, M1, ry, S1, h2⟩ => by
      obtain ⟨a, fs, dx, gs, rfl, rfl, hM, hH, _⟩ := isIns_at h2.1 ry S1.co
      cases ru
      obtain ⟨mA, O, _⟩ := ins_get I1.hok hH
      obtain ⟨od, J, _⟩ := O.look
      obtain ⟨m0, hF⟩ := I1.fr
      refine PySem.W.ksp_inv hF I1.ok.mod.kin J F.at_ F.fn ?_
      exact run_C (us := [.ref a]) (vs := [.ref a]) F G hr I1.env0 I1 (.cons rfl .nil) (S1.call (.cons ry .nil) h2.2 fun d M1 z H1 h1 r S1 s1 => S1.end_ h1 r))⟩
/-! ### o.m(..) -/
theorem lookup_none {f : Str} : ∀ {fs : List (Str × D)} {gs : List (Str × V)}, gs.map (·.1) = fs.map (·.1) → (¬ f ∈ fs.map (·.1)) → gs.lookup f = none
  | [], [], _, _ => rfl
  | [], _ :: _, h, _ => by cases h
  | _ :: _, [], h, _ => by cases h
  | (g, x) :: r, (g', y) :: r', h, n => by
    obtain ⟨h1, h2⟩ := List.cons.inj h
    have h1 : g' = g := h1
    subst h1
    rw [List.lookup_cons]
    have q : (f == g') = false := Bool.eq_false_iff.mpr fun z => n (by rw [beq_iff_eq.mp z]; exact List.mem_cons_self ..)
    rw [q]
    exact lookup_none h2 fun z => n (List.mem_cons_of_mem _ z)
/-- the instance has no attribute of that name -/
def noF (M : Mu) (m : Str) (d : D) : Prop := match d with
  | .ref a => (match M a with
    | some (.ins _ fs) => ¬ m ∈ fs.map (·.1)
    | _ => False)
  | _ => False
theorem noF_at {m : Str} {M : Mu} {a : Addr} {c : Str} {fs : List (Str × D)} (h : noF M m (.ref a)) (e : M a = some (.ins c fs)) : ¬ m ∈ fs.map (·.1) := by
  have h2 : (match M a with
    | some (.ins _ fs) => ¬ m ∈ fs.map (·.1)
    | _ => False) := h
  rw [e] at h2
  exact h2
def dMeth (C m : Str) (sp : DSp) (to : DTE) (ta : DTA) : DTE := fun τ M Q E => to τ M (fun x M1 => isIns C M1 x ∧ noF M1 m x ∧ ta τ M1 (fun ds M2 => sp (x :: ds) M2 Q E) E) E
theorem de_meth {pl : Sem Bool} (F : FC X k C m sp) (c : Cls X.K (ga X.K C)) (G : Gd X W) (hr : Room k X.A) (ho : DE X W o to) (ha : DA X W (e :: es) tl)
    (hst : starEach (e :: es) X.env = (false, eval e X.env) :: starEach es X.env := by rfl) (hpl : (backTo pos (starEach es X.env)).any (·.1) = false := by rfl)
    (ht : eval (.Call (.Attribute o m apos) (e :: es) [] pos) X.env = (do
      let ov ← eval o X.env
      standAt apos.atName
      let (f, first) ← holding [ov] (getMethod ov m pl)
      callWith pos f first (backTo pos (starEach (e :: es) X.env)) (backToKw pos (keywordEach [] X.env))) := by rfl) : DE X W (.Call (.Attribute o m apos) (e :: es) [] pos) (dMeth C m sp to tl) := by
  refine ⟨fun pins s σ H Q I h => ?_⟩
  obtain ⟨τ, M, Q0, E0, S, h⟩ := h
  refine PySem.W.methodCall_KW (pl := pl) (thn (ho.run pins s σ H _ I (S.sub (Q1 := fun u H1 => ∃ y M1, Rep X.K M1 H1 y u ∧ Sit X.K W (RD X.K) τ M1 σ H1 Q0 E0 Q ∧ isIns C M1 y ∧ noF M1 m y ∧ tl τ M1 (fun ds M2 => sp (y :: ds) M2 Q0 E0) E0) h fun d M1 v H1 h1 r1 S1 s1 => ⟨d, M1, r1, S1, h1⟩)) fun u s1 ⟨uv, H1, I1, ru, y, M1, ry, S1, h1, h2, h3⟩ => ?_) ht
  obtain ⟨a, fs, dx, gs, rfl, rfl, hM, hH, hk⟩ := isIns_at h1 ry S1.co
  cases ru
  refine getmeth_ok I1 hH c F.meth (lookup_none hk (noF_at h2 hM)) ?_
  refine PySem.W.callWith_K (first := [.ref a]) (h₀ := X.base) I1.ok.mod.kin F.kp (thn (ha.run pos pins s1 σ H1 _ I1 (S1.sub (Q1 := fun vs H2 => lsp X.K sp (V.ref a :: vs) H2 Q (WE W σ)) h3 fun ds M2 vs H2 h4 r4 S4 s4 => S4.call (.cons (ry.stp s4) r4) h4 fun d M5 z H5 h5 r5 S5 s5 => S5.end_ h5 r5)) fun us s2 ⟨vs, H2, I2, r, q2⟩ => ⟨I2.kIn, ?_⟩) hst hpl
  exact run_C (us := .ref a :: us) (vs := .ref a :: vs) F G hr I2.env0 I2 (.cons rfl r) q2
theorem de_meth0 {pl : Sem Bool} (F : FC X k C m sp) (c : Cls X.K (ga X.K C)) (G : Gd X W) (hr : Room k X.A) (ho : DE X W o to)
    (ht : eval (.Call (.Attribute o m apos) [] [] pos) X.env = (do
      let ov ← eval o X.env
      standAt apos.atName
      let (f, first) ← holding [ov] (getMethod ov m pl)
      callWith pos f first (backTo pos (starEach [] X.env)) (backToKw pos (keywordEach [] X.env))) := by rfl) : DE X W (.Call (.Attribute o m apos) [] [] pos) (dMeth C m sp to daNil) := by
  refine ⟨fun pins s σ H Q I h => ?_⟩
  obtain ⟨τ, M, Q0, E0, S, h⟩ := h
  refine PySem.W.methodCall_KW (pl := pl) (thn (ho.run pins s σ H _ I (S.sub (Q1 := fun u H1 => ∃ y M1, Rep X.K M1 H1 y u ∧ Sit X.K W (RD X.K) τ M1 σ H1 Q0 E0 Q ∧ isIns C M1 y ∧ noF M1 m y ∧ daNil τ M1 (fun ds M2 => sp (y :: ds) M2 Q0 E0) E0) h fun d M1 v H1 h1 r1 S1 s1 => ⟨d, M1, r1, S1, h1⟩)) fun u s1 ⟨uv, H1, I1, ru, y, M1, ry, S1, h1, h2, h3⟩ => ?_) ht
  obtain ⟨a, fs, dx, gs, rfl, rfl, hM, hH, hk⟩ := isIns_at h1 ry S1.co
  cases ru
  refine getmeth_ok I1 hH c F.meth (lookup_none hk (noF_at h2 hM)) ?_
  exact PySem.W.callWith_K0 (first := [.ref a]) I1.kIn F.kp (run_C (us := [.ref a]) (vs := [.ref a]) F G hr I1.env0 I1 (.cons rfl .nil) (S1.call (.cons ry .nil) h3 fun d M5 z H5 h5 r5 S5 s5 => S5.end_ h5 r5))
end
end DL

namespace DL
open PySem L2 He
section
variable {X : Cx} {W : WX} {a b e o i : Expr} {es : List Expr} {ta tb te to tv ti : DTE} {tl : DTA} {C f m x : Str} {sp : DSp} {k : Nat} {pos pos' apos p p2 : Pos}
/-! ### properties -/
/-- the getter's def -/
def pgA (K : PySem.W.Frag) (C : Addr) (f : Str) : Addr := match PySem.W.recIn K (ma K C f) "property" with
  | some (.ref g :: _) => g
  | _ => 0
def propB (C f : Str) (K : PySem.W.Frag) : Bool := decide (PySem.W.findIn K (.ref (ga K C)) f = some (some (.ref (ma K (ga K C) f)))) && (decide (PySem.W.specialIn K (.ref (ma K (ga K C) f)) "__get__" = some (some (.builtin "property.__get__"))) &&
  (decide (PySem.W.takesIn K (.ref (ma K (ga K C) f)) = some true) && (match PySem.W.recIn K (ma K (ga K C) f) "property" with
    | some (.ref _ :: _) => true
    | _ => false)))
theorem propB_ok {K : PySem.W.Frag} (h : propB C f K = true) : PropOf K (ga K C) f (ma K (ga K C) f) (pgA K (ga K C) f) := by
  obtain ⟨h1, h⟩ := ba h
  obtain ⟨h2, h⟩ := ba h
  obtain ⟨h3, h4⟩ := ba h
  refine ⟨of_decide_eq_true h1, of_decide_eq_true h2, of_decide_eq_true h3, ?_⟩
  unfold pgA
  split at h4
  · rename_i g r e; exact ⟨r, by rw [e]⟩
  · cases h4
structure FnP (P : Program) (w : World) (K : PySem.W.Frag) (mg : Str → Option Value) (base : Heap) (k : Nat) (C f : Str) (sp : DSp) : Prop where
  of : PropOf K (ga K C) f (ma K (ga K C) f) (pgA K (ga K C) f)
  run : FnR P w K mg base (L2.CX P w) k (pgA K (ga K C) f) (lsp K sp)
def dPrp (C : Str) (sp : DSp) (te : DTE) : DTE := fun τ M Q E => te τ M (fun d M1 => isIns C M1 d ∧ sp [d] M1 Q noX) E
theorem cx_no {outer : List Env} {H : Hp} {s s' : Shared} {e : Value} (h : L2.CX X.prog X.w outer H s (fun _ _ _ => False) e s') : False := by
  obtain ⟨_, _, _, _, _, _, _, _, _, _, _, _, z⟩ := h
  exact z
theorem de_prop (F : FnP X.prog X.w X.K X.mg X.base k C f sp) (c : Cls X.K (ga X.K C)) (hr : Room (k + 1) X.A) (ha : DE X W a ta) (hab : attributeBase a f X.env (eval a X.env) = eval a X.env := by rfl) : DE X W (.Attribute a f pos) (dPrp C sp ta) :=
  ⟨fun pins s σ H Q I ⟨τ, M, Q0, E0, S, h⟩ => attr_of hab (thn (ha.run pins s σ H _ I (S.sub (Q1 := fun u H1 => ∃ y M1, Rep X.K M1 H1 y u ∧ Sit X.K W (RD X.K) τ M1 σ H1 Q0 E0 Q ∧ isIns C M1 y ∧ sp [y] M1 Q0 noX) h fun d M1 v H1 h1 r1 S1 s1 => ⟨d, M1, r1, S1, h1⟩)) fun u s1 ⟨uv, H1, I1, ru, y, M1, ry, S1, h2⟩ => by
    obtain ⟨a, fs, dx, gs, rfl, rfl, hM, hH, _⟩ := isIns_at h2.1 ry S1.co
    cases ru
    obtain ⟨mA, O, _, _, _, _⟩ := ins_get I1.hok hH
    obtain ⟨od, J, _⟩ := O.look
    obtain ⟨rest, hrec⟩ := F.of.rec_
    have I2 := I1.tok (s1.toks + 1)
    have hc : (PySem.W.clsIn X.K (ga X.K C)).isSome = true := by
      obtain ⟨cd, hc, _⟩ := PySem.W.any_some c.hd
      rw [hc]
      rfl
    refine PySem.W.get_bind I1.kIn J (PySem.W.plainGet_of (c.get f)).1 (PySem.W.findObj_data hc F.of.at_ F.of.get F.of.tak) (PySem.W.plainGet_of (c.get f)).2 (wpAny_call (PySem.W.prop_get (s := { s1 with toks := s1.toks + 1 }) I1.kIn hrec ?_))
    refine codeAny_mono (F.run X.A.in1 X.stack { s1 with toks := s1.toks + 1 } H1 [.ref a] [.ref a] Q (fun _ _ _ => False) hr.in1 I2.env0.in1 (.cons rfl .nil) ⟨[.ref a], M1, Q0, noX, .cons ry .nil, S1.co, h2.2, S1.q, fun _ _ _ _ _ z => z.elim⟩) fun r s' hq => ?_
    cases r with
    | error er => exact (cx_no hq).elim
    | ok fl =>
      cases fl with
      | ret u =>
        obtain ⟨v, H', I3, rv, q3⟩ := I2.after hq
        show wpAny _ _ (handedOut u) _ _ _
        rw [PySem.W.handedOut_of (handed_of rv)]
        exact wpAny_pure ⟨v, H', I3, rv, q3⟩
      | next => exact False.elim hq
      | brk => exact False.elim hq
      | cont => exact False.elim hq)⟩
/-! ### staticmethods, constants of a class -/
def readB (C : Str) (K : PySem.W.Frag) : Bool := PySem.W.readsIn K (ga K C) (.type "type") && decide (PySem.W.specialIn K (.ref (ga K C)) "__getattribute__" = some (some (.builtin "type.__getattribute__")))
theorem readB_ok {K : PySem.W.Frag} (h : readB C K = true) : ClX.CRead K (ga K C) (.type "type") := by
  obtain ⟨h1, h2⟩ := ba h
  exact ⟨h1, of_decide_eq_true h2⟩
structure FnT (P : Program) (w : World) (K : PySem.W.Frag) (mg : Str → Option Value) (base : Heap) (k : Nat) (C m : Str) (sp : DSp) : Prop where
  at_ : PySem.W.findCls K (.ref (ga K C)) (.type "type") m = some (.get (.builtin "staticmethod.__get__") (.ref (ma K (ga K C) m)) .none (.ref (ga K C)))
  rc : ∃ rest, PySem.W.recIn K (ma K (ga K C) m) "staticmethod" = some (.ref (He5.wf K (ga K C) "staticmethod" m) :: rest)
  kp : PySem.W.keepIn K (.ref (He5.wf K (ga K C) "staticmethod" m)) = true
  run : FnR P w K mg base (L2.CX P w) k (He5.wf K (ga K C) "staticmethod" m) (lsp K sp)
theorem getst_ok {pins : List (Addr × Obj)} {σ : L2.St} {H : Hp} {s : Shared} {pl : Sem Bool} {A : Around} {E : Value → Shared → Prop} {Q : Value × List Value → Shared → Prop} (I : Inv X pins σ H s) (r : ClX.CRead X.K (ga X.K C) (.type "type")) (F : FnT X.prog X.w X.K X.mg X.base k C m sp)
    (h : ∀ s', Inv X pins σ H s' → Q (.ref (He5.wf X.K (ga X.K C) "staticmethod" m), []) s') : wpAny (model X.prog X.w) A (getMethod (.ref (ga X.K C)) m pl) Q E s := by
  obtain ⟨rest, hp⟩ := F.rc
  refine PySem.W.method_cls I.kIn r.ga ?_
  refine PySem.W.cls_bind I.kIn r.rd F.at_ ?_
  refine wpAny_call (PySem.W.sm_get (s := { s with toks := s.toks + 1 }) I.kIn hp (PySem.W.handed_on rfl ?_))
  exact h _ (I.tok _)
/-- C.m(..), C a class of the module -/
theorem de_smeth {pl : Sem Bool} (F : FnT X.prog X.w X.K X.mg X.base k C m sp) (r : ClX.CRead X.K (ga X.K C) (.type "type")) (G : Gd X W) (hr : Room k X.A) (hm : X.mg C = some (.ref (ga X.K C))) (ha : DA X W (e :: es) tl) (hg : Gl X C := by rfl) (hdb : (C == ("__debug__" : Str)) = false := by decide)
    (hst : starEach (e :: es) X.env = (false, eval e X.env) :: starEach es X.env := by rfl) (hpl : (backTo pos (starEach es X.env)).any (·.1) = false := by rfl)
    (ht : eval (.Call (.Attribute (.Name C p) m apos) (e :: es) [] pos) X.env = (do
      let ov ← eval (.Name C p) X.env
      standAt apos.atName
      let (f, first) ← holding [ov] (getMethod ov m pl)
      callWith pos f first (backTo pos (starEach (e :: es) X.env)) (backToKw pos (keywordEach [] X.env))) := by rfl) : DE X W (.Call (.Attribute (.Name C p) m apos) (e :: es) [] pos) (dCall sp tl) := by
  refine ⟨fun pins s σ H Q I h => ?_⟩
  obtain ⟨τ, M, Q0, E0, S, h⟩ := h
  refine PySem.W.methodCall_KW (pl := pl) (ld_glob I hg hm ?_ hdb) ht
  refine getst_ok I r F fun s1 I1 => ?_
  refine PySem.W.callWith_K (first := []) (h₀ := X.base) I1.ok.mod.kin F.kp (thn (ha.run pos pins s1 σ H _ I1 (S.sub (Q1 := fun vs H2 => lsp X.K sp vs H2 Q (WE W σ)) h fun ds M2 vs H2 h4 r4 S4 s4 => S4.call r4 h4 fun d M5 z H5 h5 r5 S5 s5 => S5.end_ h5 r5)) fun us s2 ⟨vs, H2, I2, r, q2⟩ => ⟨I2.kIn, ?_⟩) hst hpl
  exact run_S F.run G.tk hr I2.env0 I2 r q2
theorem de_smeth0 {pl : Sem Bool} (F : FnT X.prog X.w X.K X.mg X.base k C m sp) (r : ClX.CRead X.K (ga X.K C) (.type "type")) (G : Gd X W) (hr : Room k X.A) (hm : X.mg C = some (.ref (ga X.K C))) (hg : Gl X C := by rfl) (hdb : (C == ("__debug__" : Str)) = false := by decide)
    (ht : eval (.Call (.Attribute (.Name C p) m apos) [] [] pos) X.env = (do
      let ov ← eval (.Name C p) X.env
      standAt apos.atName
      let (f, first) ← holding [ov] (getMethod ov m pl)
      callWith pos f first (backTo pos (starEach [] X.env)) (backToKw pos (keywordEach [] X.env))) := by rfl) : DE X W (.Call (.Attribute (.Name C p) m apos) [] [] pos) (dCall sp daNil) := by
  refine ⟨fun pins s σ H Q I h => ?_⟩
  obtain ⟨τ, M, Q0, E0, S, h⟩ := h
  refine PySem.W.methodCall_KW (pl := pl) (ld_glob I hg hm ?_ hdb) ht
  refine getst_ok I r F fun s1 I1 => ?_
  exact PySem.W.callWith_K0 (first := []) I1.kIn F.kp (run_S (us := []) (vs := []) F.run G.tk hr I1.env0 I1 .nil (S.call .nil h fun d M5 z H5 h5 r5 S5 s5 => S5.end_ h5 r5))
def cvalB (C f : Str) (v : V) (K : PySem.W.Frag) : Bool := match PySem.W.findCls K (.ref (ga K C)) (.type "type") f with
  | some (.val u) => relB v u
  | _ => false
theorem cvalB_ok {K : PySem.W.Frag} {v : V} (h : cvalB C f v K = true) : ∃ u, ClX.CVal K (ga K C) (.type "type") f v u := by
  unfold cvalB at h
  split at h
  · rename_i u e; exact ⟨u, e, relB_ok h⟩
  · cases h
theorem de_cval {d : D} {v : V} (h : ∃ u, ClX.CVal X.K (ga X.K C) (.type "type") f v u) (r : ClX.CRead X.K (ga X.K C) (.type "type")) (hm : X.mg C = some (.ref (ga X.K C))) (rd : ∀ M H, Rep X.K M H d v) (hg : Gl X C := by rfl) (hdb : (C == ("__debug__" : Str)) = false := by decide)
    (hb : attributeBase (.Name C p) f X.env (eval (.Name C p) X.env) = eval (.Name C p) X.env := by rfl) : DE X W (.Attribute (.Name C p) f pos) (dC d) := by
  obtain ⟨u, k⟩ := h
  exact PE.of (ClX.pe_cval (pe_glob (v := .ref (ga X.K C)) hg hm rfl hdb) hb) fun σ H Q ⟨τ, M, Q0, E0, S, h⟩ => ⟨_, _, v, u, rfl, r, k, S.end_ h (rd M H)⟩
/-! ### isinstance(x, C) -/
/-- what isinstance asks of the class -/
structure IsC (K : PySem.W.Frag) (C : Str) : Prop where
  cl : Cls K (ga K C)
  ca : PySem.W.findIn K (.ref (ga K C)) "__class__" = some (some (.builtin "object.__class__"))
  cn : PySem.W.specialIn K (.builtin "object.__class__") "__get__" = some (some (.builtin "getset_descriptor.__get__"))
  ct : PySem.W.takesIn K (.builtin "object.__class__") = some true
  cm : PySem.W.mroIn K (ga K C) (.type "object") = some true
  no : ∀ T ∈ ["NoneType", "bool", "int", "str", "list", "tuple", "dict"], PySem.W.kitOne K (.type T) (.ref (ga K C)) = some false
def isCB (C : Str) (K : PySem.W.Frag) : Bool := decide (PySem.W.findIn K (.ref (ga K C)) "__class__" = some (some (.builtin "object.__class__"))) && (decide (PySem.W.specialIn K (.builtin "object.__class__") "__get__" = some (some (.builtin "getset_descriptor.__get__"))) &&
  (decide (PySem.W.takesIn K (.builtin "object.__class__") = some true) && (decide (PySem.W.mroIn K (ga K C) (.type "object") = some true) && ["NoneType", "bool", "int", "str", "list", "tuple", "dict"].all fun T => decide (PySem.W.kitOne K (.type T) (.ref (ga K C)) = some false))))
theorem isCB_ok {K : PySem.W.Frag} (c : Cls K (ga K C)) (h : isCB C K = true) : IsC K C := by
  obtain ⟨h1, h⟩ := ba h
  obtain ⟨h2, h⟩ := ba h
  obtain ⟨h3, h⟩ := ba h
  obtain ⟨h4, h5⟩ := ba h
  exact ⟨c, of_decide_eq_true h1, of_decide_eq_true h2, of_decide_eq_true h3, of_decide_eq_true h4, fun T hT => of_decide_eq_true (List.all_eq_true.mp h5 T hT)⟩
/-- x is no instance of an own class: its type; or an instance of C -/
def gIsC (C : Str) : DCb := fun xs M Q => match xs with
  | [d, .cl c] => c = C ∧ ((isIns C M d ∧ Q (.bl true) M) ∨ ((∃ n, tyD M d = some n) ∧ Q (.bl false) M))
  | _ => False
theorem cb_isC {K : PySem.W.Frag} (c : IsC K C) : CbD K (gIsC C) (rIsi K) := fun M H xs vs Q0 Q co r h q => by
  match xs, h with
  | [d, .cl c'], h =>
    obtain ⟨h0, h⟩ := h
    subst h0
    obtain ⟨v, u, rfl, r1, r2⟩ := r.uncons
    obtain ⟨w, u, rfl, r3, r4⟩ := r2.uncons
    cases r4.unnil; cases r3
    rcases h with ⟨h1, h2⟩ | ⟨⟨n, h1⟩, h2⟩
    · obtain ⟨a, fs, dx, gs, rfl, rfl, hM, hH, _⟩ := isIns_at h1 r1 co
      exact ⟨.ref a, .ref _, .ref _, .ref _, true, rfl, .own _, .base (.ins hH c.cl c.ca c.cn c.ct c.cm), by unfold PySem.W.kitOne; rw [if_pos (beq_self_eq_true _)], q _ M _ H h2 rfl co (Stp.refl M H)⟩
    · obtain ⟨t1, t2⟩ := ty_rep co r1 h1
      exact ⟨v, .ref _, .type n, .ref _, false, rfl, .own _, t1, c.no n t2, q _ M _ H h2 rfl co (Stp.refl M H)⟩
end
end DL

namespace DL
open PySem L2 He
/-! ### len(o), list(o): the class's __len__ gives len(self.f), its __iter__ iter(self.f) -/
def spLenH (K : PySem.W.Frag) (C f : Str) : Sp := fun vs H Q _ => ∃ a dx gs l xs, vs = [.ref a] ∧ H a = some (.ins (ga K C) dx gs) ∧ gs.lookup f = some (.ref l) ∧ H l = some (.lst xs) ∧ Q (.int xs.length) H
/-- __iter__: a new iterator, younger than the call -/
def spIterS (K : PySem.W.Frag) (C f : Str) (n : Nat) : Sp := fun vs H Q _ => ∃ a dx gs l xs, vs = [.ref a] ∧ H a = some (.ins (ga K C) dx gs) ∧ gs.lookup f = some (.ref l) ∧ H l = some (.lst xs) ∧ ∀ it, H it = none → n ≤ it → Q (.ref it) (upd H it (ItO l it 0))
def FnI (P : Program) (w : World) (K : PySem.W.Frag) (mg : Str → Option Value) (base : Heap) (k : Nat) (g : Addr) (C f : Str) : Prop :=
  ∀ (A : Around) (outer : List Env) (s : Shared) (H : Hp) (us : List Value) (vs : List V) (Q : VK) (E : XK), Room k A → Env0 P w K mg base A outer s H → Vals vs us → spIterS K C f s.heap.objs.size vs H Q E →
    codeAny (model P w) A (.call (.ref g) ⟨us, []⟩) (CR (L2.CX P w) outer P w H s Q E) s
theorem fnI_of {P : Program} {w : World} {K : PySem.W.Frag} {mg : Str → Option Value} {base : Heap} {k : Nat} {g : Addr} {x qual C f : Str} {params : Arguments} {body : List Stmt} {scope : Scope} {N ps : List Str} {fd : FuncData} (F : FunD K x qual params body scope [] [] g fd) (S : FnScope N ps scope) (hb : Binds K fd ps []) (hl1 : ps.length = 1)
    (hbody : ∀ (cdv : Value) (A : Around) (outer : List Env) (s : Shared) (H : Hp) (vs : List V) (Q : VK) (E : XK), spIterS K C f s.heap.objs.size vs H Q E →
      ∃ t, PSs (cxOf (L2.CX P w) P w K mg base N qual scope g cdv A outer s H E) body t ∧ t { nx := fun _ H' => Q .non H', rt := Q } (start N vs) H) : FnI P w K mg base (k + 1) g C f := by
  intro A outer s H us vs Q E hr e0 r hsp
  obtain ⟨oc, od, dV, kV, doc, pm, an, cdv, ct, osl, rfl, lk, hcd, _, _⟩ := F.ex
  have hl : vs.length = ps.length := by
    obtain ⟨a, _, _, _, _, e, _⟩ := hsp
    rw [e, hl1]
    rfl
  have KX : K.In s.heap := e0.mod.kin.keeps fun b o e => (e0.bs b o e).1
  have lim : s.heap.NoLimit := e0.mod.nolimit.keeps fun b o e => (e0.bs b o e).1
  have hbt := hb s us KX (by rw [List.append_nil, ← r.length]; exact hl)
  rw [List.append_nil] at hbt
  have hkind : ∀ y ∈ ps.zip us, scope.names.lookup y.1 = some .local ∨ (scope.names.lookup y.1 = some .cell ∧ ((cellsFrom (s.heap.objs.size + 1) scope.names []).lookup y.1).isSome = true) := fun ⟨n, v⟩ hy => by
    rcases S.par n (List.of_mem_zip hy).1 with q | q
    · exact .inl q
    · exact .inr ⟨q, PySem.W.cellsFrom_some _ _ _ (.inl q)⟩
  refine codeAny_call_function hr.depth (KX _ _ lk) rfl S.co S.gen rfl (PySem.W.codeRec_of KX hcd) (hbt _ _ _ _ ?_)
  refine wpAny_newFunctionEnv_cells S.kind hkind fun env he s1 x => ?_
  subst he
  refine ⟨lim.keeps x.toInCall.keep, codeAny_func ?_⟩
  obtain ⟨t, ht, hq⟩ := hbody cdv A outer s H vs Q E hsp
  have I : Inv (cxOf (L2.CX P w) P w K mg base N qual scope g cdv A outer s H E) [] (start N vs) H s1 := inv_start S hr.hd e0 hl r x
  refine wpAny_mono (ht.run [] s1 (start N vs) H _ I hq) (fun fl s' hs => ?_) fun e s' hs => hs
  have fin : ∀ {σ' : L2.St} {H' : Hp} {v : V} {u : Value}, Inv (cxOf (L2.CX P w) P w K mg base N qual scope g cdv A outer s H E) [] σ' H' s' → RelV v u → Q v H' → CE outer P w H s Q u s' :=
    fun {σ' H' v u} J rv q => ⟨v, H', J.os, J.bare, J.base, J.hok, rv, q⟩
  cases fl with
  | ret u =>
    obtain ⟨v, σ', H', J, rv, q⟩ := hs
    exact fin J rv q
  | next =>
    obtain ⟨σ', H', J, q⟩ := hs
    exact fin (v := V.non) (u := Value.none) J rfl q
  | brk =>
    obtain ⟨_, _, _, q⟩ := hs
    exact False.elim q
  | cont =>
    obtain ⟨_, _, _, q⟩ := hs
    exact False.elim q
structure LenC (P : Program) (w : World) (K : PySem.W.Frag) (mg : Str → Option Value) (base : Heap) (C f : Str) : Prop where
  m : Meth K (ga K C) "__len__" (ma K (ga K C) "__len__")
  run : FnR P w K mg base (L2.CX P w) 1 (ma K (ga K C) "__len__") (spLenH K C f)
structure IterC (P : Program) (w : World) (K : PySem.W.Frag) (mg : Str → Option Value) (base : Heap) (C f : Str) : Prop where
  m : Meth K (ga K C) "__iter__" (ma K (ga K C) "__iter__")
  run : FnI P w K mg base 1 (ma K (ga K C) "__iter__") C f
def rLenO (K : PySem.W.Frag) (C f : Str) : List V → Hp → VK → Prop := fun xs H Q => ∃ a dx gs l ys, xs = [.ref a] ∧ H a = some (.ins (ga K C) dx gs) ∧ gs.lookup f = some (.ref l) ∧ H l = some (.lst ys) ∧ Q (.int ys.length) H
def rListO (K : PySem.W.Frag) (C f : Str) : List V → Hp → VK → Prop := fun xs H Q => ∃ a dx gs l ys, xs = [.ref a] ∧ H a = some (.ins (ga K C) dx gs) ∧ gs.lookup f = some (.ref l) ∧ H l = some (.lst ys) ∧ ∀ q, H q = none → Q (.ref q) (upd H q (.lst ys))
section
variable {X : Cx} {W : WX} {C f : Str} {pins : List (Addr × Obj)} {σ : L2.St} {H : Hp} {s : Shared}
/-- the class's __len__ at work, in any place below -/
theorem len_at {A : Around} {E : Value → Shared → Prop} {Q : Value → Shared → Prop} {a dx l : Addr} {gs : List (Str × V)} {ys : List V} (L : LenC X.prog X.w X.K X.mg X.base C f) (hr : Room 1 A.in1) (e0 : Env0 X.prog X.w X.K X.mg X.base A.in1 X.stack s H) (I : Inv X pins σ H s)
    (hH : H a = some (.ins (ga X.K C) dx gs)) (hf : gs.lookup f = some (.ref l)) (hl : H l = some (.lst ys)) (hz : ys.length ≤ sizeLine) (h : ∀ t s', Inv X pins σ H s' → Q (.int ys.length t) s') : wpAny (model X.prog X.w) A (call (.builtin "len") [.ref a]) Q E s := by
  obtain ⟨mA, O, _⟩ := ins_get I.hok hH
  obtain ⟨od, J, _⟩ := O.look
  obtain ⟨m0, hF⟩ := I.fr
  refine PySem.W.len_K hF I.ok.mod.kin J L.m.at_ L.m.fn ?_
  refine wpAny_call (codeAny_mono (L.run A.in1 X.stack s H [.ref a] [.ref a] (fun v H' => v = .int ys.length ∧ H' = H) (fun _ _ _ => False) hr e0 (.cons rfl .nil) ⟨a, dx, gs, l, ys, rfl, hH, hf, hl, rfl, rfl⟩) fun r s' hq => ?_)
  cases r with
  | error er => exact (cx_no hq).elim
  | ok fl =>
    cases fl with
    | ret u =>
      obtain ⟨v, H', I3, rv, rfl, rfl⟩ := I.after hq
      obtain ⟨t, rfl⟩ := rv
      have := line24
      exact ⟨⟨Int.natCast_nonneg _, by have : ys.length < 2 ^ 63 := by omega
                                       exact_mod_cast this⟩, h _ _ (I3.tok _)⟩
    | next => exact False.elim hq
    | brk => exact False.elim hq
    | cont => exact False.elim hq
theorem call_lenO (L : LenC X.prog X.w X.K X.mg X.base C f) (hr : Room 2 X.A) : CallR X (.builtin "len") (rLenO X.K C f) := by
  intro pins s σ H xs us Q I r h
  obtain ⟨a, dx, gs, l, ys, rfl, hH, hf, hl, q⟩ := h
  obtain ⟨u, rfl, ru⟩ := r.one
  cases ru
  exact len_at L hr.in1 I.env0.in1 I hH hf hl (I.lstM hl).1 fun t s' I' => ⟨.int ys.length, H, I', ⟨t, rfl⟩, q⟩

/-- the rest of the walk -/
theorem ext_loop {q it l : Addr} {ys : List V} {Rs : Result → Shared → Prop} (hc : X.calm = true) {A1 : Around} (hh : A1.handled = none) (hql : l ≠ q) (hqi : it ≠ q) (hdone : ∀ H' s', Inv X pins σ H' s' → (H' q = some (.lst ys) ∧ ∀ b, b ≠ q → H' b = H b) → Rs (.ok (.ret .none)) s') :
    ∀ (n i : Nat) (H' : Hp) (s : Shared), n + i = ys.length → Inv X pins σ H' s → FpOk X pins H' it → (H' q = some (.lst (ys.take i)) ∧ ∀ b, b ≠ q → H' b = H b) → H' l = some (.lst ys) → s.heap.IsListIter it l i →
      codeAny (model X.prog X.w) A1 (.builtin "list.extend.loop" ⟨[.ref q, .ref it, .none], []⟩) Rs s := by
  intro n
  induction n with
  | zero =>
    intro i H' s hn I F hq hl hit
    refine codeAny_builtin PySem.F.entry_extend_loop ?_
    rw [Around.under_plainId PySem.F.plain_extend_loop _]
    show wpAny _ A1.in1 (pyNext (.ref it) >>= _) _ _ s
    obtain ⟨f0, f1, f2, f3, f4, f5⟩ := F
    obtain ⟨z, its, k, rv, hlen, e⟩ := I.lstM hl
    have pl : s.heap.IsList l its.toArray := ⟨_, e, rfl, _, rfl⟩
    refine wpAny_bind (wpAny_pyNext_list_end hh hit pl (by simp; omega) fun h' eb => ?_)
    refine wpAny_pure (hdone H' _ (I.turned (t' := s.toks) (fun b o hb e => eb b o hb e) f0 f1 f3 f4 f5) ?_)
    rw [List.take_of_length_le (by omega)] at hq
    exact hq
  | succ n ih =>
    intro i H' s hn I F hq hl hit
    refine codeAny_builtin PySem.F.entry_extend_loop ?_
    rw [Around.under_plainId PySem.F.plain_extend_loop _]
    show wpAny _ A1.in1 (pyNext (.ref it) >>= _) _ _ s
    obtain ⟨f0, f1, f2, f3, f4, f5⟩ := id F
    obtain ⟨z, its, k, rv, hlen, e⟩ := I.lstM hl
    have pl : s.heap.IsList l its.toArray := ⟨_, e, rfl, _, rfl⟩
    have hi : i < ys.length := by omega
    obtain ⟨u, hu, ru⟩ := rv.get (List.getElem?_eq_getElem hi)
    refine wpAny_bind (wpAny_pyNext_list_item hit pl (x := u) (by simpa using hu) fun h' st' sb => ?_)
    have I1 : Inv X pins σ H' { s with heap := h' } := I.turned (t' := s.toks) (fun b o hb e => (sb.2 b hb).trans e) f0 f1 f3 f4 f5
    show wpAny _ A1.in1 (updateSeq q (·.push u) >>= _) _ _ _
    obtain ⟨z2, its2, k2, r2, hl2, e2⟩ := I1.lstM hq.1
    have hz3 : (ys.take i ++ [ys[i]]).length ≤ sizeLine := by
      rw [List.length_append, List.length_take, List.length_singleton]
      omega
    have hz4 : its2.length = i := by
      rw [← hl2, List.length_take]
      omega
    refine wpAny_bind (wpAny_updateSeq e2 rfl (wpAny_pure ⟨plainId_quiet PySem.F.plain_extend_loop _, ?_⟩) (by rw [List.size_toArray]; omega) (by show (its2.toArray.push u).size ≤ sizeLine + 1; rw [Array.size_push, List.size_toArray]; omega))
    have I2 := I1.lset (f := (·.push u)) (its' := its2 ++ [u]) (t' := s.toks) hq.1 e2 (by simp) (r2.append (.cons ru .nil)) hz3
    have ne : H' it = none := f0
    have F2 : FpOk X pins (upd H' q (.lst (ys.take i ++ [ys[i]]))) it := ⟨by rw [upd_ne hqi]; exact f0, f1, f2, f3, f4, f5⟩
    refine ih (i + 1) _ _ (by omega) I2 F2 ⟨?_, fun b hb => by rw [upd_ne hb]; exact hq.2 b hb⟩ (by rw [upd_ne hql]; exact hl) ?_
    · rw [upd_same, List.take_succ, List.getElem?_eq_getElem hi]
      rfl
    · obtain ⟨o, ho, c1, d1⟩ := st'
      exact ⟨o, (Heap.get?_update_other h' (Obj.mapSeq (·.push u)) (Ne.symm hqi)).trans ho, c1, d1⟩
end
end DL

namespace DL
open PySem L2 He
section
variable {X : Cx} {W : WX} {C f : Str} {pins : List (Addr × Obj)} {σ : L2.St} {H : Hp} {s : Shared}
/-- the class's __iter__ at work -/
theorem iter_at {A : Around} {E : Value → Shared → Prop} {Q : Value → Shared → Prop} {a dx l : Addr} {gs : List (Str × V)} {ys : List V} (T : IterC X.prog X.w X.K X.mg X.base C f) (hr : Room 1 A) (e0 : Env0 X.prog X.w X.K X.mg X.base A X.stack s H) (I : Inv X pins σ H s)
    (hH : H a = some (.ins (ga X.K C) dx gs)) (hf : gs.lookup f = some (.ref l)) (hl : H l = some (.lst ys)) (h : ∀ it s', H it = none → s.heap.objs.size ≤ it → Inv X pins σ (upd H it (ItO l it 0)) s' → Q (.ref it) s') : wpAny (model X.prog X.w) A (pyIter (.ref a)) Q E s := by
  obtain ⟨mA, O, _⟩ := ins_get I.hok hH
  obtain ⟨od, J, _⟩ := O.look
  obtain ⟨m0, hF⟩ := I.fr
  refine PySem.W.owit_iter hF I.ok.mod.kin J T.m.at_ T.m.fn ?_
  refine wpAny_call (codeAny_mono (T.run A X.stack s H [.ref a] [.ref a] (fun v H' => ∃ it, v = .ref it ∧ H it = none ∧ s.heap.objs.size ≤ it ∧ H' = upd H it (ItO l it 0)) (fun _ _ _ => False) hr e0 (.cons rfl .nil) ⟨a, dx, gs, l, ys, rfl, hH, hf, hl, fun it hn hs => ⟨it, rfl, hn, hs, rfl⟩⟩) fun r s' hq => ?_)
  cases r with
  | error er => exact (cx_no hq).elim
  | ok fl =>
    cases fl with
    | ret u =>
      obtain ⟨v, H', I3, rv, it, rfl, hn, hsz, rfl⟩ := I.after hq
      cases rv
      have hob : s'.heap.get? it = some (GNX.itObj l 0) := (show _ ∧ _ from I3.hok it _ upd_same).1
      have hT : s'.TypeIs (.ref it) "list_iterator" := ⟨_, hob, rfl⟩
      unfold PySem.W.OwitIt
      exact wpAny_specialOf (name := Str.ofString "__next__") hT slot_listiter_next.lookup (h it s' hn hsz I3)
    | next => exact False.elim hq
    | brk => exact False.elim hq
    | cont => exact False.elim hq
theorem silent_ref (g : Addr) : (match (some (Value.ref g) : Option Value) with
  | some (.builtin id) => true
  | _ => false) = false := rfl
theorem hint_len {A : Around} {E : Value → Shared → Prop} {Q : Bool → Shared → Prop} {a dx l : Addr} {gs : List (Str × V)} {ys : List V} (L : LenC X.prog X.w X.K X.mg X.base C f) (hr : Room 1 A.in1) (e0 : Env0 X.prog X.w X.K X.mg X.base A.in1 X.stack s H) (I : Inv X pins σ H s)
    (hH : H a = some (.ins (ga X.K C) dx gs)) (hf : gs.lookup f = some (.ref l)) (hl : H l = some (.lst ys)) (h : ∀ b s', Inv X pins σ H s' → Q b s') : wpAny (model X.prog X.w) A (Builtin.List.listLengthHint (.ref a)) Q E s := by
  obtain ⟨mA, O, _⟩ := ins_get I.hok hH
  obtain ⟨od, J, _⟩ := O.look
  unfold Builtin.List.listLengthHint
  refine wpAny_bind (wpAny_bind (J.type.here ((PySem.W.looks_findIn I.kIn L.m.at_).here ?_)))
  refine PySem.W.KFB.if_not rfl ?_
  refine PySem.W.KFB.if_so rfl ?_
  refine wpAny_bind (wpAny_rule ?_)
  refine wpAny_bind (wpAny_attempt (len_at L hr e0 I hH hf hl (I.lstM hl).1 fun t s' I' => ?_))
  show wpAny _ _ (if Builtin.List.listTooLong ((ys.length : Int)).toNat then _ else _) _ _ _
  have hz := (I.lstM hl).1
  have e : Builtin.List.listTooLong ((ys.length : Int)).toNat = false := by
    rw [Int.toNat_natCast]
    exact notLongL hz
  rw [e]
  refine PySem.W.KFB.if_not rfl ?_
  exact wpAny_pure (h _ _ I')
theorem call_listO (T : IterC X.prog X.w X.K X.mg X.base C f) (L : LenC X.prog X.w X.K X.mg X.base C f) (hc : X.calm = true) (hr : Room 5 X.A) : CallR X (.type "list") (rListO X.K C f) := by
  intro pins s σ H xs us Q I rv h
  obtain ⟨a, dx, gs, l, ys, rfl, ha, hf, hl, hq⟩ := h
  obtain ⟨u, rfl, ru⟩ := rv.one
  cases ru
  refine callType_codes (Q₁ := fun obj s₁ => obj = .ref s.heap.objs.size ∧ s₁ = { s with heap := s.heap.push { cls := .type "list", data := .seq #[] } }) PySem.F.called_list (PySem.F.typeCall_list_1 _) PySem.F.entry_list_init
    (code_list_new _ ⟨rfl, rfl⟩) fun obj s₁ h₁ => ?_
  obtain ⟨rfl, rfl⟩ := h₁
  have hS : (s.heap.push { cls := .type "list", data := .seq #[] }).get? s.heap.objs.size = some { cls := .type "list", data := .seq #[] } := Heap.get?_push_size _ rfl
  refine ⟨⟨_, hS, rfl⟩, PySem.F.args_list_init_2 _ _, ?_⟩
  have fr : H s.heap.objs.size = none := I.hok.fresh (Nat.le_refl _)
  have hQ := hq _ fr
  have I1 : Inv X pins σ (upd H s.heap.objs.size (.lst [])) { s with heap := s.heap.push { cls := .type "list", data := .seq #[] } } := I.lnew (its := []) (t' := s.toks) .nil (Nat.zero_le _)
  show wpAny _ _ (do let old ← Builtin.List.listItems (.ref s.heap.objs.size); Builtin.List.listUpdate (.ref s.heap.objs.size) (fun _ => #[]); letGo old.toList.reverse; Builtin.List.listExtendWith (.ref s.heap.objs.size) (.ref a) .none) _ _ _
  refine wpAny_bind ?_
  unfold Builtin.List.listItems
  refine wpAny_bind (wpAny_seqItems hS rfl (wpAny_pure ?_))
  show wpAny _ _ (updateSeq s.heap.objs.size (fun _ => #[]) >>= fun _ => letGo (#[] : Array Value).toList.reverse >>= fun _ => Builtin.List.listExtendWith (.ref s.heap.objs.size) (.ref a) .none) _ _ _
  refine wpAny_bind (wpAny_updateSeq hS rfl ?_)
  have I2 := I1.lset (f := fun _ => #[]) (its := []) (its' := []) (ys := []) (t' := s.toks) upd_same hS rfl .nil (Nat.zero_le _)
  rw [upd_upd] at I2
  refine wpAny_bind (wpAny_letGo ?_)
  generalize s.heap.objs.size = q at *
  have hne : q ≠ a := fun z => by rw [z, ha] at fr; cases fr
  have hql : l ≠ q := fun z => by rw [← z, hl] at fr; cases fr
  have ha2 : upd H q (.lst []) a = some (.ins (ga X.K C) dx gs) := by rw [upd_ne (Ne.symm hne)]; exact ha
  have hl2 : upd H q (.lst []) l = some (.lst ys) := by rw [upd_ne hql]; exact hl
  obtain ⟨mA, O, _⟩ := ins_get I2.hok ha2
  obtain ⟨od, J, _⟩ := O.look
  unfold Builtin.List.listExtendWith
  refine wpAny_bind (J.type.here ?_)
  have h1 : Builtin.List.listSameRef (.ref q) (.ref a) = false := by simp [Builtin.List.listSameRef, hne]
  have h2 : (Value.ref (ga X.K C) == Value.type "list") = false := rfl
  have h3 : (Value.ref (ga X.K C) == Value.type "tuple") = false := rfl
  simp only [h1, h2, h3, Bool.or_false, Bool.false_eq_true, if_false]
  have r1 : Room 4 X.A.in1 := Room.in1 hr
  have r2 : Room 3 X.A.in1.in1 := Room.in1 r1
  have r3 : Room 2 X.A.in1.in1.in1 := Room.in1 r2
  refine wpAny_bind (iter_at T (r2.mono (by decide)) I2.env0.in1.in1 I2 ha2 hf hl2 fun it s3 hn hsz I3 => ?_)
  have hqi : it ≠ q := fun z => by rw [z, upd_same] at hn; cases hn
  have hia : a ≠ it := fun z => by rw [← z, ha2] at hn; cases hn
  have hil : l ≠ it := fun z => by rw [← z, hl2] at hn; cases hn
  refine wpAny_bind (wpAny_holding (hint_len L (r3.mono (by decide)) I3.env0.in1.in1.in1 I3 (by rw [upd_ne hia]; exact ha2) hf (by rw [upd_ne hil]; exact hl2) fun b s4 I4 => ?_))
  have hob : s4.heap.get? it = some (GNX.itObj l 0) := (show _ ∧ _ from I4.hok it _ upd_same).1
  have hsz2 : X.s_0.heap.objs.size ≤ it := Nat.le_trans I2.sz hsz
  have F4 : FpOk X pins (ItX.dropH (upd (upd H q (.lst [])) it (ItO l it 0)) it) it := ItX.inv_fp I4 upd_same hsz2
  have I5 := ItX.inv_drop I4 upd_same
  rw [ItX.dropH_upd hn] at I5 F4
  have fin : ∀ (H' : Hp) (s' : Shared), Inv X pins σ H' s' → (H' q = some (.lst ys) ∧ ∀ b, b ≠ q → H' b = upd H q (.lst []) b) → wants (fun r s₂ => r = .none ∧ EP X pins σ Q (.ref q) s₂) X.xe (.ok (.ret .none)) s' := fun H' s' I' hq' => by
    have e : H' = upd H q (.lst ys) := funext fun b => by
      by_cases z : b = q
      · rw [z, upd_same, hq'.1]
      · rw [hq'.2 b z, upd_ne z, upd_ne z]
    rw [e] at I'
    exact ⟨rfl, .ref q, _, I', rfl, hQ⟩
  have loop : ∀ s', Inv X pins σ (upd H q (.lst [])) s' → s'.heap.IsListIter it l 0 → codeAny (model X.prog X.w) X.A.in1 (.builtin "list.extend.loop" ⟨[.ref q, .ref it, .none], []⟩) (wants (fun r s₂ => r = .none ∧ EP X pins σ Q (.ref q) s₂) X.xe) s' :=
    fun s' I' hit => ext_loop (A1 := X.A.in1) hc (I'.ok.hd hc) hql hqi fin ys.length 0 _ s' (by omega) I' F4 ⟨by rw [upd_same, List.take_zero], fun b hb => rfl⟩ hl2 hit
  have hit4 : s4.heap.IsListIter it l 0 := ⟨_, hob, rfl, rfl⟩
  refine wpAny_ite_split (fun _ => ?_) (fun _ => wpAny_pure ⟨plainId_quiet PySem.F.plain_extend_loop _, loop s4 I5 hit4⟩)
  refine wpAny_bind (wpAny_rule ?_)
  refine wpAny_bind ?_
  show wpAny _ _ (updateSeq q (·.push .none) >>= fun _ => updateSeq q (·.pop)) _ _ _
  obtain ⟨z5, its5, k5, r5, hl5, e5⟩ := I5.lstM upd_same
  cases r5
  refine wpAny_bind (wpAny_updateSeq e5 rfl ?_)
  have I6 := I5.lset (f := (·.push Value.none)) (its' := [Value.none]) (ys := [.non]) (t' := s4.toks) upd_same e5 (by simp) (.cons rfl .nil) (by rw [List.length_singleton, sizeLine_eq]; decide)
  obtain ⟨z7, its7, k7, r7, hl7, e7⟩ := I6.lstM upd_same
  obtain ⟨u7, rfl, ru7⟩ := r7.one
  refine wpAny_updateSeq e7 rfl ?_ (by show 1 ≤ sizeLine; rw [sizeLine_eq]; decide) (by show 0 ≤ sizeLine + 1; exact Nat.zero_le _)
  have I8 := I6.lset (f := (·.pop)) (its := [u7]) (its' := []) (ys := []) (t' := s4.toks) upd_same e7 (by rfl) .nil (Nat.zero_le _)
  rw [upd_upd, upd_upd] at I8
  refine wpAny_pure ⟨plainId_quiet PySem.F.plain_extend_loop _, loop _ I8 ?_⟩
  obtain ⟨o, ho, c1, d1⟩ := hit4
  exact ⟨o, (Heap.get?_update_other _ (Obj.mapSeq (·.pop)) (Ne.symm hqi)).trans ((Heap.get?_update_other _ (Obj.mapSeq (·.push Value.none)) (Ne.symm hqi)).trans ho), c1, d1⟩
end
section
variable {K : PySem.W.Frag} {C f : Str}
theorem cb_lenO : CbD K (gLenO C f) (rLenO K C f) := fun M H xs vs Q0 Q c r h q => by
  match xs, h with
  | [d], h =>
    obtain ⟨v, u, rfl, r1, r2⟩ := r.uncons
    cases r2.unnil
    obtain ⟨a, dx, gs, l, ds, vs, rfl, h1, h2, h3, h4, h5, h6⟩ := onRows_at h r1 c
    exact ⟨a, dx, gs, l, vs, rfl, h1, h2, h3, by rw [h5.length]; exact q _ M _ H h6 rfl c (Stp.refl M H)⟩
theorem cb_listO : CbD K (gListO C f) (rListO K C f) := fun M H xs vs Q0 Q c r h q => by
  match xs, h with
  | [d], h =>
    obtain ⟨v, u, rfl, r1, r2⟩ := r.uncons
    cases r2.unnil
    obtain ⟨a, dx, gs, l, ds, vs, rfl, h1, h2, h3, h4, h5, h6⟩ := onRows_at h r1 c
    exact ⟨a, dx, gs, l, vs, rfl, h1, h2, h3, new_lst c h5 h6 q⟩
theorem cb_listOM : CbD K (gListOM C f) (rListO K C f) := fun M H xs vs Q0 Q c r h q => by
  match xs, h with
  | [d], h =>
    obtain ⟨v, u, rfl, r1, r2⟩ := r.uncons
    cases r2.unnil
    obtain ⟨a, dx, gs, l, ds, vs, rfl, h1, h2, h3, h4, h5, h6⟩ := onRows_at h r1 c
    exact ⟨a, dx, gs, l, vs, rfl, h1, h2, h3, new_lstM c h5 h6 q⟩
end
end DL

namespace DL
open PySem L2 He
/-! ### a def with a star parameter -/
def starSp (n : Nat) (sp : DSp) : DSp := fun ds M Q E => n ≤ ds.length ∧ ds.length ≤ 16777216 ∧ sp (ds.take n ++ [.tup (ds.drop n)]) M Q E
theorem def_star {P : Program} {w : World} {K : PySem.W.Frag} {mg : Str → Option Value} {base : Heap} {x qual : Str} {st : Stmt} {f : Addr} {fd : FuncData} {N ps : List Str} {pv : Str} {k : Nat} {sp : DSp} {t : DTS}
    (F : FunD K x qual (defArgs st) (defBody st) (defScope st) [] [] f fd) (S : FnScope N (ps ++ [pv]) (defScope st)) (len : ∀ ds M Q E, sp ds M Q E → ds.length = ps.length + 1)
    (hbind : ∀ (kV doc pm : Value) (an : Option Addr) (cdv ct : Value) (us rest : List Value), us.length = ps.length → bindArgs (PySem.W.fnOf x qual (defArgs st) (defBody st) (defScope st) .none kV doc pm an cdv ct) ⟨us ++ rest, []⟩ = (newTuple rest >>= fun t => pure (ps.zip us ++ [(pv, t)])))
    (hd : ∀ (cdv : Value) (A : Around) (outer : List Env) (s : Shared) (H : Hp) (E : XK), Gd (cxOf (L2.CX P w) P w K mg base N qual (defScope st) f cdv A outer s H E) (fun c d _ H => E c d H) → Room k (cxOf (L2.CX P w) P w K mg base N qual (defScope st) f cdv A outer s H E).A →
      DSs (cxOf (L2.CX P w) P w K mg base N qual (defScope st) f cdv A outer s H E) (fun c d _ H => E c d H) (defBody st) t)
    (hp : ∀ ds M Q E, sp ds M Q E → t { nx := fun _ M' => Q .non M', rt := Q, xc := fun x _ M' => E x M' } (ds.map some ++ List.replicate (N.length - (ps.length + 1)) none) M) :
    FnR P w K mg base (L2.CX P w) (k + 1) f (lsp K (starSp ps.length sp)) := by
  obtain ⟨oc, od, dV, kV, doc, pm, an, cdv, ct, osl, rfl, lk, hcd, hD, _⟩ := F.ex
  have e0 : dV = .none := by
    rcases hD with ⟨_, e⟩ | ⟨e, _⟩
    · exact e
    · exact absurd rfl e
  subst e0
  refine FnR.imp (StX.fn_star (k := k) (sp := lsp K sp) (ps := ps) (pv := pv) lk hcd S StX.cxUp (hbind kV doc pm an cdv ct) fun A outer s H vs Q E hr h => ?_) fun vs H Q E h => ?_
  · obtain ⟨ds, M, Q0, E0, r, c, h, hq, he⟩ := h
    have hl := len ds M Q0 E0 h
    refine ⟨lifS K (fun c d _ H => E c d H) t, ?_, ?_⟩
    · refine hd cdv A outer s H E ?_ hr
      exact ⟨rfl, takes_of rfl rfl rfl rfl, by have := hr.un; show A.units + 3 + 64 < cLine; have e : (A.deeper (PyProof.Rows.envOfC qual (defScope st) s.heap.objs.size f cdv)).units = A.units + 3 := rfl; omega, passes_of rfl, S.nd⟩
    · refine ⟨_, M, { nx := fun _ M' => Q0 .non M', rt := Q0, xc := fun x _ M' => E0 x M' }, ⟨?_, c, fun τ' M' σ' H' h r c' s' => hq .non M' .non H' h rfl c' s', hq, fun _ _ _ _ h => h.elim, fun _ _ _ _ h => h.elim, fun x τ' M' c d σ' H' h r _ c' s' => he x M' c d H' h r c' s'⟩, hp ds M Q0 E0 h⟩
      unfold L2.start
      rw [r.length, hl]
      exact RepS.start _ r
  · obtain ⟨ds, M, Q0, E0, r, c, ⟨h1, h2, h3⟩, hq, he⟩ := h
    have hl := r.length
    refine ⟨vs.take ps.length, vs.drop ps.length, (List.take_append_drop _ _).symm, by rw [List.length_take]; omega, by rw [List.length_drop, line24]; omega, fun p hp => ?_⟩
    have st : Stp M H M (upd H p (.tup (vs.drop ps.length))) := Stp.new hp
    refine ⟨ds.take ps.length ++ [.tup (ds.drop ps.length)], M, Q0, E0, ((r.take _).stp st).append (.cons (rep_tup upd_same (c.free hp) ((r.drop _).stp st)) .nil), c.new hp, h3, fun d M' v H' q r' c' s' => hq d M' v H' q r' c' (st.trans s'), fun x M' cc d H' q r' c' s' => he x M' cc d H' q r' c' (st.trans s')⟩
/-! ### rows -/
def onIns {K : List (Str × D) → Prop} (C : Str) (_ : Lk K) (o : Option MO) : Prop := match o with
  | some (.ins c fs) => c = C ∧ K fs
  | _ => False
theorem onIns_i {K : List (Str × D) → Prop} {C : Str} {fs : List (Str × D)} : onIns (K := K) C ⟨⟩ (some (.ins C fs)) = K fs := by show (C = C ∧ K fs) = K fs; simp
def onLst {K : List D → Prop} (_ : Lk K) (d : D) : Prop := match d with
  | .lst ds => K ds
  | _ => False
theorem onLst_l {K : List D → Prop} {ds : List D} : onLst (K := K) ⟨⟩ (.lst ds) = K ds := pq Iff.rfl
def isInsM (C : Str) (o : Option MO) : Prop := match o with
  | some (.ins c _) => c = C
  | _ => False
theorem isIns_r {C : Str} {M : Mu} {a : Addr} : isIns C M (.ref a) = isInsM C (M a) := pq Iff.rfl
theorem isInsM_i {C : Str} {fs : List (Str × D)} : isInsM C (some (.ins C fs)) = True := by show (C = C) = True; simp
def noFM (m : Str) (o : Option MO) : Prop := match o with
  | some (.ins _ fs) => ¬ m ∈ fs.map (·.1)
  | _ => False
theorem noF_r {m : Str} {M : Mu} {a : Addr} : noF M m (.ref a) = noFM m (M a) := pq Iff.rfl
theorem noFM_i {m C : Str} {fs : List (Str × D)} : noFM m (some (.ins C fs)) = ¬ m ∈ fs.map (·.1) := pq Iff.rfl
section
variable {C f m : Str} {sp : DSp} {ta tb te to tv ti : DTE} {tl : DTA} {τ : DSt} {M : Mu} {Q : DK} {E : DX} {D0 : DEnds} {i : Nat} {Qs : DSt → Mu → Prop} {d : D}
theorem u_fld : dFld C f te τ M Q E = te τ M (fun d M1 => onRef (K := fun a => onIns (K := fun fs => onSome (K := fun x => Q x M1) ⟨⟩ (fs.lookup f)) C ⟨⟩ (M1 a)) ⟨⟩ d) E := by
  unfold dFld
  congr 1
  funext d M1
  cases d with
  | ref a =>
    show (match M1 a with
      | some (.ins c fs) => c = C ∧ (match fs.lookup f with
        | some x => Q x M1
        | none => False)
      | _ => False) = onIns (K := fun fs => onSome (K := fun x => Q x M1) ⟨⟩ (fs.lookup f)) C ⟨⟩ (M1 a)
    cases M1 a with
    | none => rfl
    | some mo => cases mo with
      | ins c fs => show (c = C ∧ (match fs.lookup f with
        | some x => Q x M1
        | none => False)) = (c = C ∧ onSome (K := fun x => Q x M1) ⟨⟩ (fs.lookup f)); cases fs.lookup f <;> rfl
      | _ => rfl
  | _ => rfl
theorem u_setF : dSetF C f to tv D0 τ M = tv τ M (fun y M1 => to τ M1 (fun d M2 => onRef (K := fun a => onIns (K := fun fs => fs.length < 1000 ∧ D0.nx τ (put M2 a (.ins C (putG f y fs)))) C ⟨⟩ (M2 a)) ⟨⟩ d) (D0.ex τ)) (D0.ex τ) := pq Iff.rfl
theorem u_make : dMake C sp tl τ M Q E = tl τ M (fun ds M1 => ∀ p, M1 p = none → callK (K := fun d M2 => d = .non ∧ Q (.ref p) M2) (L := E) ⟨⟩ ⟨⟩ sp (.ref p :: ds) (put M1 p (.ins C []))) E := pq Iff.rfl
theorem u_binL : dBinL C sp ta tb τ M Q E = ta τ M (fun x M1 => tb τ M1 (fun y M2 => isIns C M2 x ∧ ((∃ z, y = .str z) ∨ isIns C M2 y) ∧ callK (K := Q) (L := E) ⟨⟩ ⟨⟩ sp [x, y] M2) E) E := pq Iff.rfl
theorem u_binR : dBinR C sp ta tb τ M Q E = ta τ M (fun x M1 => tb τ M1 (fun y M2 => (∃ z, x = .str z) ∧ isIns C M2 y ∧ callK (K := Q) (L := E) ⟨⟩ ⟨⟩ sp [y, x] M2) E) E := pq Iff.rfl
theorem u_inO : dInO C sp ta tb τ M Q E = ta τ M (fun y M1 => tb τ M1 (fun x M2 => isIns C M2 x ∧ callK (K := fun r M3 => onBl (K := fun b => Q (.bl b) M3) ⟨⟩ r) (L := E) ⟨⟩ ⟨⟩ sp [x, y] M2) E) E := pq Iff.rfl
theorem u_getO : dGetO C sp ta tb τ M Q E = ta τ M (fun x M1 => tb τ M1 (fun y M2 => isIns C M2 x ∧ callK (K := Q) (L := E) ⟨⟩ ⟨⟩ sp [x, y] M2) E) E := pq Iff.rfl
theorem u_setO : dgSetO C sp to ti d τ M Qs E = to τ M (fun x M1 => ti τ M1 (fun y M2 => isIns C M2 x ∧ callK (K := fun _ M3 => Qs τ M3) (L := E) ⟨⟩ ⟨⟩ sp [x, y, d] M2) E) E := pq Iff.rfl
theorem u_augO : dAugO C sp i te D0 τ M = onVar (K := fun x => te τ M (fun y M1 => isIns C M1 x ∧ callK (K := fun r M2 => D0.nx (τ.set i (some r)) M2) (L := D0.ex τ) ⟨⟩ ⟨⟩ sp [x, y] M1) (D0.ex τ)) ⟨⟩ τ[i]? := pq Iff.rfl
theorem u_prp : dPrp C sp te τ M Q E = te τ M (fun d M1 => isIns C M1 d ∧ callK (K := Q) (L := noX) ⟨⟩ ⟨⟩ sp [d] M1) E := pq Iff.rfl
theorem u_inv : dInv C sp te τ M Q E = te τ M (fun d M1 => isIns C M1 d ∧ callK (K := Q) (L := E) ⟨⟩ ⟨⟩ sp [d] M1) E := pq Iff.rfl
theorem u_meth : dMeth C m sp to tl τ M Q E = to τ M (fun x M1 => isIns C M1 x ∧ noF M1 m x ∧ tl τ M1 (fun ds M2 => callK (K := Q) (L := E) ⟨⟩ ⟨⟩ sp (x :: ds) M2) E) E := pq Iff.rfl
theorem rows_r {a : Addr} {K : List D → Prop} : onRows C f M (.ref a) K = onIns (K := fun fs => onSome (K := fun d => onLst (K := K) ⟨⟩ d) ⟨⟩ (fs.lookup f)) C ⟨⟩ (M a) := by
  show (match M a with
    | some (.ins c fs) => c = C ∧ (match fs.lookup f with
      | some (.lst ds) => K ds
      | _ => False)
    | _ => False) = onIns (K := fun fs => onSome (K := fun d => onLst (K := K) ⟨⟩ d) ⟨⟩ (fs.lookup f)) C ⟨⟩ (M a)
  cases M a with
  | none => rfl
  | some mo => cases mo with
    | ins c fs =>
      show (c = C ∧ (match fs.lookup f with
        | some (.lst ds) => K ds
        | _ => False)) = (c = C ∧ onSome (K := fun d => onLst (K := K) ⟨⟩ d) ⟨⟩ (fs.lookup f))
      cases fs.lookup f with
      | none => rfl
      | some d => cases d <;> rfl
    | _ => rfl
theorem lenO_r {d : D} : cbK (K := Q) ⟨⟩ (gLenO C f) [d] M = onRows C f M d (fun ds => Q (.int ds.length) M) := pq Iff.rfl
theorem listO_r {d : D} : cbK (K := Q) ⟨⟩ (gListO C f) [d] M = onRows C f M d (fun ds => Q (.lst ds) M) := pq Iff.rfl
theorem listOM_r {d : D} : cbK (K := Q) ⟨⟩ (gListOM C f) [d] M = onRows C f M d (fun ds => ∀ p, M p = none → Q (.ref p) (put M p (.lst ds))) := pq Iff.rfl
def isCK {K : Bool → Prop} (_ : Lk K) (C : Str) (o : Option MO) : Prop := match o with
  | some (.ins c _) => c = C ∧ K true
  | some (.lst _) => K false
  | some (.dK _) => K false
  | _ => False
theorem isCK_i {K : Bool → Prop} {fs : List (Str × D)} : isCK (K := K) ⟨⟩ C (some (.ins C fs)) = K true := by show (C = C ∧ K true) = K true; simp
theorem isCK_l {K : Bool → Prop} {ds : List D} : isCK (K := K) ⟨⟩ C (some (.lst ds)) = K false := pq Iff.rfl
theorem isC_r {a : Addr} : cbK (K := Q) ⟨⟩ (gIsC C) [.ref a, .cl C] M = isCK (K := fun b => Q (.bl b) M) ⟨⟩ C (M a) := by
  show (C = C ∧ ((isInsM C (M a) ∧ Q (.bl true) M) ∨ ((∃ n, tyD M (.ref a) = some n) ∧ Q (.bl false) M))) = isCK (K := fun b => Q (.bl b) M) ⟨⟩ C (M a)
  have e : tyD M (.ref a) = (match M a with
    | some (.lst _) => some "list"
    | some (.dK _) => some "dict"
    | _ => none) := rfl
  rw [e]
  cases M a with
  | none => simp [isInsM, isCK]
  | some mo => cases mo <;> simp [isInsM, isCK]
theorem isC_s {x : Tx} : cbK (K := Q) ⟨⟩ (gIsC C) [.str x, .cl C] M = Q (.bl false) M := by
  show (C = C ∧ ((False ∧ Q (.bl true) M) ∨ ((∃ n, (some "str" : Option String) = some n) ∧ Q (.bl false) M))) = _
  simp
theorem isC_i {x : Int} : cbK (K := Q) ⟨⟩ (gIsC C) [.int x, .cl C] M = Q (.bl false) M := by
  show (C = C ∧ ((False ∧ Q (.bl true) M) ∨ ((∃ n, (some "int" : Option String) = some n) ∧ Q (.bl false) M))) = _
  simp
theorem isC_b {x : Bool} : cbK (K := Q) ⟨⟩ (gIsC C) [.bl x, .cl C] M = Q (.bl false) M := by
  show (C = C ∧ ((False ∧ Q (.bl true) M) ∨ ((∃ n, (some "bool" : Option String) = some n) ∧ Q (.bl false) M))) = _
  simp
theorem isC_n : cbK (K := Q) ⟨⟩ (gIsC C) [.non, .cl C] M = Q (.bl false) M := by
  show (C = C ∧ ((False ∧ Q (.bl true) M) ∨ ((∃ n, (some "NoneType" : Option String) = some n) ∧ Q (.bl false) M))) = _
  simp
theorem isC_l {x : List D} : cbK (K := Q) ⟨⟩ (gIsC C) [.lst x, .cl C] M = Q (.bl false) M := by
  show (C = C ∧ ((False ∧ Q (.bl true) M) ∨ ((∃ n, (some "list" : Option String) = some n) ∧ Q (.bl false) M))) = _
  simp
theorem isC_t {x : List D} : cbK (K := Q) ⟨⟩ (gIsC C) [.tup x, .cl C] M = Q (.bl false) M := by
  show (C = C ∧ ((False ∧ Q (.bl true) M) ∨ ((∃ n, (some "tuple" : Option String) = some n) ∧ Q (.bl false) M))) = _
  simp
theorem putG_0 {α : Type} {x : α} : putG f x [] = [(f, x)] := rfl
theorem putG_1 {α : Type} {x y : α} {r : List (Str × α)} : putG f x ((f, y) :: r) = (f, x) :: r := by unfold putG; rw [if_pos rfl]
theorem lk_1 {α : Type} {x : α} {r : List (Str × α)} : List.lookup f ((f, x) :: r) = some x := by rw [List.lookup_cons, beq_self_eq_true]
end
/-! ### the hook with defs at any place -/
abbrev AlZ : Type := AlY × (Bool × List He5.FnW)
def obsZ (fa : List Fa) (fn : List DefD) (gb : List (PySem.W.Frag → Bool)) (ts : List Tab) (fx : List He5.DefA) (K : PySem.W.Frag) : AlZ := (obsY fa fn gb ts K, fx.all fun d => d.ok K, fx.map fun d => He5.fnA K (d.at_ K))
def valZ (fn : List DefD) (ts : List Tab) (fx : List He5.DefA) (w : World) : AlZ := (valY fn ts w, true, fx.map He5.DefA.val)
def SaysZ (fa : List Fa) (fn : List DefD) (gb : List (PySem.W.Frag → Bool)) (ts : List Tab) (fx : List He5.DefA) (w : World) (K : PySem.W.Frag) : Prop := obsZ fa fn gb ts fx K = valZ fn ts fx w
def obsZG (n : Nat) (fa : List Fa) (fn : List DefD) (gb : List (PySem.W.Frag → Bool)) (ts : List Tab) (fx : List He5.DefA) (g : Addr → Option Obj) : AlZ := obsZ fa fn gb ts fx (frG g (He5.asA g n))
def hookZ (n : Nat) (fa : List Fa) (fn : List DefD) (gb : List (PySem.W.Frag → Bool)) (ts : List Tab) (fx : List He5.DefA) : PySem.W.Hook where
  α := AlZ
  obs := fun s => obsZG n fa fn gb ts fx s.heap.get?
  val := fun w => valZ fn ts fx w
  says := fun w h => ∃ K : PySem.W.Frag, K.In h ∧ SaysZ fa fn gb ts fx w K
  of := fun _ _ e => ⟨_, frG_in, e⟩
  keeps := fun _ _ _ ⟨K, hK, c⟩ k => ⟨K, hK.keeps k, c⟩
theorem obsZG_eq {n : Nat} {fa : List Fa} {fn : List DefD} {gb : List (PySem.W.Frag → Bool)} {ts : List Tab} {fx : List He5.DefA} {g : Addr → Option Obj} {s : Shared} (h : ∀ a, g a = s.heap.get? a) : obsZG n fa fn gb ts fx g = (hookZ n fa fn gb ts fx).obs s := by
  rw [funext h] <;> rfl
section
variable {fa : List Fa} {fn : List DefD} {gb : List (PySem.W.Frag → Bool)} {ts : List Tab} {fx : List He5.DefA} {w : World} {K : PySem.W.Frag}
theorem SaysZ.y (c : SaysZ fa fn gb ts fx w K) : SaysY fa fn gb ts w K := congrArg (fun z : AlZ => z.1) c
theorem SaysZ.def_ (c : SaysZ fa fn gb ts fx w K) (i : Nat) {d : He5.DefA} (h : fx[i]? = some d := by rfl) : ∃ fd, FunD K d.name d.qual d.params d.body d.scope (d.dvs K) (d.kws K) (d.at_ K) fd := by
  have c2 : (fx.all fun d => d.ok K) = true := congrArg (fun z : AlZ => z.2.1) c
  have e : fx.map (fun d => He5.fnA K (d.at_ K)) = fx.map He5.DefA.val := congrArg (fun z : AlZ => z.2.2) c
  have e2 : (fx.map fun d => He5.fnA K (d.at_ K))[i]? = (fx.map He5.DefA.val)[i]? := by rw [e]
  rw [List.getElem?_map, List.getElem?_map, h] at e2
  exact He5.DefA.funD (Option.some.inj e2) (List.all_eq_true.mp c2 d (List.mem_of_getElem? h))
end
end DL

namespace DL
open PySem L2 He
/-! ### {k: v for ..} -/
def dEmD (p : Addr) (tk tv : DTE) : DSt → Mu → (Mu → Prop) → Prop := fun τ M Nx => tk τ M (fun y M1 => tv τ M1 (fun z M2 => ∃ (kvs : List (DKey × D)) (k : DKey), y = kD k ∧ M2 p = some (.dK kvs) ∧ kvs.length < sizeLine ∧ Nx (put M2 p (.dK (putD kvs k z)))) noX) noX
def emtD (p : Addr) (tk tv : TE) : L2.St → Hp → (Hp → Prop) → Prop := fun σ H Nx => tk σ H fun y H4 => tv σ H4 fun z H5 => ∃ kvs k, y = kV k ∧ H5 p = some (.dK kvs) ∧ kvs.length < sizeLine ∧ Nx (upd H5 p (.dK (putK kvs k z)))
def dDc (ti : DTI) (g : DTG) (tt : DTT) (vs : List Nat) (tk tv : DTE) : DTE := fun τ M Q E => ti τ M (fun ds M1 => ∀ p, M1 p = none → wTs g tt vs τ (dEmD p tk tv) (fun M2 => Q (.ref p) M2) ds (put M1 p (.dK []))) E
theorem emD_ok {K : PySem.W.Frag} {tk tv : DTE} (p : Addr) : Inn K (dEmD p tk tv) (emtD p (lif K W0 (RD K) tk) (lif K W0 (RD K) tv)) := fun τ σ M H Nx0 Nx rs co hN h => by
  refine ⟨τ, M, _, noX, ⟨rs, co, fun yd M6 yv H6 h6 r6 c6 s6 => ?_, fun _ _ _ _ _ z => z.elim⟩, h⟩
  refine ⟨τ, M6, _, noX, ⟨rs.stp s6, c6, fun zd M7 zv H7 h7 r7 c7 s7 => ?_, fun _ _ _ _ _ z => z.elim⟩, h6⟩
  obtain ⟨kvs, k, rfl, ha, hl, h8⟩ := h7
  obtain ⟨ks, hv, ek, ra⟩ := mu_dK c7 ha
  have hlen := congrArg List.length ek
  rw [List.length_map, List.length_map] at hlen
  have st := Stp.write (H := H7) (o := .dK (putK ks (kO k) zv)) (mo' := .dK (putD kvs k zd)) ha
  obtain ⟨p1, p2⟩ := put_rep (k := k) r7 ek ra
  have ekv : yv = kV (kO k) := by
    cases k with
    | inl i => exact r6
    | inr z => exact r6
  exact ⟨ks, kO k, ekv, hv, by rw [hlen]; exact hl, hN _ _ h8 (c7.write ha ⟨_, rfl, p1, p2⟩) ((s6.trans s7).trans st)⟩
section
variable {X : Cx} {W : WX} {kx vx tg iter : Expr} {ifs : List Expr} {scope : Scope} {pos : Pos} {ti : DTI} {g : DTG} {tt : DTT} {tk tv : DTE}
structure BlkDc (B : Cx) (tg : Expr) (g : DTG) (ifs : List Expr) (tt : DTT) (vs : List Nat) (kx vx : Expr) (tk tv : DTE) : Prop where
  g : DGw B W0 tg g vs
  t : DTs B W0 ifs tt
  k : DE B W0 kx tk
  v : DE B W0 vx tv
theorem de_dc (own : List (Str × Nat)) (G : Gd X W) (hi : DI X W tg iter ti) (hb : ∀ (s : Shared) (H : Hp) (C : Addr) (cl : List (Str × Addr)) (fp : List Addr), Gd (X.blk s H scope (compEnvC scope cl C X.env) fp) W0 → BlkDc (X.blk s H scope (compEnvC scope cl C X.env) fp) tg g ifs tt (own.map (·.2)) kx vx tk tv)
    (ok : blkC X.N X.env.scope scope own = true := by first | kernel_rfl | decide +kernel) (hs : ∀ x, foldedSetIterable iter X.env x = pure x := by intro _; rfl) : DE X W (.DictComp kx vx [⟨tg, iter, ifs, 0⟩] scope pos) (dDc ti g tt (own.map (·.2)) tk tv) :=
  PE.of (pe_dc (own := own) (g := lifGw X.K W0 g (own.map (·.2))) (tt := lif X.K W0 RB tt) (tk := lif X.K W0 (RD X.K) tk) (tv := lif X.K W0 (RD X.K) tv) G.calm G.nd hi (blkOk_by ok) (fun s H C cl fp => (hb s H C cl fp (G.blk ..)).g) (fun s H C cl fp => (hb s H C cl fp (G.blk ..)).t)
      (fun s H C cl fp => (hb s H C cl fp (G.blk ..)).k) (fun s H C cl fp => (hb s H C cl fp (G.blk ..)).v) hs) fun σ H Q ⟨τ, M, Q0, E0, S, h⟩ => by
    refine S.sub h fun ds M1 J H1 h1 r1 S1 s1 => ?_
    intro D hD
    exact turns_ok (emD_ok D) r1 S1.rs (fun M' H' n c' s' => S1.q (.ref D) M' (.ref D) H' n rfl c' s') (Stp.newM hD) (S1.co.newM hD (mo := .dK []) ⟨[], rfl, rfl, .nil⟩) (h1 D (S1.co.free hD))
/-- name = {..} on one line -/
theorem ps_setDc {i : Nat} {y : Str} {py pos spos : Pos} {own : List (Str × Nat)} {wi : TI} {g : TG} {tt : TT} {tk tv : TE} (hc : X.calm = true) (hN : X.N.Nodup) (hy : X.N[i]? = some y) (hyl : X.env.scope.names.lookup y = some .local)
    (hsw : swapsWith (.DictComp kx vx [⟨tg, iter, ifs, 0⟩] scope pos) (some (.Name y py)) spos.line X.env = pure true) (hi : PI X tg iter wi) (ok : BlkOk X.N X.env.scope scope own)
    (hg : ∀ (s : Shared) (H : Hp) (C : Addr) (cl : List (Str × Addr)) (fp : List Addr), PG (X.blk s H scope (compEnvC scope cl C X.env) fp) tg g) (ht : ∀ (s : Shared) (H : Hp) (C : Addr) (cl : List (Str × Addr)) (fp : List Addr), PTs (X.blk s H scope (compEnvC scope cl C X.env) fp) ifs tt)
    (hk : ∀ (s : Shared) (H : Hp) (C : Addr) (cl : List (Str × Addr)) (fp : List Addr), PE (X.blk s H scope (compEnvC scope cl C X.env) fp) kx tk)
    (he : ∀ (s : Shared) (H : Hp) (C : Addr) (cl : List (Str × Addr)) (fp : List Addr), PE (X.blk s H scope (compEnvC scope cl C X.env) fp) vx tv) (hs : ∀ x, foldedSetIterable iter X.env x = pure x) :
    PS X (.Assign [.Name y py] (.DictComp kx vx [⟨tg, iter, ifs, 0⟩] scope pos) spos) (tAsg (tDc wi g tt tk tv (own.map (·.2))) (gName i)) := by
  refine ⟨fun P s σ H D I h => ?_⟩
  rw [exec_Assign_Name_used _ _ _ _ hsw]
  refine wpAny_bind (wpAny_standAt (wpAny_bind ?_))
  show wpAny _ X.A (do let _ ← comprehension (.DictComp kx vx [⟨tg, iter, ifs, 0⟩] scope pos) scope X.env (firstIterPos [⟨tg, iter, ifs, 0⟩] pos) newDict false (eval iter X.env) (some (assign (.Name y py) X.env))) _ _ s
  have h : tDc wi g tt tk tv (own.map (·.2)) σ H (fun x H1 => gName i x σ H1 D.nx) := h
  refine wpAny_bind (thn (dc_core (Qf := fun _ z => SP X P D .next z) hc hN I hi ok hg ht hk he hs h fun L C z m H' I' q hn f => ?_) fun _ z hq => wpAny_pure (wpAny_pure hq))
  show wpAny _ _ (assign (.Name y py) X.env (.ref L)) _ _ _
  refine wpAny_assign_Name (store_ok2 (v := V.ref L) I' hN hy (.inl hyl) rfl (fun z2 I2 ⟨a, sb, ha⟩ => ?_) (.inr hyl))
  obtain ⟨g0, g1, g2, g3, g4, g5⟩ := f
  have ne : C ≠ a := ha.elim (fun q => by rw [q]; exact g1) fun q e => g4 y a q e.symm
  refine ⟨m, hn.sameBut sb ne, fun h3 sb3 => ?_⟩
  exact ⟨_, H', I2.turned (t' := z2.toks) (fun b o hb e => (sb3.2 b hb).trans e) g0 g1 g3 g4 g5, q⟩
theorem ds_setDc {y : Str} {spos py : Pos} (j : Nat) (own : List (Str × Nat)) (G : Gd X W) (hi : DI X W tg iter ti) (hb : ∀ (s : Shared) (H : Hp) (C : Addr) (cl : List (Str × Addr)) (fp : List Addr), Gd (X.blk s H scope (compEnvC scope cl C X.env) fp) W0 → BlkDc (X.blk s H scope (compEnvC scope cl C X.env) fp) tg g ifs tt (own.map (·.2)) kx vx tk tv)
    (ok : blkC X.N X.env.scope scope own = true := by first | kernel_rfl | decide +kernel) (hs : ∀ x, foldedSetIterable iter X.env x = pure x := by intro _; rfl) (hy : X.N[j]? = some y := by rfl) (hyl : X.env.scope.names.lookup y = some .local := by rfl)
    (hsw : swapsWith (.DictComp kx vx [⟨tg, iter, ifs, 0⟩] scope pos) (some (.Name y py)) spos.line X.env = pure true := by rfl) : DS X W (.Assign [.Name y py] (.DictComp kx vx [⟨tg, iter, ifs, 0⟩] scope pos) spos) (dSet j (dDc ti g tt (own.map (·.2)) tk tv)) :=
  PS.of (ps_setDc (own := own) (g := lifGw X.K W0 g (own.map (·.2))) (tt := lif X.K W0 RB tt) (tk := lif X.K W0 (RD X.K) tk) (tv := lif X.K W0 (RD X.K) tv) G.calm G.nd hy hyl hsw hi (blkOk_by ok) (fun s H C cl fp => (hb s H C cl fp (G.blk ..)).g) (fun s H C cl fp => (hb s H C cl fp (G.blk ..)).t)
      (fun s H C cl fp => (hb s H C cl fp (G.blk ..)).k) (fun s H C cl fp => (hb s H C cl fp (G.blk ..)).v) hs) fun D1 σ H ⟨τ, M, D0, S, h⟩ => by
    refine S.sub h fun ds M1 J H1 h1 r1 S1 s1 => ?_
    intro D hD
    exact turns_ok (emD_ok D) r1 S1.rs (fun M' H' n c' s' => S1.nx _ M' _ H' n ((S1.rs.stp s').set (d := .ref D) (v := .ref D) rfl j) c' s') (Stp.newM hD) (S1.co.newM hD (mo := .dK []) ⟨[], rfl, rfl, .nil⟩) (h1 D (S1.co.free hD))
end
/-! ### walks while something holds -/
abbrev DTP := DR ((Mu → Prop) × List D)
def ItP (K : PySem.W.Frag) (M : Mu) (H : Hp) (q : (Mu → Prop) × List D) (J : It) : Prop := ∀ M' H', Cor K M' H' → Stp M H M' H' → q.1 M' →
  (∀ i, q.2.length ≤ i → J.stop i H') ∧ (∀ i, i < q.2.length → J.go i H') ∧ ∀ i d v H2, q.2[i]? = some d → J.yld i H' v H2 → Rep K M' H2 d v ∧ Cor K M' H2 ∧ Stp M' H' M' H2
abbrev DIP (X : Cx) (W : WX) (tg iter : Expr) (tr : DTP) : Prop := PI X tg iter (lif X.K W (ItP X.K) tr)
def diKeys (te : DTE) : DTP := fun τ M Q E => te τ M (fun d M1 => match d with
  | .ref a => (match M1 a with
    | some (.fK kvs u) => Q ((fun M => M a = some (.fK kvs u)), keysOf kvs) M1
    | _ => False)
  | _ => False) E
section
variable {X : Cx} {W : WX} {elt tg iter e : Expr} {ifs : List Expr} {scope : Scope} {pos p : Pos} {tr : DTP} {g : DTG} {tt : DTT} {te : DTE} {own : List (Str × Nat)} {vs : List Nat} {x : Str}
theorem di_keys (he : DE X W e te) : DIP X W tg e (diKeys te) := PI.of (pi_keys he) fun σ H R ⟨τ, M, Q0, E0, S, h⟩ => S.sub h fun d M1 v H1 h1 r1 S1 s1 => by
  cases d with
  | ref a =>
    cases r1
    have h2 : (match M1 a with
      | some (.fK kvs u) => Q0 ((fun M => M a = some (.fK kvs u)), keysOf kvs) M1
      | _ => False) := h1
    cases em : M1 a with
    | none => rw [em] at h2; exact h2.elim
    | some mo =>
      rw [em] at h2
      cases mo with
      | fK kvs u =>
        obtain ⟨od, ks, hf, eu, ek, rk⟩ := mu_fK S1.co em
        subst eu
        have hlen : ks.length = (keysOf kvs).length := by
          have := congrArg List.length ek
          rw [List.length_map, List.length_map] at this
          rw [this, keysOf, List.length_map]
        refine ⟨a, od, rfl, .inl ⟨ks, hf, S1.end_ (d := ((fun M => M a = some (.fK kvs (.frz od (.dK ks)))), keysOf kvs)) h2 ?_⟩⟩
        intro M' H' c' s' hp
        have hp : M' a = some (.fK kvs (.frz od (.dK ks))) := hp
        have at_ : H' a = some (.frz od (.dK ks)) := by
          obtain ⟨od', ks', q1, q2, _⟩ := mu_fK c' hp
          rw [q1, q2]
        refine ⟨fun i h => ⟨at_, by show ks.length ≤ i; rw [hlen]; exact h⟩, fun i h => ⟨at_, by rw [hlen]; exact h⟩, fun i d v H2 h y => ?_⟩
        obtain ⟨rfl, key, val, ykv, rfl⟩ := y
        have h : (keysOf kvs)[i]? = some d := h
        have hlt : i < (keysOf kvs).length := by
          rcases Nat.lt_or_ge i (keysOf kvs).length with z | z
          · exact z
          · rw [List.getElem?_eq_none z] at h; cases h
        have hk2 : i < kvs.length := by rw [keysOf, List.length_map] at hlt; exact hlt
        have q : (ks.map (·.1))[i]? = (kvs.map fun q => kO q.1)[i]? := by rw [ek]
        rw [List.getElem?_map, List.getElem?_map, ykv, List.getElem?_eq_getElem hk2] at q
        have q2 : key = kO kvs[i].1 := by simpa using q
        have q3 : d = kD kvs[i].1 := by
          rw [List.getElem?_eq_getElem hlt] at h
          have := Option.some.inj h
          rw [← this]
          simp [keysOf]
        rw [q2, q3]
        exact ⟨kD_rep _, c', Stp.refl M' _⟩
      | _ => exact h2.elim
  | _ => exact h1.elim
def wTsP (P : Mu → Prop) (g : DTG) (tt : DTT) (vs : List Nat) (τ : DSt) (inn : DSt → Mu → (Mu → Prop) → Prop) (Nx : Mu → Prop) : List D → Mu → Prop
  | [], M => P M ∧ Nx M
  | d :: ds, M => P M ∧ g d (wipeD τ vs) M (fun τ2 M2 => tt τ2 M2 (fun b M3 => if b = true then inn τ2 M3 (wTsP P g tt vs τ inn Nx ds) else wTsP P g tt vs τ inn Nx ds M3) noX) noX
def dLcP (tr : DTP) (g : DTG) (tt : DTT) (vs : List Nat) (te : DTE) : DTE := fun τ M Q E => tr τ M (fun q M1 => ∀ p, M1 p = none → wTsP q.1 g tt vs τ (dEm p te) (fun M2 => Q (.ref p) M2) q.2 (put M1 p (.lst []))) E
theorem turnsP_ok {K : PySem.W.Frag} {inn : DSt → Mu → (Mu → Prop) → Prop} {innL : L2.St → Hp → (Hp → Prop) → Prop} (hin : Inn K inn innL) {τ : DSt} {σ : L2.St} {M M1 : Mu} {H H1 : Hp} {P : Mu → Prop} {ds : List D} {J : It} {Nx0 : Mu → Prop} {Nx : Hp → Prop}
    (hJ : ItP K M H (P, ds) J) (rs : RepS K M H τ σ) (hN : ∀ M' H', Nx0 M' → Cor K M' H' → Stp M H M' H' → Nx H') (s1 : Stp M H M1 H1) (c1 : Cor K M1 H1) (h : wTsP P g tt vs τ inn Nx0 ds M1) :
    wTurns (lifGw K W0 g vs) (lif K W0 RB tt) vs σ innL Nx J H1 := by
  refine ⟨fun i m H2 => m = ds.length - i ∧ i ≤ ds.length ∧ ∃ M2, Stp M H M2 H2 ∧ Cor K M2 H2 ∧ wTsP P g tt vs τ inn Nx0 (ds.drop i) M2, ⟨ds.length, rfl, Nat.zero_le _, M1, s1, c1, h⟩, ?_⟩
  rintro i m H2 ⟨rfl, hi, M2, s2, c2, h2⟩
  by_cases hlt : i < ds.length
  · have e : ds.drop i = ds[i] :: ds.drop (i + 1) := List.drop_eq_getElem_cons hlt
    rw [e] at h2
    obtain ⟨k1, k2, k3⟩ := hJ M2 H2 c2 s2 h2.1
    refine .inr ⟨k2 i hlt, fun H3 => ∃ M3, Stp M H M3 H3 ∧ Cor K M3 H3 ∧ wTsP P g tt vs τ inn Nx0 (ds.drop (i + 1)) M3, fun H3 q => ⟨ds.length - (i + 1), by omega, rfl, hlt, q⟩, fun x H3 y => ?_⟩
    obtain ⟨y1, y2, y3⟩ := k3 i ds[i] x H3 (List.getElem?_eq_getElem hlt) y
    have s3 := s2.trans y3
    refine ⟨ds[i], wipeD τ vs, M2, _, noX, y1, ⟨(rs.stp s3).wipe vs, y2, fun τ4 M4 σ4 H4 h4 r4 c4 s4 hw => ⟨hw.trans (wipe_wipe σ vs), ?_⟩, fun _ _ _ _ _ z => z.elim⟩, h2.2⟩
    refine ⟨τ4, M4, _, noX, ⟨r4, c4, fun b M5 b' H5 h5 r5 c5 s5 => ?_, fun _ _ _ _ _ z => z.elim⟩, h4⟩
    cases r5
    cases b with
    | false => exact ⟨M5, s3.trans (s4.trans s5), c5, h5⟩
    | true =>
      simp only [if_true] at h5 ⊢
      exact hin τ4 σ4 M5 H5 _ _ (r4.stp s5) c5 (fun M' H' n c' s' => ⟨M', s3.trans (s4.trans (s5.trans s')), c', n⟩) h5
  · have e : i = ds.length := by omega
    rw [e, List.drop_length] at h2
    obtain ⟨k1, k2, k3⟩ := hJ M2 H2 c2 s2 h2.1
    exact .inl ⟨k1 i (show ds.length ≤ i by omega), hN M2 H2 h2.2 c2 s2⟩
def fClP (X : Cx) (W : WX) (tg iter : Expr) (ifs : List Expr) (tr : DTP) (g : DTG) (tt : DTT) (vs : List Nat) : Cl := ⟨tg, iter, ifs, lif X.K W (ItP X.K) tr, lifGw X.K W0 g vs, lif X.K W0 RB tt, vs⟩
theorem lif_lcP {σ : L2.St} {H : Hp} {Q : VK} (h : lif X.K W (RD X.K) (dLcP tr g tt vs te) σ H Q) : tLcN (fClP X W tg iter ifs tr g tt vs) [] (lif X.K W0 (RD X.K) te) σ H Q := by
  obtain ⟨τ, M, Q0, E0, S, h⟩ := h
  refine S.sub h fun q M1 J H1 h1 r1 S1 s1 => ?_
  obtain ⟨P, ds⟩ := q
  intro D hD
  exact turnsP_ok (em_ok D) r1 S1.rs (fun M' H' n c' s' => S1.q (.ref D) M' (.ref D) H' n rfl c' s') (Stp.newM hD) (S1.co.newM hD (mo := .lst []) ⟨[], rfl, .nil⟩) (h1 D (S1.co.free hD))
theorem blkP_ok {B : Cx} (hK : B.K = X.K) (h : BlkR B tg g ifs tt vs elt te) : ClOk B (fClP X W tg iter ifs tr g tt vs) ∧ (∀ x ∈ ([] : List Cl), ClIn B x) ∧ PE B elt (lif X.K W0 (RD X.K) te) := by
  rw [← hK]
  refine ⟨⟨by rw [fClP, ← hK]; exact h.g, by rw [fClP, ← hK]; exact h.t⟩, fun x hx => ?_, h.e⟩
  cases hx
theorem de_lcP (own : List (Str × Nat)) (G : Gd X W) (hi : DIP X W tg iter tr) (hb : ∀ (s : Shared) (H : Hp) (C : Addr) (cl : List (Str × Addr)) (fp : List Addr), Gd (X.blk s H scope (compEnvC scope cl C X.env) fp) W0 → BlkR (X.blk s H scope (compEnvC scope cl C X.env) fp) tg g ifs tt (own.map (·.2)) elt te)
    (ok : blkC X.N X.env.scope scope own = true := by first | kernel_rfl | decide +kernel) (hs : ∀ x, foldedSetIterable iter X.env x = pure x := by intro _; rfl) : DE X W (.ListComp elt [⟨tg, iter, ifs, 0⟩] scope pos) (dLcP tr g tt (own.map (·.2)) te) :=
  PE.of (pe_lcN (c := fClP X W tg iter ifs tr g tt (@List.map (Str × Nat) Nat (fun p => p.2) own)) (cs := []) G.calm G.nd hi (blkOk_by ok) rfl (show Dec (own.map (·.2)) [] from trivial) (fun B ⟨s, H, C, cl, fp, e⟩ => by subst e; exact blkP_ok rfl (hb s H C cl fp (G.blk ..))) hs) fun σ H Q h => lif_lcP h
theorem u_keys {te : DTE} {τ : DSt} {M : Mu} {Qr : (Mu → Prop) × List D → Mu → Prop} {E : DX} : diKeys te τ M Qr E = te τ M (fun d M1 => onRef (K := fun a => onFK (K := fun kvs u => Qr ((fun M => M a = some (.fK kvs u)), keysOf kvs) M1) ⟨⟩ (M1 a)) ⟨⟩ d) E := by
  unfold diKeys
  congr 1
end
/-! ### a + b, a list that is changed later -/
def gAddM : DOp := fun x y M Q => match x, y with
  | .lst a, .lst b => a.length + b.length ≤ 16777216 ∧ ∀ p, M p = none → Q (.ref p) (put M p (.lst (a ++ b)))
  | .ref p, .lst b => (match M p with
    | some (.lst a) => a.length + b.length ≤ 16777216 ∧ ∀ p, M p = none → Q (.ref p) (put M p (.lst (a ++ b)))
    | _ => False)
  | _, _ => False
theorem od_addM {K : PySem.W.Frag} : OpD K gAddM (rAddA K) := fun M H x y v u Q0 Q c rx ry h q => by
  cases x with
  | lst xs =>
    obtain ⟨a, vs, rfl, ha, ma, ra⟩ := rep_of_lst rx
    cases y with
    | lst ys =>
      obtain ⟨b, us, rfl, hb, mb, rb⟩ := rep_of_lst ry
      exact .inr (.inl ⟨a, b, vs, us, rfl, rfl, ha, hb, by rw [ra.length, rb.length, line24]; exact h.1, new_lstM c (ra.append rb) h.2 q⟩)
    | _ => exact h.elim
  | ref a =>
    cases rx
    cases y with
    | lst ys =>
      obtain ⟨b, us, rfl, hb, mb, rb⟩ := rep_of_lst ry
      have h2 : (match M a with
        | some (.lst xs) => xs.length + ys.length ≤ 16777216 ∧ ∀ p, M p = none → Q0 (.ref p) (put M p (.lst (xs ++ ys)))
        | _ => False) := h
      cases e : M a with
      | none => rw [e] at h2; exact h2.elim
      | some mo =>
        rw [e] at h2
        cases mo with
        | lst xs =>
          obtain ⟨vs, ha, ra⟩ := mu_lst c e
          exact .inr (.inl ⟨a, b, vs, us, rfl, rfl, ha, hb, by rw [ra.length, rb.length, line24]; exact h2.1, new_lstM c (ra.append rb) h2.2 q⟩)
        | _ => exact h2.elim
    | _ => exact h.elim
  | _ => exact h.elim
theorem addM_l {M : Mu} {Q : DK} {a b : List D} : opK (K := Q) ⟨⟩ gAddM (.lst a) (.lst b) M = (a.length + b.length ≤ 16777216 ∧ ∀ p, M p = none → Q (.ref p) (put M p (.lst (a ++ b)))) := pq Iff.rfl
theorem addM_rl {M : Mu} {Q : DK} {p : Addr} {b : List D} : opK (K := Q) ⟨⟩ gAddM (.ref p) (.lst b) M = onML (K := fun a => a.length + b.length ≤ 16777216 ∧ ∀ p, M p = none → Q (.ref p) (put M p (.lst (a ++ b)))) ⟨⟩ (M p) := pq Iff.rfl
end DL

namespace DL
open PySem L2 He
/-! ### try whose body raises nothing -/
def dTry (t : DTS) : DTS := fun D τ M => t { D with xc := fun _ _ _ => False } τ M
section
variable {X : Cx} {W : WX} {a b e o i : Expr} {es : List Expr} {ta tb te to tv ti : DTE} {tl : DTA} {C f m x : Str} {sp : DSp} {k : Nat} {pos pos' apos p p2 tpos : Pos} {t : DTS}
theorem gd_nox (G : Gd X W) : Gd X.nox (fun _ _ _ _ => False) := ⟨G.calm, takes_none5, G.hu, fun e s z => z.elim, G.nd⟩
theorem ds_try {body : List Stmt} {h0 : ExceptHandler} {hs : List ExceptHandler} (G : Gd X W) (hb : Gd X.nox (fun _ _ _ _ => False) → DSs X.nox (fun _ _ _ _ => False) body t) : DS X W (.Try body (h0 :: hs) [] [] pos) (dTry t) :=
  PS.of (ps_try_thru0 (hb (gd_nox G))) fun D1 σ H ⟨τ, M, D0, S, h⟩ => ⟨τ, M, { D0 with xc := fun _ _ _ => False }, ⟨S.rs, S.co, S.nx, S.rt, S.bk, S.ct, fun _ _ _ _ _ _ _ z => z.elim⟩, h⟩
/-! ### classmethods -/
structure FnK (P : Program) (w : World) (K : PySem.W.Frag) (mg : Str → Option Value) (base : Heap) (k : Nat) (C m : Str) (sp : DSp) : Prop where
  met : ClX.CMet K (ga K C) (.type "type") m (ma K (ga K C) m) (He5.wf K (ga K C) "classmethod" m)
  run : FnR P w K mg base (L2.CX P w) k (He5.wf K (ga K C) "classmethod" m) (lsp K sp)
def dCM (C : Str) (sp : DSp) (ta : DTA) : DTE := fun τ M Q E => ta τ M (fun ds M1 => sp (.cl C :: ds) M1 Q E) E
theorem run_cmS {pins : List (Addr × Obj)} {σ : L2.St} {H : Hp} {s : Shared} {Q : VK} {us : List Value} {vs : List V} {Ca g q : Addr} {spv : Sp} (F : FnR X.prog X.w X.K X.mg X.base (L2.CX X.prog X.w) k g spv) (tk : Takes X W) (hr : Room k X.A)
    (I : Inv X ((q, PySem.W.methodObj (.ref g) (.ref Ca)) :: pins) σ H s) (r : Vals vs us) (h : spv (.ref Ca :: vs) H Q (WE W σ)) : wpAny (model X.prog X.w) X.A (call (.ref q) us) (EP X pins σ Q) X.xe s := by
  have z : wpAny (model X.prog X.w) X.A (call (.ref q) us) (EP X ((q, PySem.W.methodObj (.ref g) (.ref Ca)) :: pins) σ Q) X.xe s :=
    wpAny_call (PySem.W.method_call (ClX.pin_at I) (codeAny_mono (F X.A X.stack s H (.ref Ca :: us) (.ref Ca :: vs) Q (WE W σ) hr I.env0 (.cons rfl r) h) fun r s' hq => by
      cases r with
      | error e => exact passAt tk σ _ H s e s' I hq
      | ok fl =>
        cases fl with
        | ret u => exact I.after hq
        | next => exact False.elim hq
        | brk => exact False.elim hq
        | cont => exact False.elim hq))
  exact thn z fun _ _ y => ClX.unpinE y
theorem de_cmeth {pl : Sem Bool} (F : FnK X.prog X.w X.K X.mg X.base k C m sp) (r : ClX.CRead X.K (ga X.K C) (.type "type")) (G : Gd X W) (hr : Room k X.A) (hm : X.mg C = some (.ref (ga X.K C))) (ha : DA X W (e :: es) tl) (hg : Gl X C := by rfl) (hdb : (C == ("__debug__" : Str)) = false := by decide)
    (hst : starEach (e :: es) X.env = (false, eval e X.env) :: starEach es X.env := by rfl) (hpl : (backTo pos (starEach es X.env)).any (·.1) = false := by rfl)
    (ht : eval (.Call (.Attribute (.Name C p) m apos) (e :: es) [] pos) X.env = (do
      let ov ← eval (.Name C p) X.env
      standAt apos.atName
      let (f, first) ← holding [ov] (getMethod ov m pl)
      callWith pos f first (backTo pos (starEach (e :: es) X.env)) (backToKw pos (keywordEach [] X.env))) := by rfl) : DE X W (.Call (.Attribute (.Name C p) m apos) (e :: es) [] pos) (dCM C sp tl) := by
  refine ⟨fun pins s σ H Q I h => ?_⟩
  obtain ⟨τ, M, Q0, E0, S, h⟩ := h
  refine PySem.W.methodCall_KW (pl := pl) (ld_glob I hg hm ?_ hdb) ht
  refine ClX.getmethcm_ok I r F.met fun s1 I1 => ?_
  refine ClX.callwith_cm I1 (ClX.base_none I (Nat.le_refl _)) F.met.fi (thn (ha.run pos _ s1 σ H _ I1 (S.sub (Q1 := fun vs H2 => lsp X.K sp (V.ref (ga X.K C) :: vs) H2 Q (WE W σ)) h fun ds M2 vs H2 h4 r4 S4 s4 =>
    S4.call (.cons (d := .cl C) rfl r4) h4 fun d M5 z H5 h5 r5 S5 s5 => S5.end_ h5 r5)) fun us s2 ⟨vs, H2, I2, rv, q2⟩ => ⟨⟨ClX.pin_at I2, I2.kIn⟩, ?_⟩) hst hpl
  exact run_cmS F.run G.tk hr I2 rv q2
/-! ### cls(..), cls a local name -/
def dMakeV (i : Nat) (C : Str) (sp : DSp) (ta : DTA) : DTE := fun τ M Q E => dVar i τ M (fun d M1 => match d with
  | .cl x => x = C ∧ dMake C sp ta τ M1 Q E
  | _ => False) E
theorem de_makeV0 (j : Nat) (F : FC X k C "__init__" sp) (M : Mk X.K (ga X.K C) (ma X.K (ga X.K C) "__init__")) (G : Gd X W) (hr : Room (k + 1) X.A) (hN : X.N[j]? = some x := by rfl)
    (hv : Vis X.env.scope x := by first | exact Or.inl rfl | exact Or.inr (Or.inl rfl) | exact Or.inr (Or.inr rfl)) (hd : (x == ("__debug__" : Str)) = false := by decide)
    (hcd : (x == ("__classdict__" : Str)) = false := by decide) : DE X W (.Call (.Name x p) [] [] pos) (dMakeV j C sp daNil) := by
  refine ⟨fun pins s σ H Q I h => ?_⟩
  obtain ⟨τ, M0, Q0, E0, S, h⟩ := h
  refine wpAny_Call_Name_kw (thn ((de_var (X := X) (W := W) (pos := p) j hN hv hd hcd).run pins s σ H (fun v H1 => v = .ref (ga X.K C) ∧ ∃ M1, Sit X.K W (RD X.K) τ M1 σ H1 Q0 E0 Q ∧ dMake C sp daNil τ M1 Q0 E0) I (S.sub h fun d M1 v H1 h1 r1 S1 s1 => ?_)) fun u s1 ⟨v, H1, I1, rv, ev, M1, S1, h1⟩ => ?_)
  · cases d with
    | cl y =>
      obtain ⟨rfl, h2⟩ := h1
      exact ⟨r1, M1, S1, h2⟩
    | _ => exact h1.elim
  · subst ev
    obtain rfl : u = Value.ref (ga X.K C) := rv
    exact PySem.W.callWith_K0 I1.kIn M.kp (run_makeS (us := []) M F.run G.tk hr I1 .nil (make_of S1 .nil h1))
theorem de_makeV (j : Nat) (F : FC X k C "__init__" sp) (M : Mk X.K (ga X.K C) (ma X.K (ga X.K C) "__init__")) (G : Gd X W) (hr : Room (k + 1) X.A) (ha : DA X W (e :: es) tl) (hN : X.N[j]? = some x := by rfl)
    (hv : Vis X.env.scope x := by first | exact Or.inl rfl | exact Or.inr (Or.inl rfl) | exact Or.inr (Or.inr rfl)) (hd : (x == ("__debug__" : Str)) = false := by decide)
    (hcd : (x == ("__classdict__" : Str)) = false := by decide)
    (he : starEach (e :: es) X.env = (false, eval e X.env) :: starEach es X.env := by rfl) (hpl : (backTo pos (starEach es X.env)).any (·.1) = false := by rfl) : DE X W (.Call (.Name x p) (e :: es) [] pos) (dMakeV j C sp tl) := by
  refine ⟨fun pins s σ H Q I h => ?_⟩
  obtain ⟨τ, M0, Q0, E0, S, h⟩ := h
  refine wpAny_Call_Name_kw (thn ((de_var (X := X) (W := W) (pos := p) j hN hv hd hcd).run pins s σ H (fun v H1 => v = .ref (ga X.K C) ∧ ∃ M1, Sit X.K W (RD X.K) τ M1 σ H1 Q0 E0 Q ∧ dMake C sp tl τ M1 Q0 E0) I (S.sub h fun d M1 v H1 h1 r1 S1 s1 => ?_)) fun u s1 ⟨v, H1, I1, rv, ev, M1, S1, h1⟩ => ?_)
  · cases d with
    | cl y =>
      obtain ⟨rfl, h2⟩ := h1
      exact ⟨r1, M1, S1, h2⟩
    | _ => exact h1.elim
  · subst ev
    obtain rfl : u = Value.ref (ga X.K C) := rv
    refine PySem.W.callWith_K (h₀ := X.base) I1.ok.mod.kin M.kp (thn (ha.run pos pins s1 σ H1 _ I1 (S1.sub (Q1 := fun vs H1 => ∀ x dx, H1 x = none → H1 dx = none → dx ≠ x → lsp X.K sp (V.ref x :: vs) (upd (upd H1 dx (.own x)) x (.ins (ga X.K C) dx [])) (fun v H2 => v = .non ∧ Q (.ref x) H2) (WE W σ)) h1
      fun ds M1 vs H1 h1 r1 S1 s1 => make_of S1 r1 h1)) fun us s1 ⟨vs, H1, I1, r, q⟩ => ⟨I1.kIn, ?_⟩) he hpl
    exact run_makeS M F.run G.tk hr I1 r q
/-! ### enumerate -/
def enumF : Nat → List D → List D
  | _, [] => []
  | i, d :: r => .tup [.int (i : Nat), d] :: enumF (i + 1) r
theorem enumF_len : ∀ {j : Nat} {ds : List D}, (enumF j ds).length = ds.length
  | _, [] => rfl
  | j, d :: r => by unfold enumF; rw [List.length_cons, List.length_cons, enumF_len]
theorem enumF_get : ∀ {ds : List D} {j i : Nat} {d : D}, (enumF j ds)[i]? = some d → ∃ y, ds[i]? = some y ∧ d = .tup [.int ((j + i : Nat) : Int), y]
  | [], _, _, _, e => by simp [enumF] at e
  | y :: r, j, 0, d, e => by
    unfold enumF at e
    rw [List.getElem?_cons_zero] at e
    cases e
    exact ⟨y, rfl, rfl⟩
  | y :: r, j, i + 1, d, e => by
    unfold enumF at e
    rw [List.getElem?_cons_succ] at e
    obtain ⟨z, h1, h2⟩ := enumF_get e
    exact ⟨z, by rw [List.getElem?_cons_succ]; exact h1, by rw [h2, show j + 1 + i = j + (i + 1) by omega]⟩
def diEnum (ta : DTA) : DTI := fun τ M Q E => ta τ M (fun ds M1 => match ds with
  | [.lst xs] => Q (enumF 0 xs) M1
  | _ => False) E
theorem it_enum {K : PySem.W.Frag} {M : Mu} {H : Hp} {a : Addr} {ds : List D} {vs : List V} (ha : H a = some (.lst vs)) (ma : M a = none) (ra : Reps K M H ds vs) : ItOk K M H (enumF 0 ds) (Ite K a) := fun M' H' s c => by
  have q : SqL K H' a vs := .inl (.inl (s a _ ha ma).1)
  have r := ra.stp s
  refine ⟨fun i h => ⟨vs, q, by rw [ra.length]; rw [enumF_len] at h; exact h⟩, fun i h => ?_, fun i d v H2 h y => ?_⟩
  · rw [enumF_len] at h
    obtain ⟨v, h1, _⟩ := r.get (List.getElem?_eq_getElem h)
    exact ⟨vs, v, q, h1⟩
  · obtain ⟨T, x, rfl, hT, rfl, y⟩ := y
    obtain ⟨z, h1, rfl⟩ := enumF_get h
    obtain ⟨u, h2, h3⟩ := r.get h1
    have ee := y vs q
    rw [h2] at ee
    obtain rfl : u = x := by simpa using ee
    have st : Stp M' H' M' (upd H' T (.tup [.int (i : Nat), u])) := Stp.new hT
    refine ⟨rep_tup upd_same (c.free hT) (.cons ?_ (.cons (h3.stp st) .nil)), c.new hT, st⟩
    show V.int _ = V.int _
    rw [Nat.zero_add]
theorem di_enum {elts : List Expr} {kk : Nat} (hm : X.mg "enumerate" = none) (ha : DA X W [a] tl) (hg : Gl X "enumerate" := by rfl) (hs : starEach [a] X.env = [(false, eval a X.env)] := by rfl) : DI X W (.Tuple elts kk tpos) (.Call (.Name "enumerate" p) [a] [] pos) (diEnum tl) :=
  PI.of (pi_enum hg hm ha hs) fun σ H R ⟨τ, M, Q0, E0, S, h⟩ => S.sub h fun ds M1 vs H1 h1 r1 S1 s1 => by
    match ds, h1 with
    | [.lst xs], h1 =>
      obtain ⟨v, u, rfl, r2, r3⟩ := r1.uncons
      cases r3.unnil
      obtain ⟨a, vs, rfl, ha, ma, ra⟩ := rep_of_lst r2
      exact ⟨a, vs, rfl, .inl (.inl ha), S1.end_ h1 (it_enum ha ma ra)⟩
end
/-! ### list.index -/
def idxD (y : D) : List D → Option Nat
  | [] => none
  | z :: r => if eqF z y = true then some 0 else (idxD y r).map (· + 1)
theorem idxD_ok {y : D} : ∀ {ds : List D} {j : Nat}, idxD y ds = some j → (∃ z, ds[j]? = some z ∧ eqF z y = true) ∧ ∀ m z, m < j → ds[m]? = some z → eqF z y = false
  | [], _, e => by cases e
  | z :: r, j, e => by
    unfold idxD at e
    split at e
    · rename_i h
      cases e
      exact ⟨⟨z, rfl, h⟩, fun m z l => absurd l (Nat.not_lt_zero m)⟩
    · rename_i h
      cases q : idxD y r with
      | none => rw [q] at e; cases e
      | some i =>
        rw [q] at e
        cases e
        obtain ⟨⟨u, h1, h2⟩, h3⟩ := idxD_ok q
        refine ⟨⟨u, h1, h2⟩, fun m w l hm => ?_⟩
        cases m with
        | zero => cases hm; simpa using h
        | succ m => exact h3 m w (Nat.lt_of_succ_lt_succ l) (by simpa using hm)
def gIndex : DMt := fun x xs M Q => match x, xs with
  | .lst ds, [y] => flatD y = true ∧ ds.all flatD = true ∧ ∃ j, idxD y ds = some j ∧ Q (.int (j : Nat)) M
  | _, _ => False
theorem md_index {K : PySem.W.Frag} : MtD K gIndex (rIndex K) := fun M H x v xs vs Q0 Q c rx r h q => by
  match x, xs, h with
  | .lst ds, [y], h =>
    obtain ⟨u, us, rfl, r1, r2⟩ := r.uncons
    cases r2.unnil
    obtain ⟨a, ws, rfl, ha, ma, ra⟩ := rep_of_lst rx
    obtain ⟨f1, f2, j, e, h⟩ := h
    obtain ⟨⟨z, h1, h2⟩, h3⟩ := idxD_ok e
    obtain ⟨w, h4, h5⟩ := ra.get h1
    have fz : flatD z = true := List.all_eq_true.mp f2 z (List.mem_of_getElem? h1)
    refine ⟨a, ws, u, j, w, rfl, rfl, .inl (.inl ha), flat_rep f1 r1, (in_rep f1 r1 f2 ra).1, h4, by rw [eqF_rep fz f1 h5 r1]; exact h2, fun m z' l hm => ?_, q _ M _ H h rfl c (Stp.refl M H)⟩
    have hl : m < ds.length := by
      have := (List.getElem?_eq_some_iff.mp hm).1
      rw [ra.length] at this
      exact this
    obtain ⟨w', h6, h7⟩ := ra.get (List.getElem?_eq_getElem hl)
    rw [hm] at h6
    cases h6
    have fz' : flatD ds[m] = true := List.all_eq_true.mp f2 _ (List.getElem_mem hl)
    rw [eqF_rep fz' f1 h7 r1]
    exact h3 m _ l (List.getElem?_eq_getElem hl)
/-! ### rows -/
def onCl {K : Prop} (C : Str) (_ : Lk K) (d : D) : Prop := match d with
  | .cl x => x = C ∧ K
  | _ => False
theorem onCl_c {K : Prop} {C : Str} : onCl (K := K) C ⟨⟩ (.cl C) = K := by show (C = C ∧ K) = K; simp
def onEnum {K : List D → Prop} (_ : Lk K) (ds : List D) : Prop := match ds with
  | [.lst xs] => K (enumF 0 xs)
  | _ => False
theorem onEnum_l {K : List D → Prop} {xs : List D} : onEnum (K := K) ⟨⟩ [.lst xs] = K (enumF 0 xs) := pq Iff.rfl
section
variable {C : Str} {sp : DSp} {tl : DTA} {τ : DSt} {M : Mu} {Q : DK} {E : DX} {D0 : DEnds} {i : Nat} {t : DTS} {Ql : List D → Mu → Prop}
theorem u_try : dTry t D0 τ M = t { D0 with xc := fun _ _ _ => False } τ M := pq Iff.rfl
theorem u_cm : dCM C sp tl τ M Q E = tl τ M (fun ds M1 => callK (K := Q) (L := E) ⟨⟩ ⟨⟩ sp (.cl C :: ds) M1) E := pq Iff.rfl
theorem u_makeV : dMakeV i C sp tl τ M Q E = dVar i τ M (fun d M1 => onCl (K := dMake C sp tl τ M1 Q E) C ⟨⟩ d) E := pq Iff.rfl
theorem index_l {ds : List D} {y : D} : mtK (K := Q) ⟨⟩ gIndex (.lst ds) [y] M = (flatD y = true ∧ ds.all flatD = true ∧ ∃ j, idxD y ds = some j ∧ Q (.int (j : Nat)) M) := pq Iff.rfl
theorem r_enum : diEnum tl τ M Ql E = tl τ M (fun ds M1 => onEnum (K := fun xs => Ql xs M1) ⟨⟩ ds) E := pq Iff.rfl
end
end DL

namespace DL
open PySem L2 He
/-! ### str(o): the class's __str__ raises nothing and gives a text -/
def gStrO (C : Str) (sp : DSp) : DCb := fun xs M Q => match xs with
  | [d] => isIns C M d ∧ sp [d] M (fun x M2 => (∃ t, x = .str t) ∧ Q x M2) noX
  | _ => False
def rStrO (K : PySem.W.Frag) (C : Str) (sp : DSp) (xs : List V) (H : Hp) (Q : VK) : Prop := ∃ a dx gs, xs = [.ref a] ∧ H a = some (.ins (ga K C) dx gs) ∧ lsp K sp [.ref a] H (fun v H' => (∃ t, v = .str t) ∧ Q v H') (fun _ _ _ => False)
theorem cb_strO {K : PySem.W.Frag} {C : Str} {sp : DSp} : CbD K (gStrO C sp) (rStrO K C sp) := fun M H xs vs Q0 Q c r h q => by
  match xs, h with
  | [d], h =>
    obtain ⟨v, u, rfl, r1, r2⟩ := r.uncons
    cases r2.unnil
    obtain ⟨a, fs, dx, gs, rfl, rfl, _, e2, _⟩ := isIns_at h.1 r1 c
    exact ⟨a, dx, gs, rfl, e2, [.ref a], M, _, noX, .cons r1 .nil, c, h.2, fun x M' v H' ⟨⟨t, et⟩, hq⟩ r' c' s' => ⟨⟨sx t, by subst et; exact r'⟩, q x M' v H' hq r' c' s'⟩, fun _ _ _ _ _ z => z.elim⟩
theorem call_strO {X : Cx} {C : Str} {sp : DSp} {k : Nat} (F : FnC X.prog X.w X.K X.mg X.base k C "__str__" sp) (hr : Room (k + 2) X.A) : CallR X (.type "str") (rStrO X.K C sp) := by
  intro pins s σ H xs us Q I rv h
  obtain ⟨a, dx, gs, rfl, ha, hsp⟩ := h
  obtain ⟨u, rfl, ru⟩ := rv.one
  cases ru
  obtain ⟨mA, O, _⟩ := ins_get I.hok ha
  obtain ⟨od, J, _⟩ := O.look
  have r1 : Room (k + 1) X.A.in1 := Room.in1 hr
  have r2 : Room k X.A.in1.in1 := Room.in1 r1
  refine PySem.W.kso_call (by have := r2.un; omega) I.kIn J F.at_ F.fn ?_
  have z := run_S (W := fun _ _ _ _ => False) (X := X) F.run takes_none5 r2 I.env0.in1.in1 I (us := [.ref a]) (vs := [.ref a]) (.cons rfl .nil) hsp
  refine thn z fun u s1 ⟨v, H1, I1, r, ⟨t, et⟩, hq⟩ => ?_
  subst et
  obtain ⟨w, rfl⟩ : ∃ w, u = .str t w := r
  exact ⟨.str t, H1, I1, ⟨_, rfl⟩, hq⟩
theorem strO_r {C : Str} {sp : DSp} {M : Mu} {Q : DK} {d : D} : cbK (K := Q) ⟨⟩ (gStrO C sp) [d] M = (isIns C M d ∧ sp [d] M (fun x M2 => (∃ t, x = .str t) ∧ Q x M2) noX) := pq Iff.rfl
end DL

namespace DL
open PySem L2 He
/-! ### own ==, <=, <: the class's def raises nothing -/
structure CmpC (K : PySem.W.Frag) (C : Str) : Prop where
  no : ∀ T ∈ ["NoneType", "bool", "int", "str", "list", "tuple", "dict"], PySem.W.notFirst K (ga K C) (.type T) = true
def cmpCB (C : Str) (K : PySem.W.Frag) : Bool := ["NoneType", "bool", "int", "str", "list", "tuple", "dict"].all fun T => PySem.W.notFirst K (ga K C) (.type T)
theorem cmpCB_ok {K : PySem.W.Frag} {C : Str} (h : cmpCB C K = true) : CmpC K C := ⟨fun T hT => List.all_eq_true.mp h T hT⟩
def gCmpO (C : Str) (sp : DSp) : DOp := fun x y M Q => isIns C M x ∧ (isIns C M y ∨ ∃ n, tyD M y = some n) ∧ sp [x, y] M Q noX
def rCmpO (K : PySem.W.Frag) (C : Str) (sp : DSp) : R2 := fun x y H Q => ∃ a dx gs t, x = .ref a ∧ H a = some (.ins (ga K C) dx gs) ∧ (TyX K H y t ∨ ∃ b dy fs, y = .ref b ∧ t = .ref (ga K C) ∧ H b = some (.ins (ga K C) dy fs)) ∧
  PySem.W.notFirst K (ga K C) t = true ∧ lsp K sp [x, y] H Q (fun _ _ _ => False)
theorem od_cmpO {K : PySem.W.Frag} {C : Str} {sp : DSp} (k : CmpC K C) : OpD K (gCmpO C sp) (rCmpO K C sp) := fun M H x y v u Q0 Q c rx ry h q => by
  obtain ⟨h1, h2, h3⟩ := h
  obtain ⟨a, fs, dx, gs, rfl, rfl, _, e2, _⟩ := isIns_at h1 rx c
  have sp' : lsp K sp [.ref a, u] H Q (fun _ _ _ => False) := ⟨[.ref a, y], M, Q0, noX, .cons rx (.cons ry .nil), c, h3, q, fun _ _ _ _ _ z => z.elim⟩
  rcases h2 with h2 | ⟨n, h2⟩
  · obtain ⟨b, fs2, dy, gs2, rfl, rfl, _, e3, _⟩ := isIns_at h2 ry c
    exact ⟨a, dx, gs, .ref (ga K C), rfl, e2, .inr ⟨b, dy, gs2, rfl, rfl, e3⟩, by unfold PySem.W.notFirst; rw [beq_self_eq_true]; rfl, sp'⟩
  · obtain ⟨t1, t2⟩ := ty_rep c ry h2
    exact ⟨a, dx, gs, .type n, rfl, e2, .inl t1, k.no n t2, sp'⟩
theorem op_cmpO {X : Cx} {C : Str} {sp : DSp} {k : Nat} {op : CmpOp} (hop : ∀ a b, compareOp op a b = richCompare op a b) (F : FnC X.prog X.w X.K X.mg X.base k C (cmpInfo op).2.1 sp) (hr : Room k X.A) : OpR X (compareOp op) (rCmpO X.K C sp) := by
  intro pins s σ H x y v u Q I rx ry h
  obtain ⟨a, dx, gs, t, rfl, ha, ht, hn, hsp⟩ := h
  cases rx
  obtain ⟨mA, O, _⟩ := ins_get I.hok ha
  obtain ⟨od, J, _⟩ := O.look
  obtain ⟨m, hF⟩ := I.fr
  rw [hop]
  have hb : PySem.W.Looks (model X.prog X.w) s.heap (typeOf u) t := by
    rcases ht with ht | ⟨b, dy, fs, rfl, rfl, hb⟩
    · obtain ⟨P, Z, p, _⟩ := kit_of I ry ht
      exact Z.ty _ _ I.kIn p
    · cases ry
      obtain ⟨mB, O2, _⟩ := ins_get I.hok hb
      obtain ⟨od2, J2, _⟩ := O2.look
      exact J2.type
  refine PySem.W.cmp_K (op := op) (tb := t) (by have := hr.un; omega) hF I.ok.mod.kin J hb hn F.at_ F.fn ?_
  have z := run_S (W := fun _ _ _ _ => False) (X := X) F.run takes_none5 hr I.env0 I (us := [.ref a, u]) (vs := [.ref a, y]) (.cons rfl (.cons ry .nil)) hsp
  refine thn z fun w s1 ⟨z', H1, I1, r, hq⟩ => ?_
  exact SlX.cmpback r ⟨z', H1, I1, r, hq⟩
theorem cmpO_r {C : Str} {sp : DSp} {M : Mu} {Q : DK} {x y : D} : opK (K := Q) ⟨⟩ (gCmpO C sp) x y M = (isIns C M x ∧ (isIns C M y ∨ ∃ n, tyD M y = some n) ∧ sp [x, y] M Q noX) := pq Iff.rfl
/-! ### list.pop(i), 0 <= i -/
def gPop1 : DMt := fun x xs M Q => match x, xs with
  | .ref a, [.int i] => (match M a with
    | some (.lst ds) => 0 ≤ i ∧ i < 1073741824 ∧ (match ds[i.toNat]? with
      | some d => Q d (put M a (.lst (ds.eraseIdx i.toNat)))
      | none => False)
    | _ => False)
  | _, _ => False
theorem seqIx_nat {i : Int} {n : Nat} (h0 : 0 ≤ i) (h : i.toNat < n) : seqIndex? i n = some i.toNat := by
  unfold seqIndex?
  have h1 : ¬ i < 0 := by omega
  have h2 : i < (n : Int) := by omega
  simp [h1, h2, h0]
theorem md_pop1 {K : PySem.W.Frag} : MtD K gPop1 rPopAt := fun M H x v xs vs Q0 Q c rx r h q => by
  match x, xs, h with
  | .ref a, [.int i], h =>
    obtain ⟨u, us, rfl, r1, r2⟩ := r.uncons
    cases r2.unnil; cases rx; cases r1
    have h2 : (match M a with
      | some (.lst ds) => 0 ≤ i ∧ i < 1073741824 ∧ (match ds[i.toNat]? with
        | some d => Q0 d (put M a (.lst (ds.eraseIdx i.toNat)))
        | none => False)
      | _ => False) := h
    cases e : M a with
    | none => rw [e] at h2; exact h2.elim
    | some mo =>
      rw [e] at h2
      cases mo with
      | lst ds =>
        obtain ⟨ws, ha, ra⟩ := mu_lst c e
        have h3 : 0 ≤ i ∧ i < 1073741824 ∧ (match ds[i.toNat]? with
          | some d => Q0 d (put M a (.lst (ds.eraseIdx i.toNat)))
          | none => False) := h2
        obtain ⟨i0, i1, h3⟩ := h3
        cases e2 : ds[i.toNat]? with
        | none => rw [e2] at h3; exact h3.elim
        | some d =>
          rw [e2] at h3
          obtain ⟨w, hw, rw_⟩ := ra.get e2
          have hl : i.toNat < ws.length := (List.getElem?_eq_some_iff.mp hw).1
          have st := Stp.write (H := H) (o := .lst (ws.eraseIdx i.toNat)) (mo' := .lst (ds.eraseIdx i.toNat)) e
          exact ⟨a, ws, i, i.toNat, w, rfl, rfl, ha, by omega, by omega, seqIx_nat i0 hl, hw, q _ _ _ _ h3 (rw_.stp st) (c.write e ⟨_, rfl, ra.erase _⟩) st⟩
      | _ => exact h2.elim
theorem pop1_r {a : Addr} {i : Int} {M : Mu} {Q : DK} : mtK (K := Q) ⟨⟩ gPop1 (.ref a) [.int i] M = onML (K := fun ds => 0 ≤ i ∧ i < 1073741824 ∧ onSome (K := fun d => Q d (put M a (.lst (ds.eraseIdx i.toNat)))) ⟨⟩ ds[i.toNat]?) ⟨⟩ (M a) := by
  show (match M a with
    | some (.lst ds) => 0 ≤ i ∧ i < 1073741824 ∧ (match ds[i.toNat]? with
      | some d => Q d (put M a (.lst (ds.eraseIdx i.toNat)))
      | none => False)
    | _ => False) = _
  cases M a with
  | none => rfl
  | some mo =>
    cases mo with
    | lst ds =>
      show (0 ≤ i ∧ i < 1073741824 ∧ (match ds[i.toNat]? with
        | some d => Q d (put M a (.lst (ds.eraseIdx i.toNat)))
        | none => False)) = (0 ≤ i ∧ i < 1073741824 ∧ onSome (K := fun d => Q d (put M a (.lst (ds.eraseIdx i.toNat)))) ⟨⟩ ds[i.toNat]?)
      cases ds[i.toNat]? <;> rfl
    | _ => rfl
end DL

namespace DL
open PySem L2 He NdefX
/-! ### the machine: an own error's __init__ that begins by super().__init__('..') -/
/-- the def (with its cell and its code object) in the written part -/
structure ErrD (K : PySem.W.Frag) (x qual : Str) (params : Arguments) (body : List Stmt) (scope : Scope) (C f cc cda : Addr) (file : Str) (fd : FuncData) : Prop where
  ex : ∃ (oc : Value) (od : Option Addr) (kV doc pm : Value) (an : Option Addr) (ct : Value) (osl : Array (Option Value)),
    fd = PySem.W.fnX x qual params body scope [("__class__", cc)] .none kV doc pm an (.ref cda) ct ∧ K.lookup f = some ⟨oc, od, .func fd, osl⟩
  crec : PySem.W.codeIn K (.ref cda) qual = true
  cell : ∃ (cl : Value) (cld : Option Addr) (csl : Array (Option Value)), K.lookup cc = some ⟨cl, cld, .cell (some (.ref C)), csl⟩
  code : ∃ (ccl : Value) (cdd : Option Addr) (vs : Array Value) (ccs : Array (Option Value)) (tf : Tok), K.lookup cda = some ⟨ccl, cdd, .fields vs, ccs⟩ ∧ vs[2]? = some (.str file tf)
/-- what the class says -/
structure ErrC (K : PySem.W.Frag) (C : Addr) : Prop where
  T : OexC K C
  sup : PySem.W.ks_superIn K C C "__init__" = some (some (.builtin "ValueError.__init__"))
  sub : PySem.W.subIn K (.ref C) (.type "ValueError") = some true
  self : PySem.W.mroIn K C (.ref C) = some true
  any : PySem.W.nsIn K cStatics "thirdparty.any" = some none
section
open PySem.W PySem.Calls PyProof.Rows
variable {prog : Program} {w : World} {M : Model} {A : Around} {E : Value → Shared → Prop} {h : Heap} {g : Array GenState} {d : Drawn} {t : Nat} {os : OsState}
variable {nm q : Str} {C N : Addr} {bs bm : List Value} {hdct : Bool} {sn : List Str} {sub : List Value} {ab : Bool} {col : Option Bool} {dd : Option Addr} {k0 k1 k2 k3 k5 : Option Value}
theorem err_bound {B newId initId : String} {bmB : List Value} (F : ExcBaseFacts B newId initId bmB) {e : Addr} {oe : Obj} {rest : List Value} {Q : Unit → Shared → Prop}
    (hC : h.get? C = some (excClassObj nm q C N bs bm hdct sn sub ab col dd k0 k1 k2 k3 k5 newId)) (he : h.get? e = some oe) (hcls : oe.cls = .ref C) (hq : Q () ⟨h, g, d, t, os⟩) :
    wpAny M A (checkBoundCall initId ⟨.ref e :: rest, []⟩) Q E ⟨h, g, d, t, os⟩ := by
  have hshort := F.noStar
  simp only [checkBoundCall, F.initKind, F.initRow]
  repeat (first | (with_reducible refine wpAny_loadPart_at he ?_; rw [hcls]) | with_reducible refine wpAny_loadPart_at hC ?_ | wp_step)
  refine wpAny_onRaise ?_
  rw [show ∀ (a b : String) (n : Nat), Bind.check ⟨.positional, "*", B, .self, [⟨"args", .varPos, false⟩]⟩ a b n (List.map (fun x => x.fst) ({ pos := Value.ref e :: rest } : Args).kw) = pure () from
    fun a b n => check_star_args _ _ _ _ _ _]
  exact wpAny_pure hq
/-- super().__init__(..), bound, called -/
theorem err_call {u e t0 : Addr} {rest : List Value} {Q : Value → Shared → Prop}
    (hC : h.get? C = some (excClassObj nm q C N bs bm hdct sn sub ab col dd k0 k1 k2 k3 k5 "ValueError.__new__")) (he : h.get? e = some (HandSPX.excO C t0)) (hu : h.get? u = some (kxs_mw "ValueError.__init__" e)) (hrest : rest.length ≤ sizeLine)
    (hq : ∀ h' t1, (∀ b o, b ≠ e → h.get? b = some o → h'.get? b = some o) → h'.get? e = some (HandSPX.excO C t1) → Q .none ⟨h', g, d, t, os⟩) :
    wpAny (model prog w) A (call (.ref u) rest) Q E ⟨h, g, d, t, os⟩ := by
  refine wpAny_call (codeAny_of_tree ?_)
  show wpAny _ A.in1 (callAny (.ref u) ⟨rest, []⟩) _ _ _
  simp only [callAny]
  refine wpAny_bind (wpAny_load hu ?_)
  simp only [kxs_mw, show (Value.type "method-wrapper" == Value.type "method" || Value.type "method-wrapper" == Value.type "builtin_function_or_method" || Value.type "method-wrapper" == Value.type "method-wrapper") = true by decide, if_true]
  refine W.KFB.if_so (by decide) ?_
  refine wpAny_bind (err_bound F.excBase_ValueError hC he rfl ?_)
  refine wpAny_bind (wpAny_pure (wpAny_pure ?_))
  refine ⟨Code.quiet_builtin _ (by decide +kernel), codeAny_builtin F.excBase_ValueError.initEntry ?_⟩
  rw [Around.under_plainId F.excBase_ValueError.init.plain _]
  wp_walk
  refine hq _ h.objs.size (fun b o hb ho => ?_) ?_
  · rw [Heap.get?_update_other _ _ (Ne.symm hb)]
    exact Heap.get?_push_of_some _ ho
  · rw [Heap.get?_update_self _ (Heap.get?_push_of_some _ he) rfl]
    rfl
end
/-- the statement super().__init__('..') of the class C's __init__ -/
theorem err_super {X : Cx} {F : NF} {f L a C cc cda : Addr} {file x qual m : Str} {params : Arguments} {body : List Stmt} {scope : Scope} {fd : FuncData} {pins : List (Addr × Obj)} {σ : L2.St} {H : Hp} {s : Shared} {ar : Arg} {p0 p1 p2 p3 p4 p5 : Pos} {j : Nat} {cbody : List Stmt}
    (D : ErrD X.K x qual params body scope C f cc cda file fd) (T : ErrC X.K C) (henv : X.env = PySem.W.envX qual scope L f (.ref cda) [("__class__", cc)]) (I : Inv X pins σ H s) (ea : H a = some (exo a C none))
    (hp : (params.posonlyargs ++ params.args).head? = some ar) (h0 : X.N[0]? = some ar.arg) (hs0 : σ[0]? = some (some (.ref a)))
    (hfile : ((X.prog.main.file : Str) == file) = true) (hm : X.mg "super" = none) (htop : (X.prog.main.scope.names.lookup ("super" : Str)).isSome = false)
    (hks : scope.names.lookup ("super" : Str) = some .globalImplicit) (hkc : scope.names.lookup ("__class__" : Str) = some .free) (hka : scope.names.lookup ar.arg = some .local)
    {Q : Flow → Shared → Prop} {E : Value → Shared → Prop} {pl : Sem Bool} (hq : ∀ s', Inv X pins σ H s' → Q .next s')
    (hi : interactive X.env = false := by rfl) (hsw : swapsWith (.Call (.Attribute (.Call (.Name "super" p0) [] [] p1) "__init__" p2) [.Constant (.str m) j p3] [] p4) none p5.line X.env = pure false := by rfl)
    (he : eval (.Call (.Attribute (.Call (.Name "super" p0) [] [] p1) "__init__" p2) [.Constant (.str m) j p3] [] p4) X.env = (do
      let ov ← attributeBase (.Call (.Name "super" p0) [] [] p1) "__init__" X.env (eval (.Call (.Name "super" p0) [] [] p1) X.env)
      standAt p2.atName
      let (f, first) ← holding [ov] (getMethod ov "__init__" pl)
      callWith p4 f first (backTo p4 (starEach [.Constant (.str m) j p3] X.env)) []) := by rfl) :
    _root_.PySem.wpAt (model X.prog X.w) X.A (.func cbody X.env) (exec (.Expr (.Call (.Attribute (.Call (.Name "super" p0) [] [] p1) "__init__" p2) [.Constant (.str m) j p3] [] p4) p5) X.env) Q E s := by
  obtain ⟨oc, od, kV, doc, pm, an, ct, osl, rfl, hf⟩ := D.ex
  obtain ⟨cl, cld, csl, hcell⟩ := D.cell
  obtain ⟨ccl, cdd, vs, ccs, tf, hcode, hvs⟩ := D.code
  have KX := I.kIn
  refine ks_wpAt_Expr_any (ks_wpAt_MethodCall (pl := pl) ?_ he) hi hsw
  obtain ⟨nm, q, N, bs, bm, sn, sub, ab, col, dd, k0, k1, k2, k3, k5, hC, hbm⟩ := T.T.cls
  obtain ⟨mb, hb1, hb2⟩ := I.mod.blt
  obtain ⟨mL, hns, hloc⟩ := I.loc
  obtain ⟨u0, hu0, hl0⟩ := hloc 0 ar.arg (.ref a) h0 hs0 (.inl (by rw [henv]; exact hka))
  obtain rfl : u0 = Value.ref a := hu0
  have hself : mL ar.arg = some (.ref a) := by
    rcases hl0 with ⟨_, e⟩ | ⟨e, _⟩
    · exact e
    · have e1 : scope.names.lookup ar.arg = some .cell ∨ scope.names.lookup ar.arg = some .free := by rw [henv] at e; exact e
      rw [hka] at e1
      rcases e1 with e1 | e1 <;> cases e1
  obtain ⟨t1, ho⟩ := exo_at I.hok ea
  have hkS : X.env.kindOf "super" = some .globalImplicit := by rw [henv]; exact hks
  have hkC : X.env.kindOf "__class__" = some .free := by rw [henv]; exact hkc
  refine PySem.ks_wpAt_super_base (f := f) (cc := cda) hkS hkC (by decide) (by rw [henv]) (KX _ _ hf) rfl hp (by rw [henv]) (KX _ _ hcode) rfl hvs hfile htop ?_
  refine PySem.W.ks_loadName_global I.ok.kind hkS (Calls.loadGlobal_builtin (by rw [I.ok.glob]; exact I.mod.glob.keeps I.bk) hm (by rw [I.ok.blt]; exact hb1.keeps I.bk) ((hb2 "super" (by decide)).trans (by decide +kernel)) ⟨rfl, ?_⟩)
  refine wpAny_loadName_free I.ok.kind hkC (c := cc) (by rw [henv]; rfl) ⟨_, KX _ _ hcell, rfl⟩ ?_
  refine wpAny_loadName_local I.ok.kind (by rw [henv]; exact hka) hns hself ?_
  refine PySem.ks_wpAny_isType_cls (KX _ _ hC) rfl ⟨rfl, ?_⟩
  obtain ⟨hh, g, d, t, os⟩ := s
  have hno : ∀ c, ({ cls := .ref C, dict := none, data := .fields #[.ref t1, .none, .none, .none, .bool false, .none] } : Obj).data ≠ .cls c := fun c e => by cases e
  refine PySem.ks_wpAny_call_super (KX _ _ hC) rfl ho rfl hno (PySem.W.looks_mroIn KX T.self) fun h' e k => ?_
  have I1 : Inv X pins σ H ⟨h', g, d, t, os⟩ := I.kept (t' := t) k
  have K1 := I1.kIn
  obtain ⟨t2, ho1⟩ := exo_at I1.hok ea
  have hcl : PySem.W.clsIn X.K C = some { name := nm, bases := bs, mro := .ref C :: bm, ns := N, qualname := q, hasDict := true, slotNames := sn, subclasses := sub, abstract := ab, collection := col, hasDel := false } := by unfold PySem.W.clsIn; rw [hC] <;> rfl
  have hsup := T.sup
  unfold PySem.W.ks_superIn at hsup
  rw [hcl] at hsup
  have J : PySem.W.InstAt h' a { cls := .ref C, dict := none, data := .fields #[.ref t2, .none, .none, .none, .bool false, .none] } C none := ⟨ho1, rfl, rfl, trivial⟩
  refine PySem.W.kxs_getMethod PySem.W.kxs_ValueError (D := C) (x := a) (C := C) e (PySem.W.looks_opaque K1 T.any) (l₀ := .ref C :: bm) ?_ rfl K1 hsup (J.type.andThen (PySem.W.looks_subIn K1 T.sub)) (PySem.W.ks_ne K1 J hcl) (by decide) ?_
  · exact fun A Q E s k q => wpAny_bind ((PySem.W.looks_clsIn K1 hcl) A _ E s k (wpAny_pure q))
  have I2 := ClX.pin_new (t' := t + 1) (a := h'.objs.size) (o := PySem.W.kxs_mw "ValueError.__init__" a) (h' := h'.push (PySem.W.kxs_mw "ValueError.__init__" a)) I1 (fun b o e => Heap.get?_push_of_some _ e) (Nat.le_refl _) (Heap.get?_push_at rfl rfl) (fun v e => by cases e)
  refine PySem.W.kxs_callWith (i := "ValueError.__init__") (x := a) rfl ?_
  refine Calls.evalArgs_plain (thn ((pa_cons (pe_str (x := m) (j := j) (pos := p3)) pa_nil).run p4 _ _ σ H (fun ws H2 => ws = [.str m] ∧ H2 = H) I2 ⟨rfl, rfl⟩) fun us s3 ⟨ws, H3, I3, r3, e1, e2⟩ => ?_)
  subst e1 e2
  refine ⟨ClX.pin_at I3, ?_⟩
  obtain ⟨t3, ho3⟩ := exo_at I3.hok ea
  have l3 : us.length ≤ sizeLine := by rw [← Paired.length r3, sizeLine_eq]; show (1 : Nat) ≤ 16777216; decide
  obtain ⟨hp3, g3, d3, tk3, os3⟩ := s3
  refine err_call (I3.kIn _ _ hC) ho3 (ClX.pin_at I3) l3 fun h4 t4 k4 e4 => ?_
  have I4 := ClX.unpin I3
  have J4 := I4.write (t' := tk3) (x := a) (e := a) (o := exo a C none) (by rw [ea]; exact True.intro) (.inl rfl) k4 ⟨_, e4⟩ (exo_ok e4)
  have eu : upd H3 a (exo a C none) = H3 := by
    funext b
    by_cases hb : b = a
    · rw [hb, upd_same, ea]
    · rw [upd_ne hb]
  rw [eu] at J4
  exact hq _ J4
/-- C(x), x kept in the field fld -/
def spErr (C : Addr) (fld : Str) : Sp := fun vs H Q _ => ∃ (a : Addr) (u : V), vs = [.ref a, u] ∧ H a = some (exo a C none) ∧ ∀ dx, H dx = none → dx ≠ a → Q .non (upd (upd H dx (exd dx [(fld, u)])) a (exo a C (some dx)))
theorem err_ok {P : Program} {w : World} {K : PySem.W.Frag} {mg : Str → Option Value} {base : Heap} {CX : CXT} {N : List Str} {x qual self par fld m : Str} {params : Arguments} {body : List Stmt} {scope : Scope} {C f cc cda : Addr} {file : Str} {fd : FuncData} {ar : Arg} {j k : Nat} {p0 p1 p2 p3 p4 p5 p6 p7 p8 p9 : Pos}
    (D : ErrD K x qual params body scope C f cc cda file fd) (T : ErrC K C) (hfld : PySem.W.findIn K (.ref C) fld = some none) (S : NScope N [self, par] ["__class__"] scope)
    (hbody : body = [.Expr (.Call (.Attribute (.Call (.Name "super" p0) [] [] p1) "__init__" p2) [.Constant (.str m) j p3] [] p4) p5, .Assign [.Attribute (.Name self p6) fld p7] (.Name par p8) p9])
    (hp : (params.posonlyargs ++ params.args).head? = some ar) (har : ar.arg = self) (hN0 : N[0]? = some self) (hN1 : N[1]? = some par)
    (hfile : ((P.main.file : Str) == file) = true) (hm : mg "super" = none) (htop : (P.main.scope.names.lookup ("super" : Str)).isSome = false) (hks : scope.names.lookup ("super" : Str) = some .globalImplicit)
    (hi : ∀ L, interactive (PySem.W.envX qual scope L f (.ref cda) [(("__class__" : Str), cc)]) = false)
    (hsw : ∀ L, swapsWith (.Call (.Attribute (.Call (.Name "super" p0) [] [] p1) "__init__" p2) [.Constant (.str m) j p3] [] p4) none p5.line (PySem.W.envX qual scope L f (.ref cda) [(("__class__" : Str), cc)]) = pure false)
    (hsw2 : ∀ L, swapsWith (.Name par p8) (some (.Attribute (.Name self p6) fld p7)) p9.line (PySem.W.envX qual scope L f (.ref cda) [(("__class__" : Str), cc)]) = pure false)
    (he : ∀ L, ∃ pl, eval (.Call (.Attribute (.Call (.Name "super" p0) [] [] p1) "__init__" p2) [.Constant (.str m) j p3] [] p4) (PySem.W.envX qual scope L f (.ref cda) [(("__class__" : Str), cc)]) = (do
      let ov ← attributeBase (.Call (.Name "super" p0) [] [] p1) "__init__" (PySem.W.envX qual scope L f (.ref cda) [(("__class__" : Str), cc)]) (eval (.Call (.Name "super" p0) [] [] p1) (PySem.W.envX qual scope L f (.ref cda) [(("__class__" : Str), cc)]))
      standAt p2.atName
      let (f2, first) ← holding [ov] (getMethod ov "__init__" pl)
      callWith p4 f2 first (backTo p4 (starEach [.Constant (.str m) j p3] (PySem.W.envX qual scope L f (.ref cda) [(("__class__" : Str), cc)]))) []))
    (d1 : (self == ("__debug__" : Str)) = false) (d2 : (self == ("__classdict__" : Str)) = false) (d3 : (par == ("__debug__" : Str)) = false) (d4 : (par == ("__classdict__" : Str)) = false) :
    FnOk P w K mg base CX (k + 1) f fd [self, par] (spErr C fld) := by
  have hself : scope.names.lookup self = some .local := S.par self (by simp)
  have hpar : scope.names.lookup par = some .local := S.par par (by simp)
  have hfr : scope.names.lookup ("__class__" : Str) = some .free := S.frk _ (by simp)
  refine ⟨fun vs H Q E ⟨a, u, e, _⟩ => by rw [e]; rfl, fun A outer s H args us vs Q E hr e0 hb r hsp => ?_⟩
  obtain ⟨a, u, rfl, ea, hq⟩ := hsp
  obtain ⟨oc, od, kV, doc, pm, an, ct, osl, rfl, lk⟩ := D.ex
  obtain ⟨cl, cld, csl, hcell⟩ := D.cell
  have KX : K.In s.heap := e0.mod.kin.keeps fun b o e => (e0.bs b o e).1
  have lim : s.heap.NoLimit := e0.mod.nolimit.keeps fun b o e => (e0.bs b o e).1
  refine codeAny_call_function hr.depth (KX _ _ lk) rfl S.co S.gen rfl (PySem.W.codeRec_of KX D.crec) (hb _ _ _ _ ?_)
  refine wpAny_newFunctionEnv S.nocell (fun ⟨n, _⟩ hy => S.par n (List.of_mem_zip hy).1) (fun h₁ hns hsb => ⟨lim.fresh _ hsb, ?_⟩) S.kind
  have kp : ∀ b o, s.heap.get? b = some o → h₁.get? b = some o := fun b o e => hsb.extBut b o (Nat.ne_of_lt (Heap.lt_size e)) (Heap.get?_push_of_some _ e)
  have CA : CellsAt [(("__class__" : Str), cc)] ["__class__"] [none] s.heap H := by
    have key : ∀ {y : Str} {c : Addr}, List.lookup y [(("__class__" : Str), cc)] = some c → y = "__class__" ∧ c = cc := fun {y c} e => by
      rw [List.lookup_cons] at e
      cases q : (y == ("__class__" : Str)) with
      | true => rw [q] at e; cases e; exact ⟨beq_iff_eq.mp q, rfl⟩
      | false => rw [q] at e; cases e
    refine ⟨rfl, fun y c e => ?_, fun y z c e1 e2 => by rw [(key e1).1, (key e2).1], fun i y e => ?_⟩
    · obtain ⟨rfl, rfl⟩ := key e
      exact ⟨(e0.bs _ _ (e0.mod.kin _ _ hcell)).2, _, _, KX _ _ hcell, rfl⟩
    · cases i with
      | zero =>
        cases e
        exact ⟨cc, rfl, fun v e => by cases e⟩
      | succ i => cases e
  let F : NF := ⟨x, qual, params, body, scope, [("__class__", cc)], cda⟩
  have I : Inv (ncx CX P w K mg base N F f A outer s H E) [] (startF N [.ref a, u] [none]) H { s with heap := h₁, toks := s.toks + ([self, par].zip us).length } := inv_startN (F := F) S hr.hd e0 rfl r CA hns kp
  show codeAny _ _ (.func body (envF F f s.heap.objs.size)) _ _
  refine PySem.ks_codeAny_funcAt ?_
  subst hbody
  obtain ⟨pl, he⟩ := he s.heap.objs.size
  refine PySem.ks_wpAt_execs_cons (err_super (X := ncx CX P w K mg base N F f A outer s H E) (F := F) D T rfl I ea hp (by rw [har]; exact hN0) rfl hfile hm htop hks hfr (by rw [har]; exact hself) (pl := pl) (fun s1 I1 => ?_) (hi _) (hsw _) he)
  refine wpAt_of_wpAny ?_
  have P1 : PSs (ncx CX P w K mg base N F f A outer s H E) [.Assign [.Attribute (.Name self p6) fld p7] (.Name par p8) p9] (tOst K fld (tVar 0) (tVar 1)) :=
    pss_one (ps_ost (pe_var hN0 (.inl hself) d1 d2) (pe_var hN1 (.inl hpar) d3 d4) (hsw2 _))
  have fin : ∀ {σ' : L2.St} {H' : Hp} {v : V} {u : Value} {s' : Shared}, Inv (ncx CX P w K mg base N F f A outer s H E) [] σ' H' s' → L2.RelV v u → Q v H' → CE outer P w H s Q u s' :=
    fun {σ' H' v u s'} J rv q => ⟨v, H', J.os, J.bare, J.base, J.hok, rv, q⟩
  refine wpAny_mono (P1.run [] s1 _ H { nx := fun _ H' => Q .non H', rt := Q } I1 ?_) (fun fl s' hs => ?_) fun e s' hs => hs
  · refine ⟨u, rfl, .ref a, rfl, a, C, rfl, T.T, hfld, .inl ⟨ea, fun dx h1 h2 => hq dx h1 h2⟩⟩
  · cases fl with
    | ret u =>
      obtain ⟨v, σ', H', J, rv, q⟩ := hs
      exact fin J rv q
    | next =>
      obtain ⟨σ', H', J, q⟩ := hs
      exact fin (v := V.non) (u := Value.none) J rfl q
    | brk =>
      obtain ⟨_, _, _, q⟩ := hs
      exact False.elim q
    | cont =>
      obtain ⟨_, _, _, q⟩ := hs
      exact False.elim q
end DL

namespace DL
open PySem L2 He
/-! ### raise C(x) -/
structure FnE (P : Program) (w : World) (K : PySem.W.Frag) (mg : Str → Option Value) (base : Heap) (k : Nat) (C fld : Str) : Prop where
  ex : ∃ f fd ps, FnOk P w K mg base (L2.CX P w) k f fd ps (spErr (ga K C) fld) ∧ PySem.W.findIn K (.ref (ga K C)) "__init__" = some (some (.ref f)) ∧ PySem.W.typeIn K (.ref f) = some (.type "function") ∧ Binds K fd ps []
  T : OexC K (ga K C)
  g : mg C = some (.ref (ga K C))
def dRaise (C fld : Str) (te : DTE) : DTS := fun D0 τ M => te τ M (fun d M1 => D0.xc ⟨C, [(fld, d)]⟩ τ M1) (D0.ex τ)
section
variable {X : Cx} {W : WX} {e : Expr} {te : DTE} {pos pos' p : Pos} {C fld : Str} {k : Nat}
theorem ds_raise (F : FnE X.prog X.w X.K X.mg X.base k C fld) (G : Gd X W) (hr : Room (k + 1) X.A) (he : DE X W e te) (hg : Gl X C := by rfl) (hdb : (C == ("__debug__" : Str)) = false := by decide)
    (hst : starEach [e] X.env = (false, eval e X.env) :: starEach [] X.env := by rfl) (hpl : (backTo pos (starEach [] X.env)).any (·.1) = false := by rfl) : DS X W (.Raise (some (.Call (.Name C p) [e] [] pos)) none pos') (dRaise C fld te) := by
  obtain ⟨f, fd, ps, Fk, hi, ht, hb⟩ := F.ex
  refine PS.of (ps_raise G.calm G.tk (pmk_oex (dvs := []) (ds := []) F.T hi ht Fk hr hb .nil (fun pins σ H s e s' I h => passAt takes_none5 σ pins H s e s' I h) hg F.g (da_cons he da_nil (hs := hst)) hdb hst hpl)) fun D1 σ H ⟨τ, M, D0, S, h⟩ => ?_
  refine S.sub (R1 := RA X.K) (t := daCons te daNil) (G := fun ds M1 => match ds with
    | [d] => D0.xc ⟨C, [(fld, d)]⟩ τ M1
    | _ => False) h fun ds M1 vs H1 h1 r1 S1 s1 => ?_
  match ds, h1 with
  | [d], h1 =>
    obtain ⟨v, us, rfl, rv, rn⟩ := r1.uncons
    cases rn.unnil
    refine ⟨(by show (1 : Nat) ≤ 1000; decide), fun a ha => ⟨a, v, rfl, upd_same, fun dx hdx hne => ⟨rfl, dx, [(fld, v)], upd_same, by rw [upd_ne hne, upd_same], by rw [upd_ne hne] at hdx; exact hdx, ?_⟩⟩⟩
    have hdx1 : H1 dx = none := by rw [upd_ne hne] at hdx; exact hdx
    have e1 : upd (L2.del (upd (upd (upd H1 a (exo a (ga X.K C) none)) dx (exd dx [(fld, v)])) a (exo a (ga X.K C) (some dx))) a) dx (.xd [(fld, v)]) = upd H1 dx (.xd [(fld, v)]) := by
      funext b
      by_cases hb : b = dx
      · rw [hb, upd_same, upd_same]
      · rw [upd_ne hb, upd_ne hb]
        by_cases hba : b = a
        · rw [hba, L2.del_same, ha]
        · rw [L2.del_ne hba, upd_ne hba, upd_ne hb, upd_ne hba]
    rw [e1]
    have st : Stp M1 H1 M1 (upd H1 dx (.xd [(fld, v)])) := Stp.new hdx1
    exact S1.xc ⟨C, [(fld, d)]⟩ τ M1 _ _ σ _ h1 ⟨rfl, _, upd_same, S1.co.free hdx1, rfl, .cons (rv.stp st) .nil⟩ (S1.rs.stp st) (S1.co.new hdx1) st
/-! ### try .. except LentError as e -/
/-- is the error class C a T? (all error classes stand right beneath LentError, and that beneath ValueError) -/
def isE (C T : Str) : Bool := decide (T = C) || decide (T = "LentError")
structure ErrT (K : PySem.W.Frag) (Es Ts : List Str) : Prop where
  exm : ∀ C ∈ Es, PySem.W.exmOne K (.ref (ga K C)) (.ref (ga K "LentError")) = some true
  kit : ∀ C ∈ Es, ∀ T ∈ Ts, PySem.W.kitOne K (.ref (ga K C)) (.ref (ga K T)) = some (isE C T)
  kitV : ∀ C ∈ Es, PySem.W.kitOne K (.ref (ga K C)) (.type "ValueError") = some true
  cls : ∀ C ∈ Es, (PySem.W.clsIn K (ga K C)).isSome = true
  xf : ∀ C ∈ Es, XfC K (ga K C)
  cl : ∀ C ∈ Es, PySem.W.findIn K (.ref (ga K C)) "__class__" = some (some (.builtin "object.__class__"))
  top : ∀ C ∈ Es, PySem.W.mroIn K (ga K C) (.type "object") = some true
  sp : PySem.W.specialIn K (.builtin "object.__class__") "__get__" = some (some (.builtin "getset_descriptor.__get__"))
  tk : PySem.W.takesIn K (.builtin "object.__class__") = some true
def errTB (Es Ts : List Str) (K : PySem.W.Frag) : Bool :=
  Es.all (fun C => decide (PySem.W.exmOne K (.ref (ga K C)) (.ref (ga K "LentError")) = some true) && (Ts.all (fun T => decide (PySem.W.kitOne K (.ref (ga K C)) (.ref (ga K T)) = some (isE C T))) &&
    (decide (PySem.W.kitOne K (.ref (ga K C)) (.type "ValueError") = some true) && ((PySem.W.clsIn K (ga K C)).isSome && (xfB K (ga K C) && (He.eqO (PySem.W.findIn K (.ref (ga K C)) "__class__") (some (some (.builtin "object.__class__"))) &&
    decide (PySem.W.mroIn K (ga K C) (.type "object") = some true))))))) &&
  (decide (PySem.W.specialIn K (.builtin "object.__class__") "__get__" = some (some (.builtin "getset_descriptor.__get__"))) && decide (PySem.W.takesIn K (.builtin "object.__class__") = some true))
theorem errTB_ok {Es Ts : List Str} {K : PySem.W.Frag} (h : errTB Es Ts K = true) : ErrT K Es Ts := by
  obtain ⟨h1, h2⟩ := ba h
  obtain ⟨h3, h4⟩ := ba h2
  have hC := List.all_eq_true.mp h1
  refine ⟨fun C m => ?_, fun C m => ?_, fun C m => ?_, fun C m => ?_, fun C m => ?_, fun C m => ?_, fun C m => ?_, of_decide_eq_true h3, of_decide_eq_true h4⟩
  all_goals
    obtain ⟨a1, b1⟩ := ba (hC C m)
    obtain ⟨a2, b2⟩ := ba b1
    obtain ⟨a3, b3⟩ := ba b2
    obtain ⟨a4, b4⟩ := ba b3
    obtain ⟨a5, b5⟩ := ba b4
    obtain ⟨a6, a7⟩ := ba b5
  · exact of_decide_eq_true a1
  · exact fun T mT => of_decide_eq_true (List.all_eq_true.mp a2 T mT)
  · exact of_decide_eq_true a3
  · exact a4
  · exact xfB_ok a5
  · exact He.eqO_ok a6
  · exact of_decide_eq_true a7
/-! isinstance(e, ..) in the suite -/
def isED (C : Str) : D → Bool
  | .cl T => isE C T
  | .ty _ => true
  | _ => false
def okED (Ts : List Str) : D → Bool
  | .cl T => decide (T ∈ Ts)
  | .ty n => decide (n = "ValueError")
  | _ => false
/-- (a, dd, C): the exception that the suite holds -/
def gIsE (a dd : Addr) (C : Str) (Ts : List Str) : DCb := fun xs M Q => match xs with
  | [.exc a' dd' C' _ _, z] => a' = a ∧ dd' = dd ∧ C' = C ∧ (match z with
    | .tup cs => cs.all (okED Ts) = true ∧ Q (.bl (cs.any (isED C))) M
    | z => okED Ts z = true ∧ Q (.bl (isED C z)) M)
  | _ => False
def rIsEx (K : PySem.W.Frag) (a dd D : Addr) : List V → Hp → VK → Prop := fun xs H Q => ∃ gs, H dd = some (.xd gs) ∧
  ((∃ (tp : Addr) (cs : List V) (us : List Value) (b : Bool), xs = [.ref a, .ref tp] ∧ (H tp = some (.tup cs) ∨ WrT K tp cs) ∧ Paired ClsV cs us ∧ PySem.W.kitAny K (.ref D) us = some b ∧ Q (.bl b) H) ∨
   ∃ (c : V) (u : Value) (b : Bool), xs = [.ref a, c] ∧ ClsV c u ∧ PySem.W.kitOne K (.ref D) u = some b ∧ Q (.bl b) H)
theorem call_isEx {X : Cx} {a dd : Addr} {C : Str} {oe : Obj} {pn : List (Addr × Obj)} {Es Ts : List Str} (T : ErrT X.K Es Ts) (hC : C ∈ Es) (hz : Zc (.ref (ga X.K C)) (some dd) oe) (hf : ∃ vs, oe.data = .fields vs) :
    CallR (X.suite a ((a, oe) :: pn)) (.builtin "isinstance") (rIsEx X.K a dd (ga X.K C)) := by
  intro pins s σ H xs us Q I r h
  obtain ⟨gs, hdd, h⟩ := h
  obtain ⟨hget, _⟩ := I.pin (a, oe) (List.mem_append.mpr (.inl List.mem_cons_self))
  obtain ⟨vs, hv⟩ := hf
  have hx : ObjOk X.prog X.w H s.heap dd (.xd gs) := I.hok dd _ hdd
  obtain ⟨mA, hns, _⟩ := hx
  obtain ⟨od, ho, _⟩ := lookIn_ns hns
  have J : PySem.W.InstAt s.heap a oe (ga X.K C) (some od) := ⟨hget, hz.1, by unfold PySem.W.notCls; rw [hv] <;> rfl, by rw [hz.2]; exact ho⟩
  have Z := PySem.W.kitx_exc (K := X.K) (x := a) (C := ga X.K C) (ox := oe) (od := some od) (T.cls C hC) (T.xf C hC).ga (T.xf C hC).gg (T.xf C hC).exC (T.cl C hC) T.sp T.tk (T.top C hC)
  rcases h with ⟨tp, cs, ws, b, rfl, ht, hp, hk, q⟩ | ⟨c, u, b, rfl, hp, hk, q⟩
  · obtain ⟨u1, u2, rfl, r1, r2⟩ := vals2 r
    cases (show u1 = Value.ref a from r1)
    cases (show u2 = Value.ref tp from r2)
    rcases ht with ht | ⟨o, its, n, lk, h2, h3, _, rv⟩
    rotate_left
    · have e3 := ClsV.all hp rv
      subst e3
      obtain ⟨oc, odd, dt, sl⟩ := o
      simp only at h2 h3
      subst h2 h3
      exact PySem.W.kia_tup Z I.kIn J (by simpa using I.kIn _ _ lk) hk (fun z => nomatch z) fun tk => ⟨.bl b, H, I.kept (t' := tk) fun _ _ z => z, rfl, q⟩
    obtain ⟨_, its, rv, o, h1, h2, n, h3⟩ := (show ObjOk X.prog X.w H s.heap tp (.tup cs) from I.hok tp _ ht)
    have e3 := ClsV.all hp rv
    subst e3
    obtain ⟨oc, odd, dt, sl⟩ := o
    simp only at h2 h3
    subst h2 h3
    exact PySem.W.kia_tup Z I.kIn J h1 hk (fun z => nomatch z) fun tk => ⟨.bl b, H, I.kept (t' := tk) fun _ _ z => z, rfl, q⟩
  · obtain ⟨u1, u2, rfl, r1, r2⟩ := vals2 r
    cases (show u1 = Value.ref a from r1)
    have e2 := hp.eq r2
    subst e2
    exact PySem.W.kia_one Z I.kIn J hk (fun z => nomatch z) fun tk => ⟨.bl b, H, I.kept (t' := tk) fun _ _ z => z, rfl, q⟩
theorem rep_tupW {K : PySem.W.Frag} {M : Mu} {H : Hp} {ds : List D} {v : V} (r : Rep K M H (.tup ds) v) : ∃ a vs, v = .ref a ∧ ((H a = some (.tup vs) ∧ M a = none) ∨ WrT K a vs) ∧ Reps K M H ds vs := r
theorem cls_reps {K : PySem.W.Frag} {M : Mu} {H : Hp} {Ts : List Str} {C : Str} {Es : List Str} (T : ErrT K Es Ts) (hC : C ∈ Es) : ∀ {cs : List D} {vs : List V}, cs.all (okED Ts) = true → Reps K M H cs vs →
    ∃ us, Paired ClsV vs us ∧ PySem.W.kitAny K (.ref (ga K C)) us = some (cs.any (isED C))
  | [], _, _, r => by cases r.unnil; exact ⟨[], .nil, rfl⟩
  | c :: cs, _, h, r => by
    obtain ⟨v, vs, rfl, r1, r2⟩ := r.uncons
    obtain ⟨h1, h2⟩ := ba (show (okED Ts c && cs.all (okED Ts)) = true from h)
    obtain ⟨us, p, k⟩ := cls_reps T hC h2 r2
    cases c with
    | cl T' =>
      cases r1
      refine ⟨.ref (ga K T') :: us, .cons (.own _) p, ?_⟩
      unfold PySem.W.kitAny
      rw [T.kit C hC T' (of_decide_eq_true h1)]
      show _ = some (isE C T' || cs.any (isED C))
      cases isE C T' with
      | true => rfl
      | false => exact k
    | ty n =>
      cases r1
      have e : n = "ValueError" := of_decide_eq_true h1
      subst e
      refine ⟨.type "ValueError" :: us, .cons (.ty _) p, ?_⟩
      unfold PySem.W.kitAny
      rw [T.kitV C hC]
      rfl
    | _ => cases h1
theorem cb_isE {K : PySem.W.Frag} {a dd : Addr} {C : Str} {Es Ts : List Str} (T : ErrT K Es Ts) (hC : C ∈ Es) : CbD K (gIsE a dd C Ts) (rIsEx K a dd (ga K C)) := fun M H xs vs Q0 Q c r h q => by
  match xs, h with
  | [.exc a' dd' C' ns es, z], h =>
    obtain ⟨e1, e2, e3, h⟩ := h
    subst e1 e2 e3
    obtain ⟨v, us, rfl, r1, r2⟩ := r.uncons
    obtain ⟨u, us, rfl, r3, r4⟩ := r2.uncons
    cases r4.unnil
    obtain ⟨rfl, gs, g1, g2, g3, g4⟩ := (show v = .ref a' ∧ _ from r1)
    refine ⟨gs, g1, ?_⟩
    cases z with
    | tup cs =>
      obtain ⟨tp, ws, rfl, ht, rw⟩ := rep_tupW r3
      obtain ⟨us, p, k⟩ := cls_reps T hC h.1 rw
      exact .inl ⟨tp, ws, us, _, rfl, ht.elim (fun z => .inl z.1) .inr, p, k, q _ M _ H h.2 rfl c (Stp.refl M H)⟩
    | cl T' =>
      cases r3
      exact .inr ⟨_, _, _, rfl, .own _, T.kit C' hC T' (of_decide_eq_true h.1), q _ M _ H h.2 rfl c (Stp.refl M H)⟩
    | ty n =>
      cases r3
      have e : n = "ValueError" := of_decide_eq_true h.1
      subst e
      exact .inr ⟨_, _, _, rfl, .ty _, T.kitV C' hC, q _ M _ H h.2 rfl c (Stp.refl M H)⟩
    | _ => exact absurd h.1 Bool.false_ne_true
/-! e.f in the suite -/
def dXF (a dd : Addr) (C f : Str) (te : DTE) : DTE := fun τ M Q E => te τ M (fun z M1 => match z with
  | .exc a' dd' C' ns ds => a' = a ∧ dd' = dd ∧ C' = C ∧ (match (ns.zip ds).lookup f with
    | some y => Q y M1
    | none => False)
  | _ => False) E
theorem zip_fld {K : PySem.W.Frag} {M : Mu} {H : Hp} {f : Str} {y : D} : ∀ {ns : List Str} {ds : List D} {gs : List (Str × V)}, gs.map (·.1) = ns → Reps K M H ds (gs.map (·.2)) → (ns.zip ds).lookup f = some y → ∃ v, gs.lookup f = some v ∧ Rep K M H y v
  | [], ds, gs, _, _, e => by cases e
  | n :: ns, [], gs, _, _, e => by cases e
  | n :: ns, d :: ds, [], h, _, _ => by cases h
  | n :: ns, d :: ds, (g, v) :: gs, h, r, e => by
    obtain ⟨h1, h2⟩ := List.cons.inj h
    have h1 : g = n := h1
    subst h1
    obtain ⟨v', us, e1, r1, r2⟩ := r.uncons
    obtain ⟨e2, e3⟩ := List.cons.inj e1
    subst e2 e3
    rw [List.zip_cons_cons, List.lookup_cons] at e
    rw [List.lookup_cons]
    cases q : (f == g) with
    | true =>
      rw [q] at e
      cases e
      exact ⟨_, rfl, r1⟩
    | false =>
      rw [q] at e
      exact zip_fld h2 r2 e
theorem de_xf {X : Cx} {W : WX} {a dd : Addr} {C f : Str} {oe : Obj} {pn : List (Addr × Obj)} {Es Ts : List Str} {e : Expr} {te : DTE} {pos : Pos} (T : ErrT X.K Es Ts) (hC : C ∈ Es) (hno : PySem.W.findIn X.K (.ref (ga X.K C)) f = some none)
    (hz : Zc (.ref (ga X.K C)) (some dd) oe) (hf : ∃ vs, oe.data = .fields vs) (he : DE (X.suite a ((a, oe) :: pn)) W e te) (hb : attributeBase e f X.env (eval e X.env) = eval e X.env := by rfl) :
    DE (X.suite a ((a, oe) :: pn)) W (.Attribute e f pos) (dXF a dd C f te) :=
  PE.of (pe_xf (T.xf C hC) hno hz hf he hb) fun σ H Q ⟨τ, M, Q0, E0, S, h⟩ => S.sub h fun z M1 v H1 h1 r1 S1 s1 => by
    cases z with
    | exc a' dd' C' ns ds =>
      obtain ⟨e1, e2, e3, hh⟩ := h1
      subst e1 e2 e3
      obtain ⟨rfl, gs, g1, g2, g3, g4⟩ := (show v = .ref a' ∧ _ from r1)
      cases q : (ns.zip ds).lookup f with
      | none => rw [q] at hh; exact hh.elim
      | some y =>
        rw [q] at hh
        obtain ⟨u, h1, h2⟩ := zip_fld g3 g4 q
        exact ⟨rfl, rfl, dd', gs, u, rfl, g1, h1, S1.end_ hh h2⟩
    | _ => exact h1.elim
/-! the statement -/
def suE (D0 : DEnds) (i : Nat) : DEnds := ⟨fun τ2 M2 => D0.nx (τ2.set i none) M2, D0.rt, fun τ2 M2 => D0.bk (τ2.set i none) M2, fun τ2 M2 => D0.ct (τ2.set i none) M2, fun _ _ _ => False⟩
def caE (Es : List Str) (i : Nat) (ts : Addr → Addr → Str → DTS) (D0 : DEnds) (x : XD) (τ : DSt) (M : Mu) : Prop :=
  x.cls ∈ Es ∧ x.fs ≠ [] ∧ ∀ a dd, M a = none → ts a dd x.cls (suE D0 i) (τ.set i (some (.exc a dd x.cls (x.fs.map (·.1)) (x.fs.map (·.2))))) M
def dTryAs (Es : List Str) (i : Nat) (tb : DTS) (ts : Addr → Addr → Str → DTS) : DTS := fun D0 τ M => tb ⟨D0.nx, D0.rt, D0.bk, D0.ct, caE Es i ts D0⟩ τ M
theorem ds_tryas {X : Cx} {W : WX} {n : Str} {body suite : List Stmt} {b₀ : Stmt} {np pos pos' : Pos} {tb : DTS} {ts : Addr → Addr → Str → DTS} {Es Ts : List Str} (i : Nat) (T : ErrT X.K Es Ts) (G : Gd X W) (hm : X.mg "LentError" = some (.ref (ga X.K "LentError")))
    (hb : ∀ (W1 : WX) (pn : List (Addr × Obj)) (xe : Value → Shared → Prop), Gd (X.tr pn xe) W1 → DSs (X.tr pn xe) W1 body tb)
    (hsu : ∀ (a dd : Addr) (C : Str) (oe : Obj) (pn : List (Addr × Obj)), C ∈ Es → Zc (.ref (ga X.K C)) (some dd) oe → (∃ vs, oe.data = .fields vs) → DSs (X.suite a ((a, oe) :: pn)) (fun _ _ _ _ => False) (b₀ :: suite) (ts a dd C))
    (hs : X.stack = X.env :: X.outer := by rfl) (hf : X.env.frame = some X.env.locals := by rfl) (hi : X.N[i]? = some n := by rfl) (hln : X.env.kindOf n = some .local := by rfl) (hg : Gl X "LentError" := by rfl) :
    DS X W (.Try body [.ExceptHandler (some (.Name "LentError" np)) (some n) (b₀ :: suite) pos'] [] [] pos) (dTryAs Es i tb ts) := by
  refine PS.of (ps_try_as (Wout := fun _ _ _ _ => False) (c := .ref (ga X.K "LentError")) (tb := fun W1 => lifS X.K W1 tb)
    (ts := fun a cls d D σ H => ∃ C dd, C ∈ Es ∧ cls = .ref (ga X.K C) ∧ d = some dd ∧ lifS X.K (fun _ _ _ _ => False) (ts a dd C) D σ H) hs hf G.nd hi hln ⟨hg, by decide, .inl hm⟩ takes_none5
    (fun W1 pn xe tk hp => hb W1 pn xe ⟨G.calm, tk, G.hu, hp, G.nd⟩) (fun a oe cls d pn hz hf => ⟨fun pins s σ H D I h => ?_⟩)) fun D1 σ H ⟨τ, M, D0, S, h⟩ => ?_
  · obtain ⟨C, dd, hC, rfl, rfl, h⟩ := h
    exact (hsu a dd C oe pn hC hz hf).run pins s σ H D I h
  · refine ⟨τ, M, ⟨D0.nx, D0.rt, D0.bk, D0.ct, caE Es i ts D0⟩, ⟨S.rs, S.co, S.nx, S.rt, S.bk, S.ct, fun x τ' M' c d σ' H' h rx rs co st => ?_⟩, h⟩
    obtain ⟨hC, hne, h⟩ := (show caE Es i ts D0 x τ' M' from h)
    obtain ⟨rfl, rx⟩ := rx
    cases d with
    | none => exact absurd rx hne
    | some dd =>
      obtain ⟨gs, g1, g2, g3, g4⟩ := rx
      refine ⟨true, T.exm _ hC, fun _ a ha => ⟨x.cls, dd, hC, rfl, rfl, ?_⟩, fun z => by cases z⟩
      refine ⟨τ'.set i (some (.exc a dd x.cls (x.fs.map (·.1)) (x.fs.map (·.2)))), M', suE D0 i, ⟨rs.set (show Rep X.K M' H' (.exc a dd x.cls (x.fs.map (·.1)) (x.fs.map (·.2))) (.ref a) from ⟨rfl, gs, g1, g2, g3, g4⟩) i, co, ?_, ?_, ?_, ?_, fun _ _ _ _ _ _ _ z => z.elim⟩, h a dd (co.free ha)⟩
      · exact fun τ2 M2 σ2 H2 h2 r2 c2 s2 => S.nx _ M2 _ H2 h2 (r2.none i none) c2 (st.trans s2)
      · exact fun d2 M2 v2 H2 h2 r2 c2 s2 => S.rt d2 M2 v2 H2 h2 r2 c2 (st.trans s2)
      · exact fun τ2 M2 σ2 H2 h2 r2 c2 s2 => S.bk _ M2 _ H2 h2 (r2.none i none) c2 (st.trans s2)
      · exact fun τ2 M2 σ2 H2 h2 r2 c2 s2 => S.ct _ M2 _ H2 h2 (r2.none i none) c2 (st.trans s2)
end
end DL

namespace DL
open PySem L2 He
/-! ### rows -/
def onExc {K : List Str → List D → Prop} (a dd : Addr) (C : Str) (_ : Lk K) (z : D) : Prop := match z with
  | .exc a' dd' C' ns ds => a' = a ∧ dd' = dd ∧ C' = C ∧ K ns ds
  | _ => False
theorem onExc_e {K : List Str → List D → Prop} {a dd : Addr} {C : Str} {ns : List Str} {ds : List D} : onExc (K := K) a dd C ⟨⟩ (.exc a dd C ns ds) = K ns ds := by show (a = a ∧ dd = dd ∧ C = C ∧ K ns ds) = K ns ds; simp
section
variable {C f fld : Str} {te : DTE} {tb : DTS} {ts : Addr → Addr → Str → DTS} {τ : DSt} {M : Mu} {Q : DK} {E : DX} {D0 : DEnds} {i : Nat} {a dd : Addr} {Es Ts : List Str} {ns : List Str} {ds cs : List D} {d y : D}
theorem u_raise : dRaise C fld te D0 τ M = te τ M (fun d M1 => D0.xc ⟨C, [(fld, d)]⟩ τ M1) (D0.ex τ) := pq Iff.rfl
theorem u_tryas : dTryAs Es i tb ts D0 τ M = tb ⟨D0.nx, D0.rt, D0.bk, D0.ct, caE Es i ts D0⟩ τ M := pq Iff.rfl
theorem u_ca : caE Es i ts D0 ⟨C, [(fld, d)]⟩ τ M = (C ∈ Es ∧ ∀ a dd, M a = none → ts a dd C (suE D0 i) (τ.set i (some (.exc a dd C [fld] [d]))) M) := by
  show (C ∈ Es ∧ [(fld, d)] ≠ [] ∧ _) = _
  simp only [ne_eq, reduceCtorEq, not_false_eq_true, true_and]
  rfl
theorem su_mk {nx : DSt → Mu → Prop} {rt : DK} {bk ct : DSt → Mu → Prop} {xc : XD → DSt → Mu → Prop} : suE ⟨nx, rt, bk, ct, xc⟩ i = ⟨fun τ2 M2 => nx (τ2.set i none) M2, rt, fun τ2 M2 => bk (τ2.set i none) M2, fun τ2 M2 => ct (τ2.set i none) M2, fun _ _ _ => False⟩ := rfl
theorem isE_t : cbK (K := Q) ⟨⟩ (gIsE a dd C Ts) [.exc a dd C ns ds, .tup cs] M = (cs.all (okED Ts) = true ∧ Q (.bl (cs.any (isED C))) M) := by
  show (a = a ∧ dd = dd ∧ C = C ∧ _) = _
  simp
theorem isE_c {T' : Str} : cbK (K := Q) ⟨⟩ (gIsE a dd C Ts) [.exc a dd C ns ds, .cl T'] M = (T' ∈ Ts ∧ Q (.bl (isE C T')) M) := by
  show (a = a ∧ dd = dd ∧ C = C ∧ okED Ts (.cl T') = true ∧ Q (.bl (isED C (.cl T'))) M) = _
  show (a = a ∧ dd = dd ∧ C = C ∧ decide (T' ∈ Ts) = true ∧ Q (.bl (isE C T')) M) = _
  simp
theorem isE_v : cbK (K := Q) ⟨⟩ (gIsE a dd C Ts) [.exc a dd C ns ds, .ty "ValueError"] M = Q (.bl true) M := by
  show (a = a ∧ dd = dd ∧ C = C ∧ okED Ts (.ty "ValueError") = true ∧ Q (.bl true) M) = _
  have e : okED Ts (.ty "ValueError") = true := rfl
  simp [e]
theorem u_xf : dXF a dd C f te τ M Q E = te τ M (fun z M1 => onExc (K := fun ns ds => onSome (K := fun y => Q y M1) ⟨⟩ ((ns.zip ds).lookup f)) a dd C ⟨⟩ z) E := by
  unfold dXF
  congr 1
  funext z M1
  cases z with
  | exc a' dd' C' ns ds =>
    show (a' = a ∧ dd' = dd ∧ C' = C ∧ (match (ns.zip ds).lookup f with
      | some y => Q y M1
      | none => False)) = (a' = a ∧ dd' = dd ∧ C' = C ∧ onSome (K := fun y => Q y M1) ⟨⟩ ((ns.zip ds).lookup f))
    cases (ns.zip ds).lookup f <;> rfl
  | _ => rfl
theorem zip_1 : (([f] : List Str).zip [y]).lookup f = some y := by rw [List.zip_cons_cons, List.lookup_cons, beq_self_eq_true]
end
/-! ### the head: an error class's own __init__ -/
def exCB (C : Str) (K : PySem.W.Frag) : Bool := match K.lookup (ga K C) with
  | some ⟨.type "type", _, .cls cd, sl⟩ => (match cd.mro, sl.toList with
    | .ref C' :: bm, [_, _, _, _, some (.builtin n), _] => decide (C' = ga K C) && (decide (n = "ValueError.__new__") && (!cd.hasDel && (cd.hasDict && PySem.HandSPX.refsVE bm)))
    | _, _ => false)
  | _ => false
theorem exCB_ok {C : Str} {K : PySem.W.Frag} (h : exCB C K = true) : ∃ nm q N bs bm sn sub ab col dd k0 k1 k2 k3 k5, K.lookup (ga K C) = some (excClassObj nm q (ga K C) N bs bm true sn sub ab col dd k0 k1 k2 k3 k5 "ValueError.__new__") ∧ PySem.HandSPX.refsVE bm = true := by
  unfold exCB at h
  split at h
  · rename_i dd cd sl ho
    split at h
    · rename_i C' bm k0 k1 k2 k3 n k5 hm hs
      obtain ⟨e1, h⟩ := ba h
      obtain ⟨e2, h⟩ := ba h
      obtain ⟨e3, h⟩ := ba h
      obtain ⟨e4, e5⟩ := ba h
      have e1 := of_decide_eq_true e1
      have e2 := of_decide_eq_true e2
      obtain ⟨nm, bs, mro, ns, qn, hd, sn, sub, ab, col, del⟩ := cd
      dsimp only at hm e3 e4
      have e3 : del = false := by simpa using e3
      subst hm e1 e2 e3 e4
      have hsl : sl = #[k0, k1, k2, k3, some (.builtin "ValueError.__new__"), k5] := by
        obtain ⟨l⟩ := sl
        simp only at hs
        rw [hs]
      subst hsl
      exact ⟨nm, qn, ns, bs, bm, sn, sub, ab, col, dd, k0, k1, k2, k3, k5, ho, e5⟩
    · cases h
  · cases h
def errCB (C fld : Str) (K : PySem.W.Frag) : Bool :=
  exCB C K && (eqO (PySem.W.findIn K (.ref (ga K C)) "__setattr__") (some (some (.builtin "object.__setattr__"))) && (decide (PySem.W.subIn K (.ref (ga K C)) (.type "BaseException") = some true) && (decide (PySem.W.typeIn K (.ref (ga K C)) = some (.type "type")) &&
  (PySem.W.keepIn K (.ref (ga K C)) && (eqO (PySem.W.ks_superIn K (ga K C) (ga K C) "__init__") (some (some (.builtin "ValueError.__init__"))) && (decide (PySem.W.subIn K (.ref (ga K C)) (.type "ValueError") = some true) &&
  (decide (PySem.W.mroIn K (ga K C) (.ref (ga K C)) = some true) && (eqO (PySem.W.nsIn K cStatics "thirdparty.any") (some none) && (eqO (PySem.W.findIn K (.ref (ga K C)) fld) (some none) &&
  (eqO (PySem.W.findIn K (.ref (ga K C)) "__init__") (some (some (.ref (ma K (ga K C) "__init__")))) && decide (PySem.W.typeIn K (.ref (ma K (ga K C) "__init__")) = some (.type "function"))))))))))))
theorem errCB_ok {C fld : Str} {K : PySem.W.Frag} (h : errCB C fld K = true) : ErrC K (ga K C) ∧ PySem.W.findIn K (.ref (ga K C)) fld = some none ∧ PySem.W.findIn K (.ref (ga K C)) "__init__" = some (some (.ref (ma K (ga K C) "__init__"))) ∧ PySem.W.typeIn K (.ref (ma K (ga K C) "__init__")) = some (.type "function") := by
  obtain ⟨h1, h⟩ := ba h
  obtain ⟨h2, h⟩ := ba h
  obtain ⟨h3, h⟩ := ba h
  obtain ⟨h4, h⟩ := ba h
  obtain ⟨h5, h⟩ := ba h
  obtain ⟨h6, h⟩ := ba h
  obtain ⟨h7, h⟩ := ba h
  obtain ⟨h8, h⟩ := ba h
  obtain ⟨h9, h⟩ := ba h
  obtain ⟨h10, h⟩ := ba h
  obtain ⟨h11, h12⟩ := ba h
  exact ⟨⟨⟨exCB_ok h1, eqO_ok h2, of_decide_eq_true h3, of_decide_eq_true h4, h5⟩, eqO_ok h6, of_decide_eq_true h7, of_decide_eq_true h8, eqO_ok h9⟩, eqO_ok h10, eqO_ok h11, of_decide_eq_true h12⟩
/-- the def of an error's __init__ -/
structure DefE where
  C : Str
  qual : Str
  params : Arguments
  body : List Stmt
  scope : Scope
  file : Str
def fnE (K : PySem.W.Frag) (a : Addr) : He5.FnW := match K.lookup a with
  | some ⟨_, _, .func fd, _⟩ => some (fd.name, fd.qualname, fd.params, fd.body, fd.scope, fd.globals, fd.closure.map fun q => (q.1, 0), fd.builtins)
  | _ => none
def DefE.val (d : DefE) : He5.FnW := some ("__init__", d.qual, d.params, .stmts d.body, d.scope, mainGlobals, [("__class__", 0)], builtinsNs)
def DefE.ok (K : PySem.W.Frag) (d : DefE) : Bool := match K.lookup (ma K (ga K d.C) "__init__") with
  | some ⟨_, _, .func fd, _⟩ => (match fd.closure, fd.code, fd.defaults with
    | [(_, cc)], .ref cda, .none => PySem.W.codeIn K (.ref cda) d.qual && ((match K.lookup cc with
      | some ⟨_, _, .cell (some (.ref D)), _⟩ => decide (D = ga K d.C)
      | _ => false) && (match K.lookup cda with
      | some ⟨_, _, .fields vs, _⟩ => (match (vs[2]? : Option Value) with
        | some (.str f _) => decide (f = d.file)
        | _ => false)
      | _ => false))
    | _, _, _ => false)
  | _ => false
theorem DefE.errD {K : PySem.W.Frag} {d : DefE} (e : fnE K (ma K (ga K d.C) "__init__") = d.val) (c : d.ok K = true) : ∃ cc cda fd, ErrD K "__init__" d.qual d.params d.body d.scope (ga K d.C) (ma K (ga K d.C) "__init__") cc cda d.file fd := by
  unfold fnE at e
  unfold DefE.ok at c
  cases q : K.lookup (ma K (ga K d.C) "__init__") with
  | none =>
    rw [q] at c
    cases c
  | some o =>
    obtain ⟨oc, od, dt, osl⟩ := o
    rw [q] at c e
    cases dt with
    | func fd =>
      obtain ⟨n1, n2, n3, n4, n5, n6, n7, n8, n9, n10, n11, n12, n13, n14, n15⟩ := fd
      have e2 : (some (n1, n2, n3, n4, n5, n6, n7.map fun q => (q.1, 0), n15) : He5.FnW) = some (("__init__" : Str), d.qual, d.params, FuncBody.stmts d.body, d.scope, mainGlobals, [(("__class__" : Str), 0)], builtinsNs) := e
      simp only [Option.some.injEq, Prod.mk.injEq] at e2
      obtain ⟨h1, h2, h3, h4, h5, h6, h7, h8⟩ := e2
      dsimp only at c
      split at c
      · rename_i nm cc cda
        obtain ⟨c1, c⟩ := ba c
        obtain ⟨c2, c3⟩ := ba c
        subst h1 h2 h3 h4 h5 h6 h8
        have h9 : nm = "__class__" := by
          have := List.cons.inj h7
          exact congrArg Prod.fst this.1
        subst h9
        refine ⟨cc, cda, _, ⟨oc, od, n9, n10, n11, n12, n14, osl, rfl, q⟩, c1, ?_, ?_⟩
        · split at c2
          · rename_i cl cld D csl ho
            have e := of_decide_eq_true c2
            subst e
            exact ⟨cl, cld, csl, ho⟩
          · cases c2
        · split at c3
          · rename_i ccl cdd vs ccs ho
            split at c3
            · rename_i f tf hv
              have e := of_decide_eq_true c3
              subst e
              exact ⟨ccl, cdd, vs, ccs, tf, ho, hv⟩
            · cases c3
          · cases c3
      · cases c
    | _ => cases c
abbrev AlE : Type := AlZ × (Bool × List He5.FnW)
def obsE (fa : List Fa) (fn : List DefD) (gb : List (PySem.W.Frag → Bool)) (ts : List Tab) (fx : List He5.DefA) (fe : List DefE) (K : PySem.W.Frag) : AlE := (obsZ fa fn gb ts fx K, fe.all fun d => d.ok K, fe.map fun d => fnE K (ma K (ga K d.C) "__init__"))
def valE (fn : List DefD) (ts : List Tab) (fx : List He5.DefA) (fe : List DefE) (w : World) : AlE := (valZ fn ts fx w, true, fe.map DefE.val)
def SaysE (fa : List Fa) (fn : List DefD) (gb : List (PySem.W.Frag → Bool)) (ts : List Tab) (fx : List He5.DefA) (fe : List DefE) (w : World) (K : PySem.W.Frag) : Prop := obsE fa fn gb ts fx fe K = valE fn ts fx fe w
def obsEG (n : Nat) (fa : List Fa) (fn : List DefD) (gb : List (PySem.W.Frag → Bool)) (ts : List Tab) (fx : List He5.DefA) (fe : List DefE) (g : Addr → Option Obj) : AlE := obsE fa fn gb ts fx fe (frG g (He5.asA g n))
def hookE (n : Nat) (fa : List Fa) (fn : List DefD) (gb : List (PySem.W.Frag → Bool)) (ts : List Tab) (fx : List He5.DefA) (fe : List DefE) : PySem.W.Hook where
  α := AlE
  obs := fun s => obsEG n fa fn gb ts fx fe s.heap.get?
  val := fun w => valE fn ts fx fe w
  says := fun w h => ∃ K : PySem.W.Frag, K.In h ∧ SaysE fa fn gb ts fx fe w K
  of := fun _ _ e => ⟨_, frG_in, e⟩
  keeps := fun _ _ _ ⟨K, hK, c⟩ k => ⟨K, hK.keeps k, c⟩
theorem obsEG_eq {n : Nat} {fa : List Fa} {fn : List DefD} {gb : List (PySem.W.Frag → Bool)} {ts : List Tab} {fx : List He5.DefA} {fe : List DefE} {g : Addr → Option Obj} {s : Shared} (h : ∀ a, g a = s.heap.get? a) : obsEG n fa fn gb ts fx fe g = (hookE n fa fn gb ts fx fe).obs s := by
  rw [funext h] <;> rfl
section
variable {fa : List Fa} {fn : List DefD} {gb : List (PySem.W.Frag → Bool)} {ts : List Tab} {fx : List He5.DefA} {fe : List DefE} {w : World} {K : PySem.W.Frag}
theorem SaysE.z (c : SaysE fa fn gb ts fx fe w K) : SaysZ fa fn gb ts fx w K := congrArg (fun z : AlE => z.1) c
theorem SaysE.err_ (c : SaysE fa fn gb ts fx fe w K) (i : Nat) {d : DefE} (h : fe[i]? = some d := by rfl) : ∃ cc cda fd, ErrD K "__init__" d.qual d.params d.body d.scope (ga K d.C) (ma K (ga K d.C) "__init__") cc cda d.file fd := by
  have c2 : (fe.all fun d => d.ok K) = true := congrArg (fun z : AlE => z.2.1) c
  have e : fe.map (fun d => fnE K (ma K (ga K d.C) "__init__")) = fe.map DefE.val := congrArg (fun z : AlE => z.2.2) c
  have e2 : (fe.map fun d => fnE K (ma K (ga K d.C) "__init__"))[i]? = (fe.map DefE.val)[i]? := by rw [e]
  rw [List.getElem?_map, List.getElem?_map, h] at e2
  exact DefE.errD (Option.some.inj e2) (List.all_eq_true.mp c2 d (List.mem_of_getElem? h))
end
theorem fnE_of {P : Program} {w : World} {K : PySem.W.Frag} {mg : Str → Option Value} {base : Heap} {k : Nat} {x qual : Str} {params : Arguments} {body : List Stmt} {scope : Scope} {C fld : Str} {cc cda : Addr} {file : Str} {fd : FuncData} {ps : List Str}
    (D : ErrD K x qual params body scope (ga K C) (ma K (ga K C) "__init__") cc cda file fd) (F : FnOk P w K mg base (L2.CX P w) k (ma K (ga K C) "__init__") fd ps (spErr (ga K C) fld)) (c : errCB C fld K = true) (g : mg C = some (.ref (ga K C)))
    (hb : ∀ (kV doc pm : Value) (an : Option Addr) (ct : Value) (us : List Value), us.length = ps.length → bindArgs (PySem.W.fnX x qual params body scope [("__class__", cc)] .none kV doc pm an (.ref cda) ct) ⟨us, []⟩ = pure (ps.zip us)) : FnE P w K mg base k C fld := by
  obtain ⟨c1, c2, c3, c4⟩ := errCB_ok c
  obtain ⟨oc, od, kV, doc, pm, an, ct, osl, rfl, lk⟩ := D.ex
  exact ⟨⟨_, _, ps, F, c3, c4, Binds.all (hb kV doc pm an ct)⟩, c1.T, g⟩
end DL

namespace DL
open PySem L2 He
/-! ### tuple(x), divmod, str.upper -/
def gTuple : DCb := fun xs M Q => match xs with
  | [.lst ds] => Q (.tup ds) M
  | [.tup ds] => Q (.tup ds) M
  | [.ref a] => (match M a with
    | some (.lst ds) => Q (.tup ds) M
    | _ => False)
  | _ => False
def gDivmod : DCb := fun xs M Q => match xs with
  | [.int i, .int j] => CDiv i j ∧ Q (.tup [.int (i / j), .int (i % j)]) M
  | _ => False
def gUpper : DMt := fun x xs M Q => match x, xs with
  | .str t, [] => t.length ≤ 5592405 ∧ Q (.str (T (PySem.Txt.upper (sx t)))) M
  | _, _ => False
/-- t.index(y), t a tuple of texts -/
def gIndexT : DMt := fun x xs M Q => match x, xs with
  | .tup ds, [.str y] => ∃ (ts : List Tx) (j : Nat), ds = ts.map D.str ∧ ts[j]? = some y ∧ (∀ m, m < j → ts[m]? ≠ some y) ∧ Q (.int (j : Nat)) M
  | _, _ => False
section
variable {K : PySem.W.Frag}
theorem md_indexT : MtD K gIndexT (fun x xs H Q => ∃ p, ∃ ys : List Str, ∃ z j, x = .ref p ∧ xs = [.str z] ∧ SqT K H p (ys.map V.str) ∧ ys[j]? = some z ∧ (∀ m, m < j → ys[m]? ≠ some z) ∧ Q (.int (j : Nat)) H) := fun M H x v xs vs Q0 Q c rx r h q => by
  match x, xs, h with
  | .tup ds, [.str y], h =>
    obtain ⟨ts, j, rfl, h1, h2, h3⟩ := h
    obtain ⟨v2, u, rfl, r1, r2⟩ := r.uncons
    cases r2.unnil; cases r1
    obtain ⟨a, ws, rfl, ha, ra⟩ := rep_of_tup rx
    have e := ra.strs
    subst e
    refine ⟨a, ts.map sx, sx y, j, rfl, rfl, sqT_of ha, by rw [List.getElem?_map, h1]; rfl, fun m hm z => ?_, q _ M _ H h3 rfl c (Stp.refl M H)⟩
    rw [List.getElem?_map] at z
    cases e : ts[m]? with
    | none => rw [e] at z; cases z
    | some t =>
      rw [e] at z
      exact h2 m hm (by rw [e, sx_inj (Option.some.inj z)])
theorem cb_tuple : CbD K gTuple (fun xs H Q => ∃ p ys, xs = [.ref p] ∧ ((SqL K H p ys ∧ ∀ l, H l = none → Q (.ref l) (upd H l (.tup ys))) ∨ (SqT K H p ys ∧ Q (.ref p) H))) := fun M H xs vs Q0 Q c r h q => by
  have new : ∀ {ds : List D} {ws : List V}, Reps K M H ds ws → Q0 (.tup ds) M → ∀ l, H l = none → Q (.ref l) (upd H l (.tup ws)) := fun {ds ws} ra h l hl => by
    have st : Stp M H M (upd H l (.tup ws)) := Stp.new hl
    exact q _ M _ _ h (rep_tup upd_same (c.free hl) (ra.stp st)) (c.new hl) st
  match xs, h with
  | [.lst ds], h =>
    obtain ⟨v, u, rfl, r1, r2⟩ := r.uncons
    cases r2.unnil
    obtain ⟨a, ws, rfl, ha, ma, ra⟩ := rep_of_lst r1
    exact ⟨a, ws, rfl, .inl ⟨.inl (.inl ha), new ra h⟩⟩
  | [.tup ds], h =>
    obtain ⟨v, u, rfl, r1, r2⟩ := r.uncons
    cases r2.unnil
    obtain ⟨a, ws, rfl, ha, ra⟩ := rep_of_tup r1
    exact ⟨a, ws, rfl, .inr ⟨sqT_of ha, q _ M _ H h r1 c (Stp.refl M H)⟩⟩
  | [.ref a], h =>
    obtain ⟨v, u, rfl, r1, r2⟩ := r.uncons
    cases r2.unnil; cases r1
    have h2 : (match M a with
      | some (.lst ds) => Q0 (.tup ds) M
      | _ => False) := h
    cases e : M a with
    | none => rw [e] at h2; exact h2.elim
    | some mo =>
      rw [e] at h2
      cases mo with
      | lst ds =>
        obtain ⟨ws, ha, ra⟩ := mu_lst c e
        exact ⟨a, ws, rfl, .inl ⟨.inl (.inl ha), new ra h2⟩⟩
      | _ => exact h2.elim
theorem cb_divmod : CbD K gDivmod (fun xs H Q => ∃ i j, xs = [.int i, .int j] ∧ CDiv i j ∧ ∀ p, H p = none → Q (.ref p) (upd H p (.tup [.int (i / j), .int (i % j)]))) := fun M H xs vs Q0 Q c r h q => by
  match xs, h with
  | [.int i, .int j], h =>
    obtain ⟨v, u, rfl, r1, r2⟩ := r.uncons
    obtain ⟨v2, u2, rfl, r3, r4⟩ := r2.uncons
    cases r4.unnil; cases r1; cases r3
    refine ⟨i, j, rfl, h.1, fun p hp => ?_⟩
    have st : Stp M H M (upd H p (.tup [.int (i / j), .int (i % j)])) := Stp.new hp
    exact q _ M _ _ h.2 (rep_tup upd_same (c.free hp) (.cons rfl (.cons rfl .nil))) (c.new hp) st
theorem md_upper : MtD K gUpper (fun x xs H Q => ∃ a, x = .str a ∧ xs = [] ∧ a.length ≤ 5592405 ∧ Q (.str (PySem.Txt.upper a)) H) := fun M H x v xs vs Q0 Q c rx r h q => by
  match x, xs, h with
  | .str t, [], h =>
    cases rx
    cases r.unnil
    refine ⟨sx t, rfl, rfl, by rw [sx_len]; exact h.1, ?_⟩
    exact q _ M _ H h.2 (show V.str _ = V.str (sx (T _)) by rw [sx_T]) c (Stp.refl M H)
end
theorem upper_len (t : Tx) : (T (PySem.Txt.upper (sx t))).length ≤ 3 * t.length := by
  have := PyProof.Rows.len_upper (sx t)
  rw [sx_len] at this
  have e : (T (PySem.Txt.upper (sx t))).length = (PySem.Txt.upper (sx t)).length := by rw [← sx_len, sx_T]
  rw [e]
  exact this
/-- T.index(e), T a tuple of texts of the module -/
def dIdxC (ts : List Tx) (te : DTE) : DTE := fun τ M Q E => te τ M (fun y M1 => match y with
  | .str x => ∃ j : Nat, ts[j]? = some x ∧ (∀ m, m < j → ts[m]? ≠ some x) ∧ Q (.int (j : Nat)) M1
  | _ => False) E
def noDictB (x : Str) (K : PySem.W.Frag) : Bool := match K.lookup (ga K x) with
  | some o => o.dict.isNone
  | _ => false
theorem noDictB_ok {x : Str} {K : PySem.W.Frag} (h : noDictB x K = true) : ∃ o, K.lookup (ga K x) = some o ∧ o.dict = none := by
  unfold noDictB at h
  split at h
  · rename_i o ho
    exact ⟨o, ho, Option.isNone_iff_eq_none.mp h⟩
  · cases h
theorem de_idxC {X : Cx} {W : WX} {x : Str} {e : Expr} {te : DTE} {p cpos apos : Pos} {zs : List Str} (hm : X.mg x = some (.ref (ga X.K x))) (h : ∃ f, X.mg x = some (.ref f) ∧ WrT X.K f (zs.map V.str)) (hd : ∃ o, X.K.lookup (ga X.K x) = some o ∧ o.dict = none) (he : DE X W e te)
    (hg : Gl X x := by rfl) (hdb : (x == ("__debug__" : Str)) = false := by decide)
    (hbase : attributeBase (.Name x p) "index" X.env (eval (.Name x p) X.env) = eval (.Name x p) X.env := by rfl)
    (hfew : ((backTo cpos (starEach [e] X.env)).all (fun x => !x.1) && (backToKw cpos (keywordEach [] X.env)).all (fun x => x.1.isSome)
      && decide (([e] : List Expr).length + ([] : List Keyword).length + (if ([] : List Keyword).isEmpty then 0 else 1) < 30)) = true := by rfl)
    (hline : (apos.endLine == cpos.line) = true := by rfl) (hs : starEach [e] X.env = (false, eval e X.env) :: starEach [] X.env := by rfl) (hplain : (backTo cpos (starEach [] X.env)).any (·.1) = false := by rfl) :
    DE X W (.Call (.Attribute (.Name x p) "index" apos) [e] [] cpos) (dIdxC (zs.map T) te) := by
  obtain ⟨f, h1, h2⟩ := h
  have ef : f = ga X.K x := by rw [hm] at h1; cases h1; rfl
  subst ef
  obtain ⟨o, ho, hn⟩ := hd
  refine PE.of (pe_bm PySem.F.plainAttrs_tuple PySem.F.slot_tuple_index PySem.F.type_tuple_index mt_tup_index (pe_glob (v := .ref (ga X.K x)) hg hm rfl hdb) (da_cons he da_nil (hs := hs)) hbase hfew hline hs hplain) fun σ H Q ⟨τ, M, Q0, E0, S, h⟩ => ?_
  refine ⟨?_, S.sub (R1 := RA X.K) (t := daCons te daNil) (G := fun ds M1 => match ds with
    | [y] => (match y with
      | .str x => ∃ j : Nat, (zs.map T)[j]? = some x ∧ (∀ m, m < j → (zs.map T)[m]? ≠ some x) ∧ Q0 (.int (j : Nat)) M1
      | _ => False)
    | _ => False) ?_ fun ds M1 vs H1 h1 r1 S1 s1 => ?_⟩
  · obtain ⟨o2, its, n, l2, c2, _⟩ := h2
    rw [ho] at l2
    cases l2
    exact .inr (.inl ⟨rfl, o, ho, c2, hn⟩)
  · exact h
  · cases ds with
    | nil => exact h1.elim
    | cons y r =>
      cases r with
      | cons y2 r => exact h1.elim
      | nil =>
        cases y with
        | str y =>
          obtain ⟨j, h3, h4, h5⟩ := h1
          obtain ⟨v, us, rfl, rv, rn⟩ := r1.uncons
          cases rn.unnil
          cases rv
          have tt : ∀ m, (zs.map T)[m]? = zs[m]?.map T := fun m => List.getElem?_map
          refine ⟨ga X.K x, zs, sx y, j, rfl, rfl, sqT_of (M := M1) (.inr h2), ?_, fun m hm z => ?_, S1.end_ h5 rfl⟩
          · rw [tt] at h3
            cases e : zs[j]? with
            | none => rw [e] at h3; cases h3
            | some z =>
              rw [e] at h3
              have : T z = y := Option.some.inj h3
              rw [← this, sx_T]
          · refine h4 m hm ?_
            rw [tt, z]
            show some (T (sx y)) = _
            rw [T_sx]
        | _ => exact h1.elim
section
variable {M : Mu} {Q : DK} {ds : List D}
theorem u_idxC {ts : List Tx} {te : DTE} {τ : DSt} {E : DX} : dIdxC ts te τ M Q E = te τ M (fun y M1 => onStr (K := fun x => ∃ j : Nat, ts[j]? = some x ∧ (∀ m, m < j → ts[m]? ≠ some x) ∧ Q (.int (j : Nat)) M1) ⟨⟩ y) E := by
  unfold dIdxC
  congr 1
theorem tuple_l : cbK (K := Q) ⟨⟩ gTuple [.lst ds] M = Q (.tup ds) M := pq Iff.rfl
theorem tuple_t : cbK (K := Q) ⟨⟩ gTuple [.tup ds] M = Q (.tup ds) M := pq Iff.rfl
theorem divmod_i {i j : Int} : cbK (K := Q) ⟨⟩ gDivmod [.int i, .int j] M = (CDiv i j ∧ Q (.tup [.int (i / j), .int (i % j)]) M) := pq Iff.rfl
theorem indexT_t {y : Tx} : mtK (K := Q) ⟨⟩ gIndexT (.tup ds) [.str y] M = (∃ (ts : List Tx) (j : Nat), ds = ts.map D.str ∧ ts[j]? = some y ∧ (∀ m, m < j → ts[m]? ≠ some y) ∧ Q (.int (j : Nat)) M) := pq Iff.rfl
theorem upper_s {t : Tx} : mtK (K := Q) ⟨⟩ gUpper (.str t) [] M = (t.length ≤ 5592405 ∧ Q (.str (T (PySem.Txt.upper (sx t)))) M) := pq Iff.rfl
end
end DL

namespace DL
open PySem L2
/-! ### is True, is not True -/
def gIsB (nb : Bool → Bool) : DOp := fun x y M Q => match x, y with
  | .bl a, .bl b => Q (.bl (nb (a == b))) M
  | _, _ => False
theorem od_isB {K : PySem.W.Frag} : OpD K (gIsB id) (fun x y H Q => ∃ a b, x = .bl a ∧ y = .bl b ∧ Q (.bl (decide (a = b))) H) := fun M H x y v u Q0 Q c rx ry h q => by
  cases x with
  | bl a => cases y with
    | bl b =>
      cases rx; cases ry
      refine ⟨a, b, rfl, rfl, ?_⟩
      rw [show decide (a = b) = id (a == b) by cases a <;> cases b <;> rfl]
      exact q _ M _ H h rfl c (Stp.refl M H)
    | _ => exact h.elim
  | _ => exact h.elim
theorem od_notB {K : PySem.W.Frag} : OpD K (gIsB not) (fun x y H Q => ∃ a b, x = .bl a ∧ y = .bl b ∧ Q (.bl (!decide (a = b))) H) := fun M H x y v u Q0 Q c rx ry h q => by
  cases x with
  | bl a => cases y with
    | bl b =>
      cases rx; cases ry
      refine ⟨a, b, rfl, rfl, ?_⟩
      rw [show (!decide (a = b)) = not (a == b) by cases a <;> cases b <;> rfl]
      exact q _ M _ H h rfl c (Stp.refl M H)
    | _ => exact h.elim
  | _ => exact h.elim
theorem isB_t {nb : Bool → Bool} {a : Bool} {M : Mu} {Q : DK} : opK (K := Q) ⟨⟩ (gIsB nb) (.bl a) (.bl true) M = Q (.bl (nb a)) M := pq (by show Q (.bl (nb (a == true))) M ↔ _; rw [show (a == true) = a by cases a <;> rfl])
theorem isB_f {nb : Bool → Bool} {a : Bool} {M : Mu} {Q : DK} : opK (K := Q) ⟨⟩ (gIsB nb) (.bl a) (.bl false) M = Q (.bl (nb !a)) M := pq (by show Q (.bl (nb (a == false))) M ↔ _; rw [show (a == false) = !a by cases a <;> rfl])
end DL

namespace DL
open PySem PySem.W L2 He
/-- what the head's run tells, told in three parts: the kernel needs less room for each -/
theorem run_of {r : PySem.W.OpenRow} {q : Program} {H : PySem.W.Hook} {ob : PySem.W.SharedT → H.α} {M : Nat} {loose : List PySem.Str} {w : World}
    (h1 : ∀ os : OsState, (HandSHeadRun.endF (HandSHeadRun.stepQ (HandSHeadRun.denQ HandSHeadRun.tabQ) r.prog w) M r.prog w os).map (fun s => HandSHeadRun.looksF r.prog (PySem.W.boot_heap w.params) s.abs) = some true)
    (h2 : ∀ os : OsState, (HandSHeadRun.endF (HandSHeadRun.stepQ (HandSHeadRun.denQ HandSHeadRun.tabQ) r.prog w) M r.prog w os).map (fun s => HandSHeadRun.seenQ q loose (importedModules r.prog.main.body) (fun s => PySem.W.xlAt q [] s && PySem.W.recOk r.records s) s.abs) = some (PySem.W.openGood q loose))
    (h3 : ∀ os : OsState, (HandSHeadRun.endF (HandSHeadRun.stepQ (HandSHeadRun.denQ HandSHeadRun.tabQ) r.prog w) M r.prog w os).map ob = some (H.val w)) : HandSHeadRun.RunEq r q H ob M loose w := by
  intro os
  have h1 := h1 os
  have h2 := h2 os
  have h3 := h3 os
  generalize HandSHeadRun.endF (HandSHeadRun.stepQ (HandSHeadRun.denQ HandSHeadRun.tabQ) r.prog w) M r.prog w os = e at h1 h2 h3 ⊢
  cases e with
  | none => cases h1
  | some s =>
    simp only [Option.map_some, Option.some.injEq] at h1 h2 h3 ⊢
    rw [h1, h2, h3]
/-! what the names reach, each address looked at once -/
def memN (a : Nat) : List Nat → Bool
  | [] => false
  | b :: r => match Nat.beq a b with
    | true => true
    | false => memN a r
def addNew : List Addr → List Addr → List Addr → List Addr × List Addr
  | [], seen, nw => (seen, nw)
  | a :: r, seen, nw => match memN a seen with
    | true => addNew r seen nw
    | false => addNew r (a :: seen) (a :: nw)
def refsG (g : Addr → Option Obj) : List Addr → List Addr
  | [] => []
  | a :: r => match g a with
    | some o => He.refsD o ++ refsG g r
    | none => refsG g r
def asF (g : Addr → Option Obj) : Nat → List Addr → List Addr → List Addr
  | 0, seen, _ => seen
  | n + 1, seen, fr => match addNew (refsG g fr) seen [] with
    | (seen, nw) => asF g n seen nw
def asQ (g : Addr → Option Obj) (n : Nat) : List Addr := mainGlobals :: cStatics :: asF g n [mainGlobals] [mainGlobals]
def obsEQ (n : Nat) (fa : List He.Fa) (fn : List He.DefD) (gb : List (PySem.W.Frag → Bool)) (ts : List He.Tab) (fx : List He5.DefA) (fe : List DefE) (g : Addr → Option Obj) : AlE := obsE fa fn gb ts fx fe (He.frG g (asQ g n))
def hookQ (n : Nat) (fa : List He.Fa) (fn : List He.DefD) (gb : List (PySem.W.Frag → Bool)) (ts : List He.Tab) (fx : List He5.DefA) (fe : List DefE) : PySem.W.Hook where
  α := AlE
  obs := fun s => obsEQ n fa fn gb ts fx fe s.heap.get?
  val := fun w => valE fn ts fx fe w
  says := fun w h => ∃ K : PySem.W.Frag, K.In h ∧ SaysE fa fn gb ts fx fe w K
  of := fun _ _ e => ⟨_, He.frG_in, e⟩
  keeps := fun _ _ _ ⟨K, hK, c⟩ k => ⟨K, hK.keeps k, c⟩
theorem obsEQ_eq {n : Nat} {fa : List He.Fa} {fn : List He.DefD} {gb : List (PySem.W.Frag → Bool)} {ts : List He.Tab} {fx : List He5.DefA} {fe : List DefE} {g : Addr → Option Obj} {s : Shared} (h : ∀ a, g a = s.heap.get? a) : obsEQ n fa fn gb ts fx fe g = (hookQ n fa fn gb ts fx fe).obs s := by
  rw [funext h] <;> rfl
end DL

namespace DL
open PySem L2
/-! ### texts in order; sorted texts; d.get(k, x); rows in a list that may change -/
def ltT (a b : Tx) : Bool := decide (a < b)
def gLtS : DOp := fun x y M Q => match x, y with
  | .str a, .str b => Q (.bl (ltT a b)) M
  | _, _ => False
def gGtS : DOp := fun x y M Q => match x, y with
  | .str a, .str b => Q (.bl (ltT b a)) M
  | _, _ => False
theorem od_ltS {K : PySem.W.Frag} : OpD K gLtS (fun x y H Q => ∃ i j, x = .str i ∧ y = .str j ∧ Q (.bl (decide (i.cps.toList < j.cps.toList))) H) := fun M H x y v u Q0 Q c rx ry h q => by
  cases x with
  | str a => cases y with
    | str b =>
      cases rx; cases ry
      exact ⟨sx a, sx b, rfl, rfl, q _ M _ H h rfl c (Stp.refl M H)⟩
    | _ => exact h.elim
  | _ => exact h.elim
theorem od_gtS {K : PySem.W.Frag} : OpD K gGtS (fun x y H Q => ∃ i j, x = .str i ∧ y = .str j ∧ Q (.bl (decide (j.cps.toList < i.cps.toList))) H) := fun M H x y v u Q0 Q c rx ry h q => by
  cases x with
  | str a => cases y with
    | str b =>
      cases rx; cases ry
      exact ⟨sx a, sx b, rfl, rfl, q _ M _ H h rfl c (Stp.refl M H)⟩
    | _ => exact h.elim
  | _ => exact h.elim
theorem ltS_s {a b : Tx} {M : Mu} {Q : DK} : opK (K := Q) ⟨⟩ gLtS (.str a) (.str b) M = Q (.bl (ltT a b)) M := pq Iff.rfl
theorem gtS_s {a b : Tx} {M : Mu} {Q : DK} : opK (K := Q) ⟨⟩ gGtS (.str a) (.str b) M = Q (.bl (ltT b a)) M := pq Iff.rfl
/-- sorted(texts), any number of them -/
def rSortedSA (K : PySem.W.Frag) : List V → Hp → VK → Prop := fun vs H Q => ∃ (a : Addr) (xs : List Str), vs = [V.ref a] ∧ SqL K H a (xs.map V.str) ∧
  ∀ (ys : List Str) (p : Addr), ys.Perm xs → PyProof.Rows.sortedS ys = true → H p = none → Q (.ref p) (upd H p (.lst (ys.map V.str)))
theorem cr_sortedSA {X : Cx} : CallR X (.builtin "sorted") (rSortedSA X.K) := by
  intro pins s σ H vs us Q I r h
  obtain ⟨a, xs, rfl, hs, q⟩ := h
  obtain ⟨its, rv, hl, hz⟩ := I.list hs
  rw [Vals.ref1 r]
  refine PyProof.Rows.sortedKAny PyProof.Rows.strKind_oneLt hl.isList (PyProof.Rows.StrsAre.keysOf rv.strs) (fun v₁ v₂ rest e => PyProof.Rows.keyKind_strs (by rw [← e]; exact rv.strs)) (by rw [← rv.length]; exact hz) fun st' hp hs => ?_
  obtain ⟨ys, h1, h2, h3⟩ := PyProof.Rows.sorted_out_str rv.strs hp hs
  obtain ⟨ep, he'⟩ := PyProof.Rows.sortedAll_at s.heap its ((PyProof.Rows.arrOf st').map (·.2))
  have hlen : (ys.map V.str).length ≤ sizeLine := by rw [List.length_map, h2.length_eq]; rw [List.length_map] at hz; exact hz
  exact ⟨.ref _, upd H (s.heap.objs.size + 1) (.lst (ys.map V.str)), I.laid (t' := s.toks) (fun _ _ => PyProof.Rows.sortedAll_old) (Nat.le_succ _) ⟨hlen, _, ep, vals_of_strs h1, he'⟩, rfl, q ys _ h2 h3 (I.hok.fresh (Nat.le_succ _))⟩
/-- sorted(texts), never changed afterwards -/
def gSorted : DCb := fun xs M Q => match xs with
  | [.lst ds] => ∃ ts : List Tx, ds = ts.map D.str ∧ ∀ us : List Tx, us.Perm ts → PyProof.Rows.sortedS (us.map sx) = true → Q (.lst (us.map D.str)) M
  | _ => False
theorem cb_sorted {K : PySem.W.Frag} : CbD K gSorted (rSortedSA K) := fun M H xs vs Q0 Q c r h q => by
  match xs, h with
  | [.lst ds], h =>
    obtain ⟨v, u, rfl, r1, r2⟩ := r.uncons
    cases r2.unnil
    obtain ⟨a, vs, rfl, ha, ma, ra⟩ := rep_of_lst r1
    obtain ⟨ts, rfl, k⟩ := (show ∃ ts : List Tx, ds = ts.map D.str ∧ ∀ us : List Tx, us.Perm ts → PyProof.Rows.sortedS (us.map sx) = true → Q0 (.lst (us.map D.str)) M from h)
    obtain rfl := ra.strs
    refine ⟨a, ts.map sx, rfl, .inl (.inl ha), fun ys p hp hs hn => ?_⟩
    have ey : ys = (ys.map T).map sx := by
      rw [List.map_map]
      conv => lhs; rw [← List.map_id ys]
      exact List.map_congr_left fun y _ => (sx_T y).symm
    have hp2 : (ys.map T).Perm ts := by
      have := hp.map T
      rw [List.map_map, show (T ∘ sx) = id from funext T_sx, List.map_id] at this
      exact this
    have k2 := k (ys.map T) hp2 (by rw [← ey]; exact hs)
    have rz : Reps K M H ((ys.map T).map D.str) (ys.map V.str) := by
      have := Reps.of_strs (K := K) (M := M) (H := H) (ys.map T)
      rw [← ey] at this
      exact this
    exact new_lst c rz k2 q p hn
theorem sorted_l {ds : List D} {M : Mu} {Q : DK} : cbK (K := Q) ⟨⟩ gSorted [.lst ds] M = (∃ ts : List Tx, ds = ts.map D.str ∧ ∀ us : List Tx, us.Perm ts → PyProof.Rows.sortedS (us.map sx) = true → Q (.lst (us.map D.str)) M) := pq Iff.rfl
/-! d.get(k, x) -/
def keyK {K : DKey → Prop} (_ : Lk K) (d : D) : Prop := match d with
  | .str x => K (.inr x)
  | .int i => K (.inl i)
  | _ => False
theorem keyK_s {K : DKey → Prop} {x : Tx} : keyK (K := K) ⟨⟩ (.str x) = K (.inr x) := pq Iff.rfl
theorem keyK_i {K : DKey → Prop} {x : Int} : keyK (K := K) ⟨⟩ (.int x) = K (.inl x) := pq Iff.rfl
def dDGet (td ty tx : DTE) : DTE := fun τ M Q E => td τ M (fun d M1 => onRef (K := fun a => onDR (K := fun _ => ty τ M1 (fun y M2 => tx τ M2 (fun z M3 => keyK (K := fun k => onDR (K := fun kvs => Q ((lookK kvs k).getD z) M3) ⟨⟩ (M3 a)) ⟨⟩ y) E) E) ⟨⟩ (M1 a)) ⟨⟩ d) E
theorem u_dget {td ty tx : DTE} {τ : DSt} {M : Mu} {Q : DK} {E : DX} : dDGet td ty tx τ M Q E = td τ M (fun d M1 => onRef (K := fun a => onDR (K := fun _ => ty τ M1 (fun y M2 => tx τ M2 (fun z M3 => keyK (K := fun k => onDR (K := fun kvs => Q ((lookK kvs k).getD z) M3) ⟨⟩ (M3 a)) ⟨⟩ y) E) E) ⟨⟩ (M1 a)) ⟨⟩ d) E := pq Iff.rfl
theorem onDR_dOf {K : List (DKey × D) → Prop} {o : Option MO} (h : onDR (K := K) ⟨⟩ o) : ∃ mo kvs, o = some mo ∧ dOf mo = some kvs ∧ K kvs := by
  cases o with
  | none => exact h.elim
  | some mo => cases mo with
    | dK kvs => exact ⟨_, kvs, rfl, rfl, h⟩
    | fK kvs u => exact ⟨_, kvs, rfl, rfl, h⟩
    | _ => exact h.elim
section
variable {X : Cx} {W : WX} {o e f : Expr} {td ty tx : DTE} {apos cpos : Pos}
theorem de_dget (G : Gd X W) (ho : DE X W o td) (he : DE X W e ty) (hf : DE X W f tx) (m : M2 X o "get" apos e f cpos) : DE X W (.Call (.Attribute o "get" apos) [e, f] [] cpos) (dDGet td ty tx) :=
  PE.of (pe_dget2 G.hu1 ho he hf m) fun σ H Q ⟨τ, M, Q0, E0, S, h⟩ => S.sub h fun d M1 v H1 h1 r1 S1 s1 => by
    cases d with
    | ref a =>
      cases r1
      have h1 : onDR (K := fun _ => ty τ M1 (fun y M2 => tx τ M2 (fun z M3 => keyK (K := fun k => onDR (K := fun kvs => Q0 ((lookK kvs k).getD z) M3) ⟨⟩ (M3 a)) ⟨⟩ y) E0) E0) ⟨⟩ (M1 a) := h1
      obtain ⟨mo, kvs, em, ed, h2⟩ := onDR_dOf h1
      obtain ⟨ks, hr, _, _⟩ := mu_dR S1.co em ed
      refine ⟨a, rfl, .inl ⟨ks, hr⟩, S1.sub h2 fun y M2 w H2 h3 r2 S2 s2 => S2.sub h3 fun z M3 w3 H3 h4 r3 S3 s3 => ?_⟩
      have ry := r2.stp s3
      have go : ∀ k : DKey, w = kV (kO k) → onDR (K := fun kvs => Q0 ((lookK kvs k).getD z) M3) ⟨⟩ (M3 a) → ∃ o, DGet H3 a w o ∧ Q (o.getD w3) H3 := fun k ek h5 => by
        obtain ⟨mo3, kvs3, em3, ed3, h6⟩ := onDR_dOf h5
        obtain ⟨ks3, hr3, ek3, ra3⟩ := mu_dR S3.co em3 ed3
        refine ⟨valV ks3 (kO k), .inl ⟨ks3, kO k, hr3, ek, rfl⟩, ?_⟩
        have lr := look_rep (k := k) ek3 ra3
        cases q : lookK kvs3 k with
        | none =>
          rw [q] at h6 lr
          rw [lr]
          exact S3.end_ h6 r3
        | some d =>
          rw [q] at h6 lr
          obtain ⟨u, e1, e2⟩ := lr
          rw [e1]
          exact S3.end_ h6 e2
      cases y with
      | str x => exact go (.inr x) ry h4
      | int i => exact go (.inl i) ry h4
      | _ => exact h4.elim
    | _ => exact h1.elim
end
/-! rows that stand in a list that may change -/
def onRowsR (C f : Str) (M : Mu) (d : D) (K : List D → Prop) : Prop := ∃ a fs p ds, d = .ref a ∧ M a = some (.ins C fs) ∧ fs.lookup f = some (.ref p) ∧ M p = some (.lst ds) ∧ K ds
def gLenOR (C f : Str) : DCb := fun xs M Q => match xs with
  | [d] => onRowsR C f M d fun ds => Q (.int ds.length) M
  | _ => False
def gListOR (C f : Str) : DCb := fun xs M Q => match xs with
  | [d] => onRowsR C f M d fun ds => Q (.lst ds) M
  | _ => False
section
variable {K : PySem.W.Frag} {C f : Str}
theorem onRowsR_at {M : Mu} {H : Hp} {x : D} {v : V} {L : List D → Prop} (h : onRowsR C f M x L) (r : Rep K M H x v) (c : Cor K M H) :
    ∃ a dx gs l ds vs, v = .ref a ∧ H a = some (.ins (He.ga K C) dx gs) ∧ gs.lookup f = some (.ref l) ∧ H l = some (.lst vs) ∧ Reps K M H ds vs ∧ L ds := by
  obtain ⟨a, fs, p, ds, rfl, e, q, e2, h4⟩ := h
  cases r
  obtain ⟨dx, gs, h1, h3, h5⟩ := mu_ins c e
  obtain ⟨v, h6, h7⟩ := fld_get h3 h5 q
  cases h7
  obtain ⟨vs, h8, h10⟩ := mu_lst c e2
  exact ⟨a, dx, gs, p, ds, vs, rfl, h1, h6, h8, h10, h4⟩
theorem cb_lenOR : CbD K (gLenOR C f) (rLenO K C f) := fun M H xs vs Q0 Q c r h q => by
  match xs, h with
  | [d], h =>
    obtain ⟨v, u, rfl, r1, r2⟩ := r.uncons
    cases r2.unnil
    obtain ⟨a, dx, gs, l, ds, vs, rfl, h1, h2, h3, h5, h6⟩ := onRowsR_at h r1 c
    exact ⟨a, dx, gs, l, vs, rfl, h1, h2, h3, by rw [h5.length]; exact q _ M _ H h6 rfl c (Stp.refl M H)⟩
theorem cb_listOR : CbD K (gListOR C f) (rListO K C f) := fun M H xs vs Q0 Q c r h q => by
  match xs, h with
  | [d], h =>
    obtain ⟨v, u, rfl, r1, r2⟩ := r.uncons
    cases r2.unnil
    obtain ⟨a, dx, gs, l, ds, vs, rfl, h1, h2, h3, h5, h6⟩ := onRowsR_at h r1 c
    exact ⟨a, dx, gs, l, vs, rfl, h1, h2, h3, new_lst c h5 h6 q⟩
end
theorem lenOR_r {C f : Str} {M : Mu} {Q : DK} {d : D} : cbK (K := Q) ⟨⟩ (gLenOR C f) [d] M = onRowsR C f M d (fun ds => Q (.int ds.length) M) := pq Iff.rfl
theorem listOR_r {C f : Str} {M : Mu} {Q : DK} {d : D} : cbK (K := Q) ⟨⟩ (gListOR C f) [d] M = onRowsR C f M d (fun ds => Q (.lst ds) M) := pq Iff.rfl
end DL

namespace DL
open PySem L2 He
/-! ### a walk over an own object whose `__iter__` gives iter(self.f) -/
def iOwnR (K : PySem.W.Frag) (C f : Str) (te : TE) : TI := fun σ H R => te σ H fun x H1 => ∃ a dx gs l xs, x = .ref a ∧ H1 a = some (.ins (ga K C) dx gs) ∧ gs.lookup f = some (.ref l) ∧ H1 l = some (.lst xs) ∧ R (Itl K l) H1
section
variable {X : Cx} {W : WX} {C f : Str} {e tg : Expr}
theorem pi_ownR {te : TE} (he : PE X e te) (T : IterC X.prog X.w X.K X.mg X.base C f) (hr : Room 1 X.A) : PI X tg e (iOwnR X.K C f te) := by
  refine ⟨fun pins s σ H R I h => ?_⟩
  refine thn (he.run pins s σ H _ I h) fun v s1 ⟨x, H1, I1, r1, a, dx, gs, l, ys, ex, hH, hf, hl, q⟩ => ?_
  subst ex
  cases r1
  refine iter_at T hr I1.env0 I1 hH hf hl fun it s' hn hsz I3 => ?_
  have hob : s'.heap.get? it = some (GNX.itObj l 0) := (show _ ∧ _ from I3.hok it _ upd_same).1
  have F := ItX.inv_fp I3 upd_same (Nat.le_trans I1.sz hsz)
  have I5 := ItX.inv_drop I3 upd_same
  rw [ItX.dropH_upd hn] at I5 F
  refine ⟨it, [it], _, _, H1, rfl, I5, turn_list l it, ⟨_, hob, rfl, rfl⟩, fun b hb => ?_, q⟩
  have e : b = it := by simpa using hb
  rw [e]
  exact F
def diOwn (C f : Str) (te : DTE) : DTI := fun τ M Q E => te τ M (fun d M1 => onRows C f M1 d fun ds => Q ds M1) E
theorem di_own {te : DTE} (T : IterC X.prog X.w X.K X.mg X.base C f) (hr : Room 1 X.A) (he : DE X W e te) : DI X W tg e (diOwn C f te) := PI.of (pi_ownR he T hr) fun σ H R ⟨τ, M, Q0, E0, S, h⟩ => S.sub h fun d M1 v H1 h1 r1 S1 s1 => by
  obtain ⟨a, dx, gs, l, ds, vs, rfl, h1, h2, h3, h4, h5, h6⟩ := onRows_at h1 r1 S1.co
  exact ⟨a, dx, gs, l, vs, rfl, h1, h2, h3, S1.end_ h6 (it_lst h3 h4 h5)⟩
theorem r_own {te : DTE} {τ : DSt} {M : Mu} {Ql : List D → Mu → Prop} {E : DX} : diOwn C f te τ M Ql E = te τ M (fun d M1 => onRows C f M1 d fun ds => Ql ds M1) E := pq Iff.rfl
end
end DL

namespace DL
open PySem L2
/-! ### places in lists -/
theorem atI_nat {α : Type} {xs : List α} {i : Nat} (h : i < xs.length) : atI xs (i : Int) = some xs[i] := by
  unfold atI ixN
  rw [if_pos (by omega), if_pos (by omega)]
  show xs[(i : Int).toNat]? = _
  rw [Int.toNat_natCast, List.getElem?_eq_getElem h]
theorem atI_of {α : Type} {xs : List α} {i : Int} {x : α} (h0 : 0 ≤ i) (h : xs[i.toNat]? = some x) : atI xs i = some x := by
  have hl := (List.getElem?_eq_some_iff.mp h).1
  unfold atI ixN
  rw [if_pos h0, if_pos (by omega)]
  exact h
theorem atI_0 {α : Type} {a : α} {l : List α} : atI (a :: l) 0 = some a := atI_of (by decide) rfl
theorem atI_1 {α : Type} {a b : α} {l : List α} : atI (a :: b :: l) 1 = some b := atI_of (by decide) rfl
theorem atI_2 {α : Type} {a b c : α} {l : List α} : atI (a :: b :: c :: l) 2 = some c := atI_of (by decide) rfl
theorem atI_3 {α : Type} {a b c d : α} {l : List α} : atI (a :: b :: c :: d :: l) 3 = some d := atI_of (by decide) rfl
theorem atI_4 {α : Type} {a b c d e : α} {l : List α} : atI (a :: b :: c :: d :: e :: l) 4 = some e := atI_of (by decide) rfl
theorem ixN_m1 {n : Nat} : ixN (n + 1) (-1) = some n := by
  unfold ixN
  rw [if_neg (by decide), if_pos (by omega)]
  congr 1
  omega
theorem atI_m1 {α : Type} {xs : List α} {x : α} : atI (xs ++ [x]) (-1) = some x := by
  unfold atI
  rw [List.length_append, show ([x] : List α).length = 1 from rfl, ixN_m1]
  show (xs ++ [x])[xs.length]? = _
  simp
theorem ixN_nat {n i : Nat} (h : i < n) : ixN n (i : Int) = some i := by
  unfold ixN
  rw [if_pos (by omega), if_pos (by omega), Int.toNat_natCast]
theorem ixN_of {n : Nat} {i : Int} (h0 : 0 ≤ i) (h : i < n) : ixN n i = some i.toNat := by
  unfold ixN
  rw [if_pos h0, if_pos h]
theorem atI_is {α : Type} {xs : List α} {i : Int} (h0 : 0 ≤ i) (h : i < xs.length) : ∃ x, x ∈ xs ∧ atI xs i = some x ∧ xs[i.toNat]? = some x := by
  have hl : i.toNat < xs.length := by omega
  exact ⟨xs[i.toNat], List.getElem_mem hl, atI_of h0 (List.getElem?_eq_getElem hl), List.getElem?_eq_getElem hl⟩
theorem atI_map {α β : Type} {f : α → β} {xs : List α} {i : Int} : atI (xs.map f) i = (atI xs i).map f := by
  unfold atI
  rw [List.length_map]
  cases ixN xs.length i with
  | none => rfl
  | some j => show (xs.map f)[j]? = (xs[j]?).map f; rw [List.getElem?_map]
theorem ixN_40 : ixN 4 0 = some 0 := rfl
theorem ixN_41 : ixN 4 1 = some 1 := rfl
theorem ixN_42 : ixN 4 2 = some 2 := rfl
theorem ixN_43 : ixN 4 3 = some 3 := rfl
/-! ### cuts -/
theorem cut_to {α : Type} {xs : List α} {i : Int} (h0 : 0 ≤ i) (h : i ≤ xs.length) : cut xs none (some i) = xs.take i.toNat := by
  unfold cut HT.sIx
  simp only [List.drop_zero, Nat.sub_zero]
  rw [if_neg (by omega)]
  congr 1
  omega
theorem cut_from {α : Type} {xs : List α} {i : Int} (h0 : 0 ≤ i) : cut xs (some i) none = xs.drop i.toNat := by
  unfold cut HT.sIx
  simp only []
  rw [if_neg (by omega)]
  rw [List.take_of_length_le (by rw [List.length_drop]; omega)]
  by_cases h : i.toNat ≤ xs.length
  · congr 1; omega
  · rw [List.drop_eq_nil_of_le (by omega), List.drop_eq_nil_of_le (by omega)]
theorem cut_nat {α : Type} {xs : List α} {n : Nat} : cut xs (some (n : Int)) none = xs.drop n := by rw [cut_from (by omega), Int.toNat_natCast]
theorem cut_init {α : Type} {xs : List α} {x : α} : cut (xs ++ [x]) none (some (-1)) = xs := by
  unfold cut HT.sIx
  simp only [List.drop_zero, Nat.sub_zero]
  rw [if_pos (by decide)]
  rw [List.length_append, show ([x] : List α).length = 1 from rfl]
  rw [show (((-1 : Int) + ((xs.length + 1 : Nat) : Int)).toNat) = xs.length by omega]
  first
    | simp
    | (rw [Nat.min_eq_left (by omega)]; simp)
/-! ### loops -/
theorem wFor_by {g : DTG} {tb : DTS} {D0 : DEnds} {ds : List D} {τ : DSt} {M : Mu} (I : Nat → DSt → Mu → Prop) (h0 : I 0 τ M)
    (step : ∀ i d τ M, ds[i]? = some d → I i τ M → ∀ nxt : DSt → Mu → Prop, (∀ τ2 M2, I (i + 1) τ2 M2 → nxt τ2 M2) → g d τ M (fun τ1 M1 => tb { D0 with nx := nxt, ct := nxt, bk := D0.nx } τ1 M1) (D0.ex τ))
    (done : ∀ τ M, I ds.length τ M → D0.nx τ M) : wFor g tb D0 ds τ M := by
  have all : ∀ (rest pre : List D) (τ : DSt) (M : Mu), ds = pre ++ rest → I pre.length τ M → wFor g tb D0 rest τ M := by
    intro rest
    induction rest with
    | nil =>
      intro pre τ M e h
      rw [List.append_nil] at e
      rw [← e] at h
      exact done τ M h
    | cons d rest ih =>
      intro pre τ M e h
      refine step pre.length d τ M (by rw [e]; simp) h _ fun τ2 M2 h2 => ?_
      refine ih (pre ++ [d]) τ2 M2 (by rw [e]; simp) ?_
      rw [List.length_append]
      exact h2
  exact all ds [] τ M rfl h0
theorem wFor_nil {g : DTG} {tb : DTS} {D0 : DEnds} {τ : DSt} {M : Mu} (h : D0.nx τ M) : wFor g tb D0 [] τ M := h
theorem wFor_cons {g : DTG} {tb : DTS} {D0 : DEnds} {τ : DSt} {M : Mu} {d : D} {ds : List D} (h : g d τ M (fun τ1 M1 => tb { D0 with nx := wFor g tb D0 ds, ct := wFor g tb D0 ds, bk := D0.nx } τ1 M1) (D0.ex τ)) : wFor g tb D0 (d :: ds) τ M := h
theorem wForK_by {g : DTG} {tb : DTS} {D0 : DEnds} {ds : List D} {τ : DSt} {M : Mu} {a : Addr} {kvs : List (DKey × D)} {u : HO} (I : Nat → DSt → Mu → Prop) (h0 : I 0 τ M) (hk : ∀ i τ M, I i τ M → M a = some (.fK kvs u))
    (step : ∀ i d τ M, ds[i]? = some d → I i τ M → ∀ nxt : DSt → Mu → Prop, (∀ τ2 M2, I (i + 1) τ2 M2 → nxt τ2 M2) → g d τ M (fun τ1 M1 => tb { D0 with nx := nxt, ct := nxt, bk := D0.nx } τ1 M1) (D0.ex τ))
    (done : ∀ τ M, I ds.length τ M → D0.nx τ M) : wForK a kvs u g tb D0 ds τ M := by
  have all : ∀ (rest pre : List D) (τ : DSt) (M : Mu), ds = pre ++ rest → I pre.length τ M → wForK a kvs u g tb D0 rest τ M := by
    intro rest
    induction rest with
    | nil =>
      intro pre τ M e h
      rw [List.append_nil] at e
      rw [← e] at h
      exact ⟨hk _ _ _ h, done τ M h⟩
    | cons d rest ih =>
      intro pre τ M e h
      refine ⟨hk _ _ _ h, step pre.length d τ M (by rw [e]; simp) h _ fun τ2 M2 h2 => ?_⟩
      refine ih (pre ++ [d]) τ2 M2 (by rw [e]; simp) ?_
      rw [List.length_append]
      exact h2
  exact all ds [] τ M rfl h0
theorem wForR_by {g : DTG} {tb : DTS} {D0 : DEnds} {all ds : List D} {τ : DSt} {M : Mu} {a : Addr} (I : Nat → DSt → Mu → Prop) (h0 : I 0 τ M) (hk : ∀ i τ M, I i τ M → M a = some (.lst all))
    (step : ∀ i d τ M, ds[i]? = some d → I i τ M → ∀ nxt : DSt → Mu → Prop, (∀ τ2 M2, I (i + 1) τ2 M2 → nxt τ2 M2) → g d τ M (fun τ1 M1 => tb { D0 with nx := nxt, ct := nxt, bk := D0.nx } τ1 M1) (D0.ex τ))
    (done : ∀ τ M, I ds.length τ M → D0.nx τ M) : wForR a all g tb D0 ds τ M := by
  have go : ∀ (rest pre : List D) (τ : DSt) (M : Mu), ds = pre ++ rest → I pre.length τ M → wForR a all g tb D0 rest τ M := by
    intro rest
    induction rest with
    | nil =>
      intro pre τ M e h
      rw [List.append_nil] at e
      rw [← e] at h
      exact ⟨hk _ _ _ h, done τ M h⟩
    | cons d rest ih =>
      intro pre τ M e h
      refine ⟨hk _ _ _ h, step pre.length d τ M (by rw [e]; simp) h _ fun τ2 M2 h2 => ?_⟩
      refine ih (pre ++ [d]) τ2 M2 (by rw [e]; simp) ?_
      rw [List.length_append]
      exact h2
  exact go ds [] τ M rfl h0
/-- a comprehension over a list that may change, each item's image by its place -/
theorem lcR_map {i : Nat} {vs : List Nat} {τ : DSt} {p a : Addr} {te : DTE} {Nx : Mu → Prop} {all : List D} {M : Mu} (f : Nat → D) (hl : all.length < 16777216) (hm : M a = some (.lst all)) (ha : a ≠ p)
    (he : ∀ k d, all[k]? = some d → ∀ acc (N : D → Mu → Prop), N (f k) (put M p (.lst acc)) → te ((wipeD τ vs).set i (some d)) (put M p (.lst acc)) N noX)
    (h : Nx (put M p (.lst ((List.range all.length).map f)))) : wTsR a all (dgName i) dYes vs τ (dEm p te) Nx all (put M p (.lst [])) := by
  have go : ∀ (rest pre : List D), all = pre ++ rest → wTsR a all (dgName i) dYes vs τ (dEm p te) Nx rest (put M p (.lst ((List.range pre.length).map f))) := by
    intro rest
    induction rest with
    | nil =>
      intro pre e
      rw [List.append_nil] at e
      refine ⟨by rw [put_ne ha]; exact hm, ?_⟩
      rw [← e]
      exact h
    | cons d rest ih =>
      intro pre e
      refine ⟨by rw [put_ne ha]; exact hm, ?_⟩
      refine he pre.length d (by rw [e]; simp) _ _ ⟨_, put_same, ?_, ?_⟩
      · rw [List.length_map, List.length_range, line24]
        have := congrArg List.length e
        rw [List.length_append] at this
        omega
      · have q := ih (pre ++ [d]) (by rw [e]; simp)
        rw [List.length_append, List.length_singleton, List.range_succ, List.map_append] at q
        rw [put_put]
        exact q
  exact go all [] rfl
theorem upTo_at {lo : Int} {n i : Nat} {d : D} (h : (upTo lo n)[i]? = some d) : d = .int (lo + i) ∧ i < n := ⟨upTo_get h, by have := (List.getElem?_eq_some_iff.mp h).1; rwa [upTo_len] at this⟩
theorem map_at {α : Type} {f : α → D} {l : List α} {i : Nat} {d : D} (h : (l.map f)[i]? = some d) : ∃ a, l[i]? = some a ∧ f a = d := by
  rw [List.getElem?_map] at h
  exact Option.map_eq_some_iff.mp h
end DL

namespace DL
open PySem L2
/-! ### comprehensions over rows of texts -/
theorem lc_txs {i : Nat} {tt : DTT} {vs : List Nat} {τ : DSt} {p : Addr} {te : DTE} {Nx : Mu → Prop} {ts : List Tx} {M : Mu} (g : Tx → Bool) (hl : ts.length ≤ 1000000)
    (ht : ∀ t ∈ ts, ∀ acc (N : Bool → Mu → Prop), N (g t) (put M p (.lst acc)) → tt ((wipeD τ vs).set i (some (.str t))) (put M p (.lst acc)) N noX)
    (he : ∀ t ∈ ts, g t = true → ∀ acc (N : D → Mu → Prop), N (.str t) (put M p (.lst acc)) → te ((wipeD τ vs).set i (some (.str t))) (put M p (.lst acc)) N noX)
    (h : Nx (put M p (.lst (txs (ts.filter g))))) : wTs (dgName i) tt vs τ (wNst (dEm p te) []) Nx (txs ts) (put M p (.lst [])) := by
  refine lc_pure (f := id) (g := fun d => match d with
    | .str t => g t
    | _ => false) (by rw [txs, List.length_map]; omega) ?_ ?_ ?_
  · intro d hd acc N h
    obtain ⟨t, ht2, rfl⟩ := List.mem_map.mp hd
    exact ht t ht2 acc N h
  · intro d hd hg acc N h
    obtain ⟨t, ht2, rfl⟩ := List.mem_map.mp hd
    exact he t ht2 hg acc N h
  · have e : ((txs ts).filter fun d => match d with
        | .str t => g t
        | _ => false).map id = txs (ts.filter g) := by
      rw [List.map_id, txs, List.filter_map]
      rfl
    rw [e]
    exact h
/-- over the keys of a dict that stays -/
theorem lcP_txs {i : Nat} {tt : DTT} {vs : List Nat} {τ : DSt} {p : Addr} {te : DTE} {Nx : Mu → Prop} {M : Mu} {P : Mu → Prop} (g : Tx → Bool) (hP : ∀ acc, P (put M p (.lst acc))) : ∀ {ts : List Tx} (acc : List Tx), acc.length + ts.length ≤ 1000000 →
    (∀ t ∈ ts, ∀ acc (N : Bool → Mu → Prop), N (g t) (put M p (.lst acc)) → tt ((wipeD τ vs).set i (some (.str t))) (put M p (.lst acc)) N noX) →
    (∀ t ∈ ts, g t = true → ∀ acc (N : D → Mu → Prop), N (.str t) (put M p (.lst acc)) → te ((wipeD τ vs).set i (some (.str t))) (put M p (.lst acc)) N noX) →
    Nx (put M p (.lst (txs (acc ++ ts.filter g)))) → wTsP P (dgName i) tt vs τ (dEm p te) Nx (txs ts) (put M p (.lst (txs acc)))
  | [], acc, _, _, _, h => ⟨hP _, by rw [List.filter_nil, List.append_nil] at h; exact h⟩
  | t :: ts, acc, hl, ht, he, h => by
    have hl2 : acc.length + ts.length + 1 ≤ 1000000 := by simpa [Nat.add_assoc] using hl
    refine ⟨hP _, ht t List.mem_cons_self _ _ ?_⟩
    cases q : g t with
    | false =>
      simp only [Bool.false_eq_true, if_false]
      refine lcP_txs g hP acc (by omega) (fun u hu => ht u (List.mem_cons_of_mem _ hu)) (fun u hu => he u (List.mem_cons_of_mem _ hu)) ?_
      rw [List.filter_cons, q] at h
      exact h
    | true =>
      simp only [if_true]
      refine he t List.mem_cons_self q _ _ ⟨_, put_same, by rw [line24, txs, List.length_map]; omega, ?_⟩
      rw [put_put, show txs acc ++ [D.str t] = txs (acc ++ [t]) from (txs_app acc [t]).symm]
      refine lcP_txs g hP (acc ++ [t]) (by rw [List.length_append, List.length_singleton]; omega) (fun u hu => ht u (List.mem_cons_of_mem _ hu)) (fun u hu => he u (List.mem_cons_of_mem _ hu)) ?_
      rw [List.filter_cons, q] at h
      rw [List.append_assoc]
      exact h
/-! ### sets of texts: dicts whose values are not looked at -/
def addK (kvs : List (DKey × D)) (t : Tx) : List (DKey × D) := putD kvs (.inr t) (.bl true)
def keysT (ts : List Tx) : List (DKey × D) := ts.foldl addK []
def hasK (kvs : List (DKey × D)) (t : Tx) : Bool := (lookK kvs (.inr t)).isSome
theorem hasK_any (kvs : List (DKey × D)) (t : Tx) : hasK kvs t = kvs.any fun q => decide (q.1 = .inr t) := by
  unfold hasK lookK
  induction kvs with
  | nil => rfl
  | cons a r ih =>
    rw [List.find?_cons, List.any_cons]
    cases decide (a.1 = Sum.inr t) with
    | true => rfl
    | false => rw [Bool.false_or, ← ih]
theorem hasK_add (kvs : List (DKey × D)) (t u : Tx) : hasK (addK kvs t) u = (decide (u = t) || hasK kvs u) := by
  rw [hasK_any, hasK_any]
  unfold addK putD
  split
  · rename_i h
    rw [List.any_map]
    have e : ((fun q : DKey × D => decide (q.1 = Sum.inr u)) ∘ fun q => if q.1 = Sum.inr t then (q.1, D.bl true) else q) = fun q => decide (q.1 = Sum.inr u) := by
      funext q
      simp only [Function.comp]
      split <;> rfl
    rw [e]
    by_cases z : u = t
    · subst z
      rw [h]
      simp
    · rw [decide_eq_false z, Bool.false_or]
  · rw [List.any_append, List.any_cons, List.any_nil, Bool.or_false, Bool.or_comm]
    congr 1
    exact decide_eq_decide.mpr ⟨fun z => by injection z with z; exact z.symm, fun z => by rw [z]⟩
theorem hasK_fold : ∀ (ts : List Tx) (kvs : List (DKey × D)) (u : Tx), hasK (ts.foldl addK kvs) u = (decide (u ∈ ts) || hasK kvs u)
  | [], kvs, u => by simp
  | t :: ts, kvs, u => by
    rw [List.foldl_cons, hasK_fold ts, hasK_add, ← Bool.or_assoc]
    congr 1
    rw [← Bool.decide_or]
    exact decide_eq_decide.mpr (by simp [List.mem_cons, or_comm])
theorem hasK_keys (ts : List Tx) (u : Tx) : hasK (keysT ts) u = decide (u ∈ ts) := by
  unfold keysT
  rw [hasK_fold]
  simp [hasK, lookK]
theorem addK_len (kvs : List (DKey × D)) (t : Tx) : (addK kvs t).length ≤ kvs.length + 1 := by
  unfold addK putD
  split
  · rw [List.length_map]; omega
  · rw [List.length_append]; exact Nat.le_refl _
theorem keysT_snoc (ts : List Tx) (t : Tx) : keysT (ts ++ [t]) = addK (keysT ts) t := by unfold keysT; rw [List.foldl_append]; rfl
theorem keysT_len : ∀ (ts : List Tx) (kvs : List (DKey × D)), (ts.foldl addK kvs).length ≤ kvs.length + ts.length
  | [], _ => Nat.le_refl _
  | t :: ts, kvs => by
    rw [List.foldl_cons, List.length_cons]
    have := keysT_len ts (addK kvs t)
    have := addK_len kvs t
    omega
theorem keysT_of : ∀ {ts : List Tx} {acc : List Tx}, (acc ++ ts).Nodup → keysOf (ts.foldl addK (acc.map fun t => (Sum.inr t, D.bl true))) = txs (acc ++ ts)
  | [], acc, _ => by
    rw [List.append_nil, keysOf, List.foldl_nil, List.map_map]
    rfl
  | t :: ts, acc, h => by
    have n : ¬ t ∈ acc := fun z => by
      have := List.nodup_append.mp h
      exact this.2.2 t z t List.mem_cons_self rfl
    have e : addK (acc.map fun t => (Sum.inr t, D.bl true)) t = (acc ++ [t]).map fun t => (Sum.inr t, D.bl true) := by
      unfold addK putD
      rw [if_neg, List.map_append]
      · rfl
      · intro z
        rw [List.any_map, List.any_eq_true] at z
        obtain ⟨u, hu, e⟩ := z
        have e2 : (Sum.inr u : DKey) = .inr t := of_decide_eq_true e
        injection e2 with e2
        exact n (by rw [← e2]; exact hu)
    rw [List.foldl_cons, e, keysT_of (acc := acc ++ [t]) (by rw [List.append_assoc]; exact h), List.append_assoc]
    rfl
theorem keysT_keys {ts : List Tx} (h : ts.Nodup) : keysOf (keysT ts) = txs ts := keysT_of (acc := []) h
/-- {t: True for t in ts} -/
theorem dc_txs {i : Nat} {vs : List Nat} {τ : DSt} {p : Addr} {tk tv : DTE} {Nx : Mu → Prop} {M : Mu} : ∀ {ts : List Tx} (acc : List Tx), acc.length + ts.length ≤ 1000000 →
    (∀ t ∈ ts, ∀ kvs (N : D → Mu → Prop), N (.str t) (put M p (.dK kvs)) → tk ((wipeD τ vs).set i (some (.str t))) (put M p (.dK kvs)) N noX) →
    (∀ t ∈ ts, ∀ kvs (N : D → Mu → Prop), N (.bl true) (put M p (.dK kvs)) → tv ((wipeD τ vs).set i (some (.str t))) (put M p (.dK kvs)) N noX) →
    Nx (put M p (.dK (keysT (acc ++ ts)))) → wTs (dgName i) dYes vs τ (dEmD p tk tv) Nx (txs ts) (put M p (.dK (keysT acc)))
  | [], acc, _, _, _, h => by rw [List.append_nil] at h; exact h
  | t :: ts, acc, hl, hk, hv, h => by
    have hl2 : acc.length + ts.length + 1 ≤ 1000000 := by simpa [Nat.add_assoc] using hl
    refine hk t List.mem_cons_self _ _ (hv t List.mem_cons_self _ _ ⟨keysT acc, .inr t, rfl, put_same, ?_, ?_⟩)
    · have := keysT_len acc []
      simp only [List.length_nil] at this
      have e : (keysT acc).length ≤ acc.length := by unfold keysT; omega
      rw [line24]; omega
    · rw [put_put, show putD (keysT acc) (.inr t) (.bl true) = keysT (acc ++ [t]) from (keysT_snoc acc t).symm]
      refine dc_txs (acc ++ [t]) (by rw [List.length_append, List.length_singleton]; omega) (fun u hu => hk u (List.mem_cons_of_mem _ hu)) (fun u hu => hv u (List.mem_cons_of_mem _ hu)) ?_
      rw [List.append_assoc]
      exact h
/-! ### what is there stays -/
def Xt (M M' : Mu) : Prop := ∀ b o, M b = some o → M' b = some o
theorem Xt.refl (M : Mu) : Xt M M := fun _ _ h => h
theorem Xt.trans {M M1 M2 : Mu} (a : Xt M M1) (b : Xt M1 M2) : Xt M M2 := fun c o h => b c o (a c o h)
theorem Xt.new {M : Mu} {p : Addr} {o : MO} (h : M p = none) : Xt M (put M p o) := fun b u e => by
  have n : b ≠ p := fun z => by rw [z, h] at e; cases e
  rw [put_ne n]; exact e
theorem Xt.none {M M' : Mu} (x : Xt M M') {p : Addr} (h : M' p = Option.none) : M p = Option.none := by
  cases e : M p with
  | none => rfl
  | some o => rw [x p o e] at h; cases h
theorem Xt.set {M M' : Mu} {p : Addr} {o u : MO} (x : Xt (put M p o) M') (h : M p = Option.none) : Xt M (put M' p u) := fun b v e => by
  have n : b ≠ p := fun z => by rw [z, h] at e; cases e
  rw [put_ne n]
  exact x b v (by rw [put_ne n]; exact e)
end DL

namespace DL
open PySem L2
/-! ### a law's end -/
theorem no_err {P : Program} {w : World} {H : Hp} {s s' : Shared} {e : Value} (h : L2.CX P w [] H s (fun _ _ _ => False) e s') : False := by
  obtain ⟨_, _, _, _, _, _, _, _, _, _, _, _, z⟩ := h
  exact z
theorem law_start {K : PySem.W.Frag} {H : Hp} {a : Addr} {ns : List Int} {sp : DSp} (hO : Only H) (hS : SqL K H a (ns.map V.int)) (h : sp [.scr ns] (fun _ => none) (fun d _ => d = .bl true) (fun _ _ => False)) : lsp K sp [.ref a] H (fun v _ => v = .bl true) (fun _ _ _ => False) := by
  refine ⟨[.scr ns], fun _ => none, fun d _ => d = .bl true, fun _ _ => False, ?_, fun _ _ e => (nomatch e), h, fun d M' v H' q r _ _ => ?_, fun _ _ _ _ _ q => q.elim⟩
  · refine Reps.cons ?_ Reps.nil
    refine ⟨a, rfl, ?_⟩
    rcases hS with (hS | hS) | hS
    · rcases hO a with z | ⟨o, xs, z⟩
      · rw [hS] at z; cases z
      · rw [hS] at z; cases z
    · exact .inl ⟨hS, rfl⟩
    · exact .inr hS
  · subst q
    exact r
theorem law_walk {l : PySem.W.OpenLaw} {sp : DSp} {k : Nat} {q : Program} {loose : List Str} {XP : (Str → Option Value) → Heap → Prop} {YP : World → Heap → Prop} {d : DefRec} {x : Str} (h63 : l.most = some 63) (hdf : d.params.defaults = []) (hr : Room k callerA)
    (hsp : ∀ ns : List Int, ns.length ≤ 63 → sp [.scr ns] (fun _ => none) (fun d _ => d = .bl true) (fun _ _ => False))
    (F : ∀ (w : World) (mg : Str → Option Value) (fa : Addr) (h : Heap), YP w h → h.Ns mainGlobals mg → mg d.name = some (.ref fa) → ∃ (K : PySem.W.Frag) (fd : FuncData), K.In h ∧ (∀ (s : Shared) (u : Value), BindsTo s fd ⟨[u], []⟩ [(x, u)]) ∧
      ∀ base : Heap, K.In base → base.Ns mainGlobals mg → FnOk l.prog w K mg base (L2.CX l.prog w) k fa fd [x] (lsp K sp)) : PySem.W.WalkO q loose XP YP l.row.toRowW d [] (fun f vs => PySem.call f vs) :=
  Att.attach_call h63 hdf fun w s0 s1 mg mb fa o pm cd doc a vs ns G Y ho hd hcd hmg hobj his hlen hgen => by
    obtain ⟨K, fd, hK, hb, hF⟩ := F w mg fa _ Y G.T.g hmg
    exact law_call hK G.T.g G.T.b G.T.builtins G.T.nolimit hgen hobj his (Nat.le_trans hlen (by decide)) hr hF hb (fun H hO hS => law_start hO hS (hsp ns hlen)) fun H e s' z => no_err z
theorem FnM.never {P : Program} {w : World} {K : PySem.W.Frag} {mg : Str → Option Value} {base : Heap} {k : Nat} {x : Str} {f : Addr} {fd : FuncData} {ps : List Str} {sp : DSp} (hno : ∀ ds M Q E, ¬ sp ds M Q E) (hm : mg x = some (.ref f)) (hk : PySem.W.keepIn K (.ref f) = true) (hb : Binds K fd ps []) : FnM P w K mg base k x sp :=
  ⟨f, fd, ps, ⟨fun vs H Q E ⟨ds, M, Q0, E0, _, _, h, _⟩ => (hno _ _ _ _ h).elim, fun A outer s H args us vs Q E _ _ _ _ ⟨ds, M, Q0, E0, _, _, h, _⟩ => (hno _ _ _ _ h).elim⟩, hm, hk, hb⟩
end DL

namespace DL
open PySem L2 He
/-! ### a tuple of texts that is a constant of a class -/
def cvtB (C f : Str) (zs : List Str) (K : PySem.W.Frag) : Bool := match PySem.W.findCls K (.ref (ga K C)) (.type "type") f with
  | some (.val (.ref a)) => (match K.lookup a with
    | some ⟨.type c, _, .seq its _, _⟩ => decide (c = "tuple") && (decide (its.size ≤ sizeLine) && relAll (zs.map V.str) its.toList)
    | _ => false)
  | _ => false
def CvT (K : PySem.W.Frag) (C f : Str) (zs : List Str) : Prop := ∃ a, ClX.CVal K (ga K C) (.type "type") f (.ref a) (.ref a) ∧ WrT K a (zs.map V.str)
theorem cvtB_ok {K : PySem.W.Frag} {C f : Str} {zs : List Str} (h : cvtB C f zs K = true) : CvT K C f zs := by
  unfold cvtB at h
  split at h
  · rename_i a e
    refine ⟨a, ⟨e, rfl⟩, ?_⟩
    cases q : K.lookup a with
    | none =>
      rw [q] at h
      cases h
    | some o =>
      obtain ⟨oc, od, dt, osl⟩ := o
      rw [q] at h
      cases oc with
      | type c =>
        cases dt with
        | seq its n =>
          obtain ⟨h1, h2⟩ := ba (show (decide (c = "tuple") && (decide (its.size ≤ sizeLine) && relAll (zs.map V.str) its.toList)) = true from h)
          obtain ⟨h3, h4⟩ := ba h2
          exact ⟨_, its, n, q, congrArg Value.type (of_decide_eq_true h1), rfl, of_decide_eq_true h3, relAll_ok h4⟩
        | _ => cases h
      | _ => cases dt <;> cases h
  · cases h
theorem rep_tx {K : PySem.W.Frag} {f : Addr} {zs : List Str} {d : D} (hw : WrT K f (zs.map V.str)) (e : D.tup (zs.map fun z => D.str (T z)) = d) (M : Mu) (H : Hp) : Rep K M H d (.ref f) := by
  rw [← e]
  unfold Rep
  refine ⟨f, _, rfl, .inr hw, ?_⟩
  have e : zs.map (fun z => D.str (T z)) = (zs.map T).map D.str := by rw [List.map_map]; rfl
  have e2 : zs.map V.str = ((zs.map T).map sx).map V.str := by
    rw [List.map_map, List.map_map]
    exact List.map_congr_left fun z _ => by show V.str z = V.str (sx (T z)); rw [sx_T]
  rw [e, e2]
  exact Reps.of_strs _
section
variable {X : Cx} {W : WX} {C f : Str} {zs : List Str} {p pos : Pos} {e : Expr} {te : DTE}
theorem de_cvalT {d : D} (h : CvT X.K C f zs) (e : D.tup (zs.map fun z => D.str (T z)) = d) (r : ClX.CRead X.K (ga X.K C) (.type "type")) (hm : X.mg C = some (.ref (ga X.K C))) (hg : Gl X C := by rfl) (hdb : (C == ("__debug__" : Str)) = false := by decide)
    (hb : attributeBase (.Name C p) f X.env (eval (.Name C p) X.env) = eval (.Name C p) X.env := by rfl) : DE X W (.Attribute (.Name C p) f pos) (dC d) := by
  obtain ⟨a, k, hw⟩ := h
  exact de_cval (v := .ref a) ⟨_, k⟩ r hm (fun M H => rep_tx hw e M H) hg hdb hb
/-- the same, through a variable that holds the class -/
def dClF (C : Str) (d : D) (te : DTE) : DTE := fun τ M Q E => te τ M (fun z M1 => z = .cl C ∧ Q d M1) E
theorem de_cvalV {d : D} (h : CvT X.K C f zs) (ed : D.tup (zs.map fun z => D.str (T z)) = d) (r : ClX.CRead X.K (ga X.K C) (.type "type")) (he : DE X W e te) (hb : attributeBase e f X.env (eval e X.env) = eval e X.env := by rfl) : DE X W (.Attribute e f pos) (dClF C d te) := by
  obtain ⟨a, k, hw⟩ := h
  exact PE.of (ClX.pe_cval he hb) fun σ H Q ⟨τ, M, Q0, E0, S, h⟩ => S.sub h fun z M1 v H1 h1 r1 S1 s1 => by
    obtain ⟨rfl, h2⟩ := h1
    exact ⟨_, _, .ref a, .ref a, r1, r, k, S1.end_ h2 (rep_tx hw ed M1 H1)⟩
theorem clF_ {d : D} {τ : DSt} {M : Mu} {Q : DK} {E : DX} : dClF C d te τ M Q E = te τ M (fun z M1 => z = .cl C ∧ Q d M1) E := rfl
end
end DL

namespace DL
open PySem PySem.Calls PyProof.Rows Builtin Builtin.ObjectAttr PySem.W
/-! ### o.f = v where the class has f as a property with a setter -/
theorem slot_pset : Slot "property" "__set__" "property.__set__" :=
  .of (owner := "property") (n := "__set__") (by rw [typeLookup_type, builtinLookup_eq_fast]; kernel_rfl) (by decide +kernel) (by decide +kernel) (by decide +kernel)
    (by first | exact .inl (by decide +kernel) | exact .inr (by decide +kernel)) (by rw [isSubtype_type]; kernel_rfl)
theorem entry_pset : entryFor table "property.__set__" = some Builtin.«property.__set__» := entryFor_of_tree (by kernel_rfl)
theorem args_pset (a b c : Value) : argsOk "property.__set__" ⟨[a, b, c], []⟩ := by unfold argsOk; kernel_rfl
section
variable {prog : Program} {w : World} {A : Around} {s : Shared} {K : Frag} {p x C : Addr} {R : Result → Shared → Prop}
theorem prop_set {g v : Value} {fset : Addr} {rest : List Value} (X : K.In s.heap) (hp : recIn K p "property" = some (g :: .ref fset :: rest))
    (h : wpAny (model prog w) A.in1 (call (.ref fset) [.ref x, v]) (fun _ s' => R (.ok (.ret .none)) s') (fun e s' => R (.error e) s') s) : codeAny (model prog w) A (.call (.builtin "property.__set__") ⟨[.ref p, .ref x, v], []⟩) R s := by
  obtain ⟨d, sl, ho⟩ := rec_of X hp
  refine codeAny_call_builtin slot_pset.plain entry_pset (slot_pset.check _ _ _ _ _ _ _ _ ⟨_, ho, rfl⟩ (args_pset _ _ _) ?_)
  unfold Builtin.«property.__set__»
  refine wpAny_bind ((looks_field (v := .ref fset) ho 1 (by rfl)).here ?_)
  have hn : ¬ ((Value.ref fset == Value.none) = true) := fun z => by cases eq_of_beq z
  rw [if_neg hn]
  refine wpAny_bind (wpAny_mono h (fun _ s' z => ?_) fun _ _ z => z)
  exact wpAny_pure z
theorem set_prop {E : Value → Shared → Prop} {ox : Obj} {od : Option Obj} {name : Str} {g v : Value} {fset : Addr} {rest : List Value} {Q : Unit → Shared → Prop} (X : K.In s.heap) (I : InstAt s.heap x ox C od)
    (hs : findIn K (.ref C) "__setattr__" = some (some (.builtin "object.__setattr__"))) (hp : plainOver K C = true) (ht : takerIn K C name = some (some (.ref p))) (hsp : specialIn K (.ref p) "__set__" = some (some (.builtin "property.__set__")))
    (hr : recIn K p "property" = some (g :: .ref fset :: rest)) (h : wpAny (model prog w) A.in1.in1 (call (.ref fset) [.ref x, v]) (fun _ => Q ()) E { s with toks := s.toks + 1 }) :
    wpAny (model prog w) A (setAttr (.ref x) name v) Q E s := by
  refine set_plain X I hs (osa_open (s := { s with toks := s.toks + 1 }) (r := some (.ref p)) X I hp ht fun b => ?_)
  refine wpAny_bind (wpAny_rule (wpAny_bind (wpAny_holding (wpAny_bind (PySem.W.Looks.here (s := { s with toks := s.toks + 1 }) (looks_specialIn X hsp) (wpAny_holding ?_))))))
  rw [slot_pset.bind]
  refine wpAny_bind (wpAny_pure (wpAny_bind (wpAny_call (prop_set (s := { s with toks := s.toks + 1 }) X hr ?_))))
  refine wpAny_mono h (fun _ s' z => ?_) fun _ _ z => z
  exact wpAny_pure (wpAny_pure z)
end
open L2 He
/-- the setter's def -/
def psA (K : PySem.W.Frag) (C : Addr) (f : Str) : Addr := match PySem.W.recIn K (ma K C f) "property" with
  | some (_ :: .ref g :: _) => g
  | _ => 0
def psetB (C f : Str) (K : PySem.W.Frag) : Bool := decide (PySem.W.findIn K (.ref (ga K C)) f = some (some (.ref (ma K (ga K C) f)))) && (decide (PySem.W.specialIn K (.ref (ma K (ga K C) f)) "__set__" = some (some (.builtin "property.__set__"))) &&
  (match PySem.W.recIn K (ma K (ga K C) f) "property" with
    | some (_ :: .ref _ :: _) => true
    | _ => false))
structure SetOf (K : PySem.W.Frag) (C : Addr) (f : Str) (p g : Addr) : Prop where
  at_ : PySem.W.takerIn K C f = some (some (.ref p))
  set : PySem.W.specialIn K (.ref p) "__set__" = some (some (.builtin "property.__set__"))
  rec_ : ∃ x rest, PySem.W.recIn K p "property" = some (x :: .ref g :: rest)
theorem psetB_ok {C f : Str} {K : PySem.W.Frag} (h : psetB C f K = true) : SetOf K (ga K C) f (ma K (ga K C) f) (psA K (ga K C) f) := by
  obtain ⟨h1, h⟩ := ba h
  obtain ⟨h2, h4⟩ := ba h
  have h1 := of_decide_eq_true h1
  have h2 := of_decide_eq_true h2
  refine ⟨?_, h2, ?_⟩
  · unfold PySem.W.takerIn PySem.W.takesIn
    rw [h1, Option.bind_some]
    show Option.map _ (match PySem.W.specialIn K (.ref (ma K (ga K C) f)) "__set__" with
      | some (some _) => some true
      | some none => (PySem.W.specialIn K (.ref (ma K (ga K C) f)) "__delete__").map (·.isSome)
      | none => none) = _
    rw [h2]
    rfl
  · unfold psA
    split at h4
    · rename_i x g r e; exact ⟨x, r, by rw [e]⟩
    · cases h4
structure FnPS (P : Program) (w : World) (K : PySem.W.Frag) (mg : Str → Option Value) (base : Heap) (k : Nat) (C f : Str) (sp : DSp) : Prop where
  of : SetOf K (ga K C) f (ma K (ga K C) f) (psA K (ga K C) f)
  run : FnR P w K mg base (L2.CX P w) k (psA K (ga K C) f) (lsp K sp)
def dPrS (C : Str) (sp : DSp) (to tv : DTE) : DTS := fun D0 τ M => tv τ M (fun y M1 => to τ M1 (fun d M2 => isIns C M2 d ∧ sp [d, y] M2 (fun _ M3 => D0.nx τ M3) (D0.ex τ)) (D0.ex τ)) (D0.ex τ)
section
variable {X : Cx} {W : WX} {C f : Str} {sp : DSp} {k : Nat} {o e : Expr} {to tv : DTE} {pos pos' : Pos}
theorem ps_prS {t : TS} (hh : ∀ pins s σ H D, Inv X pins σ H s → t D σ H → wpAny (model X.prog X.w) X.A (eval e X.env) (fun u s1 => wpAny (model X.prog X.w) X.A (eval o X.env) (fun ov s2 => wpAny (model X.prog X.w) X.A (setAttr ov f u) (fun _ s3 => ∃ σ' H', Inv X pins σ' H' s3 ∧ D.nx σ' H') X.xe s2) X.xe s1) X.xe s)
    (hs : swapsWith e (some (.Attribute o f pos')) pos.line X.env = pure false) : PS X (.Assign [.Attribute o f pos'] e pos) t := by
  refine ⟨fun pins s σ H D I h => ?_⟩
  exact plainObj_wpAny_Assign_Attribute (hh pins s σ H D I h) hs
theorem ds_prS (F : FnPS X.prog X.w X.K X.mg X.base k C f sp) (c : Cls X.K (ga X.K C)) (G : Gd X W) (hr : Room (k + 2) X.A) (ho : DE X W o to) (hv : DE X W e tv) (hs : swapsWith e (some (.Attribute o f pos')) pos.line X.env = pure false := by rfl) : DS X W (.Assign [.Attribute o f pos'] e pos) (dPrS C sp to tv) := by
  refine ps_prS (fun pins s σ H D1 I ⟨τ, M, D0, S, h⟩ => ?_) hs
  refine thn (hv.run pins s σ H _ I (S.sub (Q1 := fun v H1 => ∃ y M1, Rep X.K M1 H1 y v ∧ SitS X.K W τ M1 σ H1 D0 D1 ∧ to τ M1 (fun d M2 => isIns C M2 d ∧ sp [d, y] M2 (fun _ M3 => D0.nx τ M3) (D0.ex τ)) (D0.ex τ)) h fun y M1 v1 H1 h1 r1 S1 s1 => ⟨y, M1, r1, S1, h1⟩)) fun u s1 ⟨uv, H1, I1, ru, y, M1, ry, S1, h1⟩ => ?_
  refine thn (ho.run pins s1 σ H1 _ I1 (S1.sub (Q1 := fun v H2 => ∃ d M2, Rep X.K M2 H2 d v ∧ Rep X.K M2 H2 y uv ∧ SitS X.K W τ M2 σ H2 D0 D1 ∧ isIns C M2 d ∧ sp [d, y] M2 (fun _ M3 => D0.nx τ M3) (D0.ex τ)) h1 fun d M2 v H2 h2 r2 S2 s2 => ⟨d, M2, r2, ry.stp s2, S2, h2⟩)) fun w s2 ⟨vv, H2, I2, rv, d, M2, rd, ry2, S2, h2⟩ => ?_
  obtain ⟨a, fs, dx, gs, rfl, rfl, hM, hH, _⟩ := isIns_at h2.1 rd S2.co
  cases rv
  obtain ⟨mA, O, _⟩ := ins_get I2.hok hH
  obtain ⟨od, J, _⟩ := O.look
  obtain ⟨x, rest, hrec⟩ := F.of.rec_
  refine set_prop I2.kIn J c.sa c.po F.of.at_ F.of.set hrec ?_
  have I3 := I2.tok (s2.toks + 1)
  refine thn (run_S (us := [.ref a, u]) (vs := [.ref a, uv]) (Q := fun _ H' => D1.nx σ H') F.run G.tk hr.in1.in1 I3.env0.in1.in1 I3 (.cons rfl (.cons ru .nil)) ⟨[.ref a, y], M2, _, _, .cons rd (.cons ry2 .nil), S2.co, h2.2, fun d M' v H' h r c s => S2.nx τ M' σ H' h (S2.rs.stp s) c s, fun x M' c d H' h r co s => S2.xc x τ M' c d σ H' h r (S2.rs.stp s) co s⟩) fun w s3 ⟨z, H3, I4, rz, q⟩ => ?_
  exact ⟨σ, H3, I4, q⟩
end
end DL

/-! `for` within a generator's body -/
namespace PySem
open Sem (wp)
section
variable {M : Model} {A : Around} {R : GenEnd} {Y : Protocol} {n : Nat} {s₀ : Shared} {c : Code} {fs : List Frame} {s : Shared} {env : Env}
  {K : Flow → Sem Fin} {H : Value → Sem Fin} {gd : Bool → Bool} {lv : List Value → List Value}
theorem seg_For {target iter : Expr} {body orelse : List Stmt} {pos : Pos}
    (h : wpAny M (A.over c fs) (eval iter env) (fun x s1 => wpAny M (A.over c fs) (pyIter x) (fun it s2 => ∀ lv2 p, Seg M A R Y n s₀ (.forLoop target it body orelse env) (M.den (.forLoop target it body orelse env))
      (.ret (fun r => ((match r with | .ok f => (.pure f : Sem Flow) | .error e => .raise e).onRaise (L2.cameBack env)).wrap K H gd lv) none (gd false) lv2 c p [] :: fs) s2)
        (fun x s' => Seg M A R Y n s₀ c (H x) fs s') s1) (fun x s' => Seg M A R Y n s₀ c (H x) fs s') s)
    (hs : ∀ x, foldedSetIterable iter env x = pure x := by intro _; rfl) :
    Seg M A R Y n s₀ c ((exec (.For target iter body orelse pos) env).wrap K H gd lv) fs s := by
  rw [exec_For]
  show Seg M A R Y n s₀ c (.at pos fun _ => ((eval iter env >>= fun l => (foldedSetIterable iter env l >>= fun x => (standAt iter.pos >>= fun _ => (holding [x] (pyIter x) >>= fun it => runOwn (.forLoop target it body orelse env) env)))).wrap K H gd lv)) fs s
  refine seg_at ?_
  rw [Sem.bind_eq_wrap', Sem.wrap_wrap]
  refine seg_wrap (wpAny_mono h (fun x s1 h1 => ?_) fun _ _ q => q)
  rw [hs x]
  show Seg M A R Y n s₀ c (.at iter.pos fun _ => ((holding [x] (pyIter x) >>= fun it => runOwn (.forLoop target it body orelse env) env).wrap _ _ _ _)) fs s1
  refine seg_at ?_
  rw [Sem.bind_eq_wrap', Sem.wrap_wrap]
  refine seg_wrap (wpAny_holding (wpAny_mono h1 (fun it s2 h2 => ?_) fun _ _ q => q))
  exact seg_call fun p => h2 (lv []) p
end
section
variable {prog : Program} {w : World} {A : Around} {R : GenEnd} {Y : Protocol} {n : Nat} {s₀ : Shared} {fs : List Frame} {s : Shared} {env : Env}
theorem seg_forLoop {target : Expr} {it : Value} {body orelse : List Stmt}
    (h : wpAny (model prog w) (A.over (.forLoop target it body orelse env) fs) (pyNext it) (fun r s1 => match r with
        | none => Seg (model prog w) A R Y n s₀ (.forLoop target it body orelse env) (.pure (.again (.block orelse env))) fs s1
        | some v => wpAny (model prog w) (A.over (.forLoop target it body orelse env) fs) (letOwnedTupleGo target it v) (fun _ s1' => wpAny (model prog w) (A.over (.forLoop target it body orelse env) fs) (assign target env v) (fun _ s2 =>
          Seg (model prog w) A R Y n s₀ (.forLoop target it body orelse env) ((execs body env).wrap (fun f => match f with
            | .next | .cont => .pure (.again (.forLoop target it body orelse env))
            | .brk => .pure (.done .next)
            | .ret v => .pure (.done (.ret v))) (fun e => (do noteFrame e env; theTreesLotGoes e : Sem Unit).wrap (fun _ => .raise e) .raise id id) id id) fs s2)
          (fun x s' => Seg (model prog w) A R Y n s₀ (.forLoop target it body orelse env) ((do noteFrame x env; theTreesLotGoes x : Sem Unit).wrap (fun _ => .raise x) .raise id id) fs s') s1')
          (fun x s' => Seg (model prog w) A R Y n s₀ (.forLoop target it body orelse env) ((do noteFrame x env; theTreesLotGoes x : Sem Unit).wrap (fun _ => .raise x) .raise id id) fs s') s1)
      (fun x s' => Seg (model prog w) A R Y n s₀ (.forLoop target it body orelse env) ((do noteFrame x env; theTreesLotGoes x : Sem Unit).wrap (fun _ => .raise x) .raise id id) fs s') s) :
    Seg (model prog w) A R Y n s₀ (.forLoop target it body orelse env) ((model prog w).den (.forLoop target it body orelse env)) fs s := by
  show Seg _ A R Y n s₀ _ ((forTurn target it body orelse env).onRaise (fun x => do noteFrame x env; theTreesLotGoes x)) fs s
  unfold forTurn
  rw [Sem.onRaise_eq_wrap, Sem.bind_eq_wrap', Sem.wrap_wrap]
  refine seg_wrap (wpAny_standAt ?_)
  rw [Sem.bind_eq_wrap', Sem.wrap_wrap]
  refine seg_wrap (wpAny_onRaise (wpAny_mono h (fun r s1 h1 => ?_) fun x s' hx => wpAny_standAt ?_))
  · cases r with
    | none => exact h1
    | some v =>
      show Seg _ A R Y n s₀ _ (Sem.wrap _ _ _ _ (letOwnedTupleGo target it v >>= fun _ => (assign target env v >>= fun _ => (execs body env >>= fun f => match f with
            | .next | .cont => again (.forLoop target it body orelse env)
            | .brk => pure (.done .next)
            | .ret v => pure (.done (.ret v)))))) fs s1
      rw [Sem.bind_eq_wrap', Sem.wrap_wrap]
      refine seg_wrap (wpAny_mono h1 (fun _ s1' h1' => ?_) fun x s' hx => ?_)
      · rw [Sem.bind_eq_wrap', Sem.wrap_wrap]
        refine seg_wrap (wpAny_mono h1' (fun _ s2 h2 => ?_) fun x s' hx => ?_)
        · rw [Sem.bind_eq_wrap', Sem.wrap_wrap]
          rw [Sem.wrap_congr (execs body env) _ _ (K' := fun f => match f with
              | .next | .cont => .pure (.again (.forLoop target it body orelse env))
              | .brk => .pure (.done .next)
              | .ret v => .pure (.done (.ret v))) (H' := (fun e => (do noteFrame e env; theTreesLotGoes e : Sem Unit).wrap (fun _ => .raise e) .raise id id))
            (fun f => by cases f <;> rfl)
            (fun e => by first | exact Sem.bind_eq_wrap _ _ | (show (do noteFrame e env; theTreesLotGoes e : Sem Unit).bind (fun _ => .raise e) = _; rw [Sem.bind_eq_wrap]))]
          exact h2
        · show Seg _ A R Y n s₀ _ ((do noteFrame x env; theTreesLotGoes x : Sem Unit).bind fun _ => .raise x) fs s'
          rw [Sem.bind_eq_wrap]
          exact hx
      · show Seg _ A R Y n s₀ _ ((do noteFrame x env; theTreesLotGoes x : Sem Unit).bind fun _ => .raise x) fs s'
        rw [Sem.bind_eq_wrap]
        exact hx
  · show Seg _ A R Y n s₀ _ ((do noteFrame x env; theTreesLotGoes x : Sem Unit).bind fun _ => .raise x) fs s'
    rw [Sem.bind_eq_wrap]
    exact hx
end
end PySem
namespace L2
open PySem PySem.Spec PyProof.Rows GenW
section
variable {X : Cx} {pos : Pos} {tg : Expr}
def tGFor (wi : TI) (g : TG) (tb : TGn) : TGn := fun D ys σ H => wi σ H fun J H1 => ∃ W : Nat → Nat → List V → St → Hp → Prop, (∃ m, W 0 m ys σ H1) ∧ ∀ i m ys σ H, W i m ys σ H →
  (J.stop i H ∧ D.nx ys σ H) ∨ (J.go i H ∧ ∃ N : List V → St → Hp → Prop, (∀ ys' σ' H', N ys' σ' H' → ∃ m', m' < m ∧ W (i + 1) m' ys' σ' H') ∧ ∀ x H', J.yld i H x H' → g x σ H' fun σ2 H2 => tb { D with nx := N, ct := N, bk := D.nx } ys σ2 H2)
theorem gs_for {iter : Expr} {body : List Stmt} {wi : TI} {g : TG} {tb : TGn} (hp : PassesOwn (model X.prog X.w) X.A X.env X.xe) (hc : X.calm = true) (hi : PI X tg iter wi) (hg : PG X tg g) (hb : GSs X body tb)
    (hs : ∀ x, foldedSetIterable iter X.env x = pure x := by intro _; rfl) : GS X (.For tg iter body [] pos) (tGFor wi g tb) := by
  refine ⟨fun A S ip R n ys s₀ c fs K J gd lv s σ H D gc hn k hI ht => ?_⟩
  obtain ⟨acc, cc, r, I⟩ := hI
  refine seg_For ?_ hs
  rw [gc.over]
  refine wpAny_mono (hi.run _ s σ H _ I ht) (fun v s1 h1 => ?_) fun x s' hx => k.exc n s₀ x s' hx
  refine wpAny_mono h1 (fun itv s2 h2 => ?_) fun x s' hx => k.exc n s₀ x s' hx
  intro lv2 p
  obtain ⟨it, fp, tn, Jt, H2, rfl, I2, T, st2, f2, W, ⟨m0, w0⟩, turn⟩ := h2
  have gl := fun (kk : Result → Sem PySem.Fin) => gc_loop (k := kk) (c' := .forLoop tg (.ref it) body [] X.env) (l := lv2) (kp := []) (p := p) gc rfl rfl
  have stat : ∀ {acc' : Array Value} {c' : Nat} {H' : Hp}, (∀ b ∈ fp, H' b = none) → ∀ b ∈ fp, FpOk X ((S, lstObj acc' c') :: ip) H' b := fun {acc' c' H'} hn b hb => by
    obtain ⟨_, a1, a2, a3, a4, a5⟩ := f2 b hb
    refine ⟨hn b hb, a1, a2, a3, a4, fun p hp => ?_⟩
    rcases List.mem_append.mp hp with hp | hp
    · exact a5 p (List.mem_append_left _ hp)
    · rcases List.mem_cons.mp hp with rfl | hp
      · exact a5 (S, lstObj acc cc) (List.mem_append_right _ List.mem_cons_self)
      · exact a5 p (List.mem_append_right _ (List.mem_cons_of_mem _ hp))
  have loop : ∀ (m i n : Nat) (ys : List V) (s₀ s : Shared) (σ : St) (H : Hp), n + ys.length = sizeLine → W i m ys σ H → GI X S ip ys σ H s → tn i s.heap → (∀ b ∈ fp, H b = none) →
      Seg (model X.prog X.w) A R (GY X S) n s₀ (.forLoop tg (.ref it) body [] X.env) ((model X.prog X.w).den (.forLoop tg (.ref it) body [] X.env))
        (.ret (fun r => ((match r with | .ok f => (.pure f : Sem Flow) | .error e => .raise e).onRaise (cameBack X.env)).wrap K J gd lv) none (gd false) lv2 c p [] :: fs) s := by
    intro m
    induction m using Nat.strongRecOn with
    | ind m ih =>
      intro i n ys s₀ s σ H hn w hI st fr
      have ee : ∀ (n : Nat) (s₀ : Shared) (x : Value) (s' : Shared), X.xe x s' → Seg (model X.prog X.w) A R (GY X S) n s₀ (.forLoop tg (.ref it) body [] X.env)
          ((do noteFrame x X.env; theTreesLotGoes x : Sem Unit).wrap (fun _ => .raise x) .raise id id)
          (.ret (fun r => ((match r with | .ok f => (.pure f : Sem Flow) | .error e => .raise e).onRaise (cameBack X.env)).wrap K J gd lv) none (gd false) lv2 c p [] :: fs) s' := fun n s₀ x s' hx => by
        refine seg_wrap ?_
        rw [(gl _).over]
        refine wpAny_bind (wpAny_mono (hp x s' hx) (fun _ s'' hcb => wpAny_theTreesLotGoes ?_) fun y s'' hcb => ?_)
        · exact seg_leaf (.error x) (seg_cameBack gc k hcb)
        · exact seg_leaf (.error y) (seg_cameBack gc k hcb)
      obtain ⟨acc', c', r', I'⟩ := hI
      refine seg_forLoop ?_
      rw [(gl _).over]
      rcases turn i m ys σ H w with ⟨stop, qn⟩ | ⟨go, N, hN, step⟩
      · refine wpAny_mono (T.done X rfl rfl rfl hc i _ s σ H X.xe I' (stat fr) st stop) (fun rr s4 h4 => ?_) fun x s' hx => ee n s₀ x s' hx
        obtain ⟨rfl, I4⟩ := h4
        exact seg_again rfl (seg_leaf (.ok .next) (k.ok n ys s₀ s4 .next hn ⟨σ, H, ⟨acc', c', r', I4⟩, qn⟩))
      · refine wpAny_mono (T.item X rfl rfl rfl hc i _ s σ H X.xe I' (stat fr) st go) (fun rr s4 h4 => ?_) fun x s' hx => ee n s₀ x s' hx
        obtain ⟨u, rfl, h4⟩ := h4
        refine wpAny_mono h4 (fun _ s5 h5 => ?_) fun x s' hx => ee n s₀ x s' hx
        obtain ⟨x, H5, I5, r5, y5, st5, fr5⟩ := h5
        have I5' := I5.pinned (stat fr5) (T.obj _ _ st5)
        refine wpAny_mono (hg.run _ s5 σ H5 x u _ I5' r5 (step x H5 y5)) (fun _ s6 h6 => ?_) fun x s' hx => ee n s₀ x s' hx
        obtain ⟨σ6, H6, I6, q6⟩ := h6
        have g0 := gl fun r => ((match r with | .ok f => (.pure f : Sem Flow) | .error e => .raise e).onRaise (cameBack X.env)).wrap K J gd lv
        have ipn : ∀ q ∈ ip ++ pinsAt fp s5.heap, q.1 ≠ S := fun q hq => by
          rcases List.mem_append.mp hq with hq | hq
          · exact gc.ip q hq
          · obtain ⟨_, _, _, _, _, a5⟩ := stat (acc' := acc') (c' := c') fr5 q.1 (of_pinsAt hq).1
            exact fun z => a5 (S, lstObj acc' c') (List.mem_append_right _ List.mem_cons_self) z.symm
        have again : ∀ {n' : Nat} {ys' : List V} {s₀' s7 : Shared} {σ7 : L2.St} {H7 : Hp}, n' + ys'.length = sizeLine → GI X S (ip ++ pinsAt fp s5.heap) ys' σ7 H7 s7 → N ys' σ7 H7 → Seg (model X.prog X.w) A R (GY X S) n' s₀' (.forLoop tg (.ref it) body [] X.env) ((model X.prog X.w).den (.forLoop tg (.ref it) body [] X.env))
            (.ret (fun r => ((match r with | .ok f => (.pure f : Sem Flow) | .error e => .raise e).onRaise (cameBack X.env)).wrap K J gd lv) none (gd false) lv2 c p [] :: fs) s7 := by
          rintro n' ys' s₀' s7 σ7 H7 hn' ⟨acc7, c7, r7, I7⟩ n7
          obtain ⟨m', hm, w7⟩ := hN ys' σ7 H7 n7
          have I7 : Inv X (((S, lstObj acc7 c7) :: ip) ++ pinsAt fp s5.heap) σ7 H7 s7 := I7
          refine ih m' hm (i + 1) n' ys' s₀' s7 σ7 H7 hn' w7 ⟨acc7, c7, r7, I7.unpinned⟩ (T.keep _ _ _ st5 fun b hb o e => (I7.pin (b, o) (List.mem_append_right _ (List.mem_append_right _ (mem_pinsAt hb e)))).1) fun b hb => ?_
          obtain ⟨o, e, d⟩ := T.obj _ _ st5 b hb
          exact (I7.pin (b, o) (List.mem_append_right _ (List.mem_append_right _ (mem_pinsAt hb e)))).2.1
        have down : ∀ {ys' : List V} {σ7 : L2.St} {H7 : Hp} {s7 : Shared}, GI X S (ip ++ pinsAt fp s5.heap) ys' σ7 H7 s7 → GI X S ip ys' σ7 H7 s7 := by
          rintro ys' σ7 H7 s7 ⟨acc7, c7, r7, I7⟩
          have I7 : Inv X (((S, lstObj acc7 c7) :: ip) ++ pinsAt fp s5.heap) σ7 H7 s7 := I7
          exact ⟨acc7, c7, r7, I7.unpinned⟩
        refine hb.run A S (ip ++ pinsAt fp s5.heap) R n ys s₀ _ _ _ _ id id s6 σ6 H6 { D with nx := N, ct := N, bk := D.nx } ⟨g0.pn, ipn, g0.apart, g0.over, g0.split, g0.guard, rfl⟩ hn ⟨fun n' ys' s₀' s7 f hn' hs => ?_, fun n' s₀' x s7 hx => ee n' s₀' x s7 hx⟩ ⟨acc', c', r', I6⟩ q6
        cases f with
        | next =>
          obtain ⟨σ7, H7, I7, n7⟩ := hs
          exact seg_again rfl (again hn' I7 n7)
        | cont =>
          obtain ⟨σ7, H7, I7, n7⟩ := hs
          exact seg_again rfl (again hn' I7 n7)
        | brk =>
          obtain ⟨σ7, H7, I7, n7⟩ := hs
          exact seg_leaf (.ok .next) (k.ok n' ys' s₀' s7 .next hn' ⟨σ7, H7, down I7, n7⟩)
        | ret v =>
          obtain ⟨x7, σ7, H7, I7, r7, n7⟩ := hs
          exact seg_leaf (.ok (.ret v)) (k.ok n' ys' s₀' s7 (.ret v) hn' ⟨x7, σ7, H7, down I7, r7, n7⟩)
  exact loop m0 0 n ys s₀ s2 σ H2 hn w0 ⟨acc, cc, r, I2⟩ st2 fun b hb => (f2 b hb).1
def tGIf (c : TT) (t u : TGn) : TGn := fun D ys σ H => c σ H fun b H1 => if b = true then t D ys σ H1 else u D ys σ H1
theorem gs_if {test : Expr} {p q : List Stmt} {tc : TT} {t u : TGn} (hc : PT X test tc) (ha : GSs X p t) (hb : GSs X q u) : GS X (.If test p q pos) (tGIf tc t u) := by
  refine ⟨fun A S ip R n ys s₀ c fs K J gd lv s σ H D gc hn k hI ht => ?_⟩
  obtain ⟨acc, cc, r, I⟩ := hI
  rw [exec_If]
  show Seg _ A R _ n s₀ c (.at pos fun _ => ((isTrue test X.env (eval test X.env) >>= fun b => if b = true then execs p X.env else execs q X.env).wrap K J gd lv)) fs s
  refine seg_at ?_
  rw [Sem.bind_eq_wrap', Sem.wrap_wrap]
  refine seg_wrap ?_
  rw [gc.over]
  refine wpAny_mono (hc.run _ s σ H _ I ht) (fun b s1 h1 => ?_) fun x s' hx => k.exc n s₀ x s' hx
  obtain ⟨H1, I1, q1⟩ := h1
  cases b with
  | true => exact ha.run A S ip R n ys s₀ c fs K J gd lv s1 σ H1 D gc hn k ⟨acc, cc, r, I1⟩ q1
  | false => exact hb.run A S ip R n ys s₀ c fs K J gd lv s1 σ H1 D gc hn k ⟨acc, cc, r, I1⟩ q1
end
end L2

/-! generators over data: a generator def's body, its promise, list(g(..)) -/
namespace DL
open PySem L2 PyProof.Rows
structure DGEnds where
  nx : List D → DSt → Mu → Prop
  rt : List D → DK
  bk : List D → DSt → Mu → Prop := fun _ _ _ => False
  ct : List D → DSt → Mu → Prop := fun _ _ _ => False
  xc : XD → DSt → Mu → Prop := fun _ _ _ => False
abbrev DTGn := DGEnds → List D → DSt → Mu → Prop
abbrev DGEnds.ex (D0 : DGEnds) (τ : DSt) : DX := fun x M => D0.xc x τ M
def DGEnds.at (D0 : DGEnds) (ys : List D) : DEnds := { nx := D0.nx ys, rt := D0.rt ys, bk := D0.bk ys, ct := D0.ct ys, xc := D0.xc }
structure SitN (K : PySem.W.Frag) (W : WX) (ys : List D) (vs : List V) (τ : DSt) (M : Mu) (σ : L2.St) (H : Hp) (D0 : DGEnds) (D1 : GEnds) : Prop where
  ry : Reps K M H ys vs
  rs : RepS K M H τ σ
  co : Cor K M H
  nx : ∀ ys' τ' M' vs' σ' H', D0.nx ys' τ' M' → Reps K M' H' ys' vs' → RepS K M' H' τ' σ' → Cor K M' H' → Stp M H M' H' → D1.nx vs' σ' H'
  rt : ∀ ys' d M' vs' v H', D0.rt ys' d M' → Reps K M' H' ys' vs' → Rep K M' H' d v → Cor K M' H' → Stp M H M' H' → D1.rt vs' v H'
  bk : ∀ ys' τ' M' vs' σ' H', D0.bk ys' τ' M' → Reps K M' H' ys' vs' → RepS K M' H' τ' σ' → Cor K M' H' → Stp M H M' H' → D1.bk vs' σ' H'
  ct : ∀ ys' τ' M' vs' σ' H', D0.ct ys' τ' M' → Reps K M' H' ys' vs' → RepS K M' H' τ' σ' → Cor K M' H' → Stp M H M' H' → D1.ct vs' σ' H'
  xc : ∀ x τ' M' c d σ' H', D0.xc x τ' M' → RepX K M' H' x c d → RepS K M' H' τ' σ' → Cor K M' H' → Stp M H M' H' → W c d σ' H'
def lifN (K : PySem.W.Frag) (W : WX) (t : DTGn) : TGn := fun D1 vs σ H => ∃ ys τ M D0, SitN K W ys vs τ M σ H D0 D1 ∧ t D0 ys τ M
abbrev DN (X : Cx) (W : WX) (st : Stmt) (t : DTGn) : Prop := GS X st (lifN X.K W t)
abbrev DNs (X : Cx) (W : WX) (st : List Stmt) (t : DTGn) : Prop := GSs X st (lifN X.K W t)
theorem GS.of {X : Cx} {e : Stmt} {t t0 : TGn} (h : GS X e t0) (k : ∀ D ys σ H, t D ys σ H → t0 D ys σ H) : GS X e t :=
  ⟨fun A S ip R n ys s₀ c fs K J gd lv s σ H D g hn kk I q => h.run A S ip R n ys s₀ c fs K J gd lv s σ H D g hn kk I (k D ys σ H q)⟩
theorem GSs.of {X : Cx} {e : List Stmt} {t t0 : TGn} (h : GSs X e t0) (k : ∀ D ys σ H, t D ys σ H → t0 D ys σ H) : GSs X e t :=
  ⟨fun A S ip R n ys s₀ c fs K J gd lv s σ H D g hn kk I q => h.run A S ip R n ys s₀ c fs K J gd lv s σ H D g hn kk I (k D ys σ H q)⟩
section
variable {K : PySem.W.Frag} {W : WX} {ys : List D} {vs : List V} {τ : DSt} {M M1 : Mu} {σ σ1 : L2.St} {H H1 : Hp} {D0 : DGEnds} {D1 : GEnds}
theorem SitN.go (S : SitN K W ys vs τ M σ H D0 D1) {τ1 : DSt} (r : RepS K M1 H1 τ1 σ1) (c : Cor K M1 H1) (s : Stp M H M1 H1) : SitN K W ys vs τ1 M1 σ1 H1 D0 D1 :=
  ⟨S.ry.stp s, r, c, fun y a b v c d h q r' c' s' => S.nx y a b v c d h q r' c' (s.trans s'), fun y a b v c d h q r' c' s' => S.rt y a b v c d h q r' c' (s.trans s'), fun y a b v c d h q r' c' s' => S.bk y a b v c d h q r' c' (s.trans s'),
    fun y a b v c d h q r' c' s' => S.ct y a b v c d h q r' c' (s.trans s'), fun x a b c d e f h r' r2 c' s' => S.xc x a b c d e f h r' r2 c' (s.trans s')⟩
/-- an expression in a statement -/
theorem SitN.sub (S : SitN K W ys vs τ M σ H D0 D1) {γ δ : Type} {R1 : Mu → Hp → γ → δ → Prop} {t : DR γ} {G : γ → Mu → Prop} {Q1 : δ → Hp → Prop} (h : t τ M G (D0.ex τ))
    (k : ∀ d M1 v H1, G d M1 → R1 M1 H1 d v → SitN K W ys vs τ M1 σ H1 D0 D1 → Stp M H M1 H1 → Q1 v H1) : lif K W R1 t σ H Q1 :=
  ⟨τ, M, G, D0.ex τ, ⟨S.rs, S.co, fun d M' v H' g r c s => k d M' v H' g r (S.go (S.rs.stp s) c s) s, fun x M' c d H' h r c' s => S.xc x τ M' c d σ H' h r (S.rs.stp s) c' s⟩, h⟩
theorem SitN.next (S : SitN K W ys vs τ M σ H D0 D1) (h : D0.nx ys τ M) : D1.nx vs σ H := S.nx ys τ M vs σ H h S.ry S.rs S.co (Stp.refl M H)
theorem SitN.at (S : SitN K W ys vs τ M σ H D0 D1) : SitS K W τ M σ H (D0.at ys) (D1.at vs) :=
  ⟨S.rs, S.co, fun a b c d h r c' s => S.nx ys a b vs c d h (S.ry.stp s) r c' s, fun a b c d h r c' s => S.rt ys a b vs c d h (S.ry.stp s) r c' s, fun a b c d h r c' s => S.bk ys a b vs c d h (S.ry.stp s) r c' s,
    fun a b c d h r c' s => S.ct ys a b vs c d h (S.ry.stp s) r c' s, S.xc⟩
end
/-- a statement that hands out nothing -/
def nPlain (t : DTS) : DTGn := fun D ys τ M => t { nx := D.nx ys, rt := D.rt ys, bk := D.bk ys, ct := D.ct ys, xc := D.xc } τ M
def nPass : DTGn := fun D ys τ M => D.nx ys τ M
def nSeq (t u : DTGn) : DTGn := fun D ys τ M => t { D with nx := fun ys' τ' M' => u D ys' τ' M' } ys τ M
def nYield (te : DTE) : DTGn := fun D ys τ M => ys.length < 16777216 ∧ te τ M (fun d M1 => D.nx (ys ++ [d]) τ M1) (D.ex τ)
def nIf (c : DTT) (t u : DTGn) : DTGn := fun D ys τ M => c τ M (fun b M1 => if b = true then t D ys τ M1 else u D ys τ M1) (D.ex τ)
def nWhile (c : DTT) (tb : DTGn) : DTGn := fun D0 ys τ M => ∃ I : Nat → List D → DSt → Mu → Prop, (∃ n, I n ys τ M) ∧ ∀ n ys τ M, I n ys τ M →
  c τ M (fun b M1 => if b = true then tb { D0 with nx := fun ys' τ' M' => ∃ n', n' < n ∧ I n' ys' τ' M', ct := fun ys' τ' M' => ∃ n', n' < n ∧ I n' ys' τ' M', bk := D0.nx } ys τ M1 else D0.nx ys τ M1) (D0.ex τ)
def wForN (g : DTG) (tb : DTGn) (D0 : DGEnds) : List D → List D → DSt → Mu → Prop
  | [], ys, τ, M => D0.nx ys τ M
  | d :: ds, ys, τ, M => g d τ M (fun τ1 M1 => tb { D0 with nx := fun y t m => wForN g tb D0 ds y t m, ct := fun y t m => wForN g tb D0 ds y t m, bk := D0.nx } ys τ1 M1) (D0.ex τ)
def nFor (ti : DTI) (g : DTG) (tb : DTGn) : DTGn := fun D0 ys τ M => ti τ M (fun ds M1 => wForN g tb D0 ds ys τ M1) (D0.ex τ)
section
variable {X : Cx} {W : WX} {a b c e : Expr} {ta tb te : DTE} {tt : DTT} {st : Stmt} {sts : List Stmt} {t u : DTGn} {pos yp p : Pos}
theorem dn_plain {t : DTS} (h : DS X W st t) : DN X W st (nPlain t) := GS.of (gs_ps h) fun D1 vs σ H ⟨ys, τ, M, D0, S, h⟩ => ⟨τ, M, D0.at ys, S.at, h⟩
theorem dns_plain {t : DTS} (h : DSs X W sts t) : DNs X W sts (nPlain t) := GSs.of (gss_pss h) fun D1 vs σ H ⟨ys, τ, M, D0, S, h⟩ => ⟨τ, M, D0.at ys, S.at, h⟩
theorem dns_nil : DNs X W [] nPass := GSs.of gss_nil fun D1 vs σ H ⟨ys, τ, M, D0, S, h⟩ => S.next h
theorem dns_cons (h1 : DN X W st t) (h2 : DNs X W sts u) : DNs X W (st :: sts) (nSeq t u) := GSs.of (gss_cons h1 h2) fun D1 vs σ H ⟨ys, τ, M, D0, S, h⟩ =>
  ⟨ys, τ, M, { D0 with nx := fun ys' τ' M' => u D0 ys' τ' M' }, ⟨S.ry, S.rs, S.co, fun ys' τ' M' vs' σ' H' h q r c s => ⟨ys', τ', M', D0, ⟨q, r, c, fun y a b v c d h q r' c' s' => S.nx y a b v c d h q r' c' (s.trans s'), fun y a b v c d h q r' c' s' => S.rt y a b v c d h q r' c' (s.trans s'),
    fun y a b v c d h q r' c' s' => S.bk y a b v c d h q r' c' (s.trans s'), fun y a b v c d h q r' c' s' => S.ct y a b v c d h q r' c' (s.trans s'), fun x a b c d e f h r' r2 c' s' => S.xc x a b c d e f h r' r2 c' (s.trans s')⟩, h⟩, S.rt, S.bk, S.ct, S.xc⟩, h⟩
theorem dns_one (h1 : DN X W st t) : DNs X W [st] (nSeq t nPass) := dns_cons h1 dns_nil
theorem dn_yield (he : DE X W e te) (hco : X.env.scope.isCoroutine = false := by rfl) (hi : interactive X.env = false := by rfl) : DN X W (.Expr (.Yield (some e) yp) pos) (nYield te) :=
  GS.of (gs_yield he hco hi) fun D1 vs σ H ⟨ys, τ, M, D0, S, hl, h⟩ => ⟨by rw [S.ry.length, line24]; exact hl, S.sub h fun d M1 v H1 h1 r1 S1 s1 => S1.nx _ τ M1 _ σ H1 h1 (S1.ry.snoc r1) S1.rs S1.co (Stp.refl M1 H1)⟩
theorem dn_if {sa sb : List Stmt} (hc : DT X W c tt) (ha : DNs X W sa t) (hb : DNs X W sb u) : DN X W (.If c sa sb pos) (nIf tt t u) :=
  GS.of (gs_if hc ha hb) fun D1 vs σ H ⟨ys, τ, M, D0, S, h⟩ => S.sub h fun d M1 v H1 h1 r1 S1 s1 => by
    cases r1
    cases d with
    | true => exact ⟨ys, τ, M1, D0, S1, h1⟩
    | false => exact ⟨ys, τ, M1, D0, S1, h1⟩
theorem dn_while {c : Expr} {body : List Stmt} {tc : DTT} {tb : DTGn} (G : Gd X W) (hc : DT X W c tc) (hb : DNs X W body tb) : DN X W (.While c body [] pos) (nWhile tc tb) :=
  GS.of (gs_while G.own hc hb) fun D1 vs σ H ⟨ys, τ, M, D0, S, I, ⟨n0, i0⟩, turn⟩ => by
    refine ⟨fun n vs2 σ2 H2 => ∃ ys2 τ2 M2, SitN X.K W ys2 vs2 τ2 M2 σ2 H2 D0 D1 ∧ I n ys2 τ2 M2, ⟨n0, ys, τ, M, S, i0⟩, ?_⟩
    rintro n vs2 σ2 H2 ⟨ys2, τ2, M2, S2, i2⟩
    refine S2.sub (turn n ys2 τ2 M2 i2) fun b M3 v H3 h3 r3 S3 s3 => ?_
    cases r3
    cases b with
    | false => exact S3.next h3
    | true =>
      have go : ∀ {ys' : List D} {τ' : DSt} {M' : Mu} {vs' : List V} {σ' : L2.St} {H' : Hp}, Reps X.K M' H' ys' vs' → RepS X.K M' H' τ' σ' → Cor X.K M' H' → Stp M3 H3 M' H' → SitN X.K W ys' vs' τ' M' σ' H' D0 D1 := fun q r c s =>
        ⟨q, r, c, fun y a b v c d h q r' c' s' => S3.nx y a b v c d h q r' c' (s.trans s'), fun y a b v c d h q r' c' s' => S3.rt y a b v c d h q r' c' (s.trans s'), fun y a b v c d h q r' c' s' => S3.bk y a b v c d h q r' c' (s.trans s'),
          fun y a b v c d h q r' c' s' => S3.ct y a b v c d h q r' c' (s.trans s'), fun x a b c d e f h r' r2 c' s' => S3.xc x a b c d e f h r' r2 c' (s.trans s')⟩
      refine ⟨fun vs4 σ4 H4 => ∃ n', n' < n ∧ ∃ ys4 τ4 M4, SitN X.K W ys4 vs4 τ4 M4 σ4 H4 D0 D1 ∧ I n' ys4 τ4 M4, fun vs4 σ4 H4 ⟨n', l, q⟩ => ⟨n', l, q⟩, ys2, τ2, M3, { D0 with nx := fun ys' τ' M' => ∃ n', n' < n ∧ I n' ys' τ' M', ct := fun ys' τ' M' => ∃ n', n' < n ∧ I n' ys' τ' M', bk := D0.nx }, ⟨S3.ry, S3.rs, S3.co, ?_, S3.rt, S3.nx, ?_, S3.xc⟩, h3⟩
      · rintro ys' a b vs' c d ⟨n', l, q⟩ ry r c' s
        exact ⟨n', l, ys', a, b, go ry r c' s, q⟩
      · rintro ys' a b vs' c d ⟨n', l, q⟩ ry r c' s
        exact ⟨n', l, ys', a, b, go ry r c' s, q⟩
theorem dn_for {tg iter : Expr} {body : List Stmt} {ti : DTI} {g : DTG} {tb : DTGn} (G : Gd X W) (hi : DI X W tg iter ti) (hg : DG X W tg g) (hb : DNs X W body tb) (hs : ∀ x, foldedSetIterable iter X.env x = pure x := by intro _; rfl) :
    DN X W (.For tg iter body [] pos) (nFor ti g tb) :=
  GS.of (gs_for G.own G.calm hi hg hb hs) fun D1 vs σ H ⟨ys, τ, M, D0, S, h⟩ => S.sub h fun ds M1 J H1 h1 r1 S1 s1 => by
    refine ⟨fun i m vs2 σ2 H2 => m = ds.length - i ∧ i ≤ ds.length ∧ ∃ ys2 τ2 M2, Stp M1 H1 M2 H2 ∧ SitN X.K W ys2 vs2 τ2 M2 σ2 H2 D0 D1 ∧ wForN g tb D0 (ds.drop i) ys2 τ2 M2, ⟨ds.length, rfl, Nat.zero_le _, ys, τ, M1, Stp.refl M1 H1, S1, h1⟩, ?_⟩
    rintro i m vs2 σ2 H2 ⟨rfl, hi, ys2, τ2, M2, s2, S2, h2⟩
    obtain ⟨k1, k2, k3⟩ := r1 M2 H2 s2 S2.co
    by_cases hlt : i < ds.length
    · have e : ds.drop i = ds[i] :: ds.drop (i + 1) := List.drop_eq_getElem_cons hlt
      rw [e] at h2
      refine .inr ⟨k2 i hlt, fun vs3 σ3 H3 => ∃ ys3 τ3 M3, Stp M1 H1 M3 H3 ∧ SitN X.K W ys3 vs3 τ3 M3 σ3 H3 D0 D1 ∧ wForN g tb D0 (ds.drop (i + 1)) ys3 τ3 M3, fun vs3 σ3 H3 q => ⟨ds.length - (i + 1), by omega, rfl, hlt, q⟩, fun x H3 y => ?_⟩
      obtain ⟨y1, y2, y3⟩ := k3 i ds[i] x H3 (List.getElem?_eq_getElem hlt) y
      have S3 := S2.go (S2.rs.stp y3) y2 y3
      refine ⟨ds[i], τ2, M2, _, D0.ex τ2, y1, ⟨S3.rs, S3.co, fun τ4 M4 σ4 H4 h4 r4 c4 s4 => ?_, fun x M' c d H' h r c' s' => S3.xc x τ2 M' c d σ2 H' h r (S3.rs.stp s') c' s'⟩, h2⟩
      have S4 := S3.go r4 c4 s4
      have go : ∀ {ys' : List D} {τ' : DSt} {M' : Mu} {vs' : List V} {σ' : L2.St} {H' : Hp}, Reps X.K M' H' ys' vs' → RepS X.K M' H' τ' σ' → Cor X.K M' H' → Stp M4 H4 M' H' → SitN X.K W ys' vs' τ' M' σ' H' D0 D1 := fun q r c s =>
        ⟨q, r, c, fun y a b v c d h q r' c' s' => S4.nx y a b v c d h q r' c' (s.trans s'), fun y a b v c d h q r' c' s' => S4.rt y a b v c d h q r' c' (s.trans s'), fun y a b v c d h q r' c' s' => S4.bk y a b v c d h q r' c' (s.trans s'),
          fun y a b v c d h q r' c' s' => S4.ct y a b v c d h q r' c' (s.trans s'), fun x a b c d e f h r' r2 c' s' => S4.xc x a b c d e f h r' r2 c' (s.trans s')⟩
      exact ⟨ys2, τ4, M4, { D0 with nx := fun y t m => wForN g tb D0 (ds.drop (i + 1)) y t m, ct := fun y t m => wForN g tb D0 (ds.drop (i + 1)) y t m, bk := D0.nx }, ⟨S4.ry, S4.rs, S4.co, fun ys' a b vs' c d h q r c' s => ⟨ys', a, b, (s2.trans (y3.trans s4)).trans s, go q r c' s, h⟩, S4.rt, S4.nx,
        fun ys' a b vs' c d h q r c' s => ⟨ys', a, b, (s2.trans (y3.trans s4)).trans s, go q r c' s, h⟩, S4.xc⟩, h4⟩
    · have e : i = ds.length := by omega
      rw [e, List.drop_length] at h2
      exact .inl ⟨k1 i (by omega), S2.next h2⟩
end
/-- what may change is to change no more -/
def nFz (i : Nat) (t : DTGn) : DTGn := fun D0 ys τ M => match τ[i]? with
  | some (some (.ref a)) => (match M a with
    | some (.lst ds) => t D0 ys (τ.set i (some (.lst ds))) (del M a)
    | _ => False)
  | _ => False
theorem dns_fz {X : Cx} {W : WX} {sts : List Stmt} {t : DTGn} (j : Nat) (h : DNs X W sts t) : DNs X W sts (nFz j t) := GSs.of h fun D1 vs σ H ⟨ys, τ, M, D0, S, h⟩ => by
  unfold nFz at h
  split at h
  · rename_i a e
    obtain ⟨v, e2, r⟩ := S.rs.get e
    cases r
    split at h
    · rename_i ds e3
      obtain ⟨us, ha, ra⟩ := mu_lst S.co e3
      refine ⟨_, _, _, D0, S.go (RepS.reset (rep_lst ha del_same (ra.stp Stp.frz)) j (S.rs.stp Stp.frz) e2) S.co.frz Stp.frz, h⟩
    · exact h.elim
  · exact h.elim
/-! ### a generator def -/
abbrev DSpG := List D → Mu → (List D → Mu → Prop) → DX → Prop
def lspG (K : PySem.W.Frag) (sp : DSpG) : SpG := fun vs H Q E => ∃ ds M Q0 E0, Reps K M H ds vs ∧ Cor K M H ∧ sp ds M Q0 E0 ∧ (∀ ys M' us H', Q0 ys M' → Reps K M' H' ys us → Cor K M' H' → Stp M H M' H' → Q us H') ∧
  ∀ x M' c d H', E0 x M' → RepX K M' H' x c d → Cor K M' H' → Stp M H M' H' → E c d H'
theorem gen_ok {P : Program} {w : World} {K : PySem.W.Frag} {mg : Str → Option Value} {base : Heap} {x qual : Str} {st : Stmt} {f : Addr} {fd : FuncData} {N ps : List Str} {k : Nat} {sp : DSpG} {t : DTGn}
    (F : FunD K x qual (defArgs st) (defBody st) (defScope st) [] [] f fd) (S : GScope N ps (defScope st)) (len : ∀ ds M Q E, sp ds M Q E → ds.length = ps.length)
    (hd : ∀ (cdv : Value) (A : Around) (outer : List Env) (s : Shared) (H : Hp) (E : XK) (pn : List (Addr × Obj)), Gd (gcxOf P w K mg base N qual (defScope st) f cdv A outer s H E pn) (fun c d _ H => E c d H) → Room k (gcxOf P w K mg base N qual (defScope st) f cdv A outer s H E pn).A →
      DNs (gcxOf P w K mg base N qual (defScope st) f cdv A outer s H E pn) (fun c d _ H => E c d H) (defBody st) t)
    (hp : ∀ ds M Q E, sp ds M Q E → t { nx := fun ys _ M' => Q ys M', rt := fun ys d M' => d = .non ∧ Q ys M', xc := fun x _ M' => E x M' } [] (ds.map some ++ List.replicate (N.length - ps.length) none) M) :
    GFn P w K mg base (k + 1) f fd ps (lspG K sp) := by
  obtain ⟨oc, od, dV, kV, doc, pm, an, cdv, ct, osl, rfl, lk, hcd, _, _⟩ := F.ex
  refine gfn_of lk hcd S (fun vs H Q E h => ?_) (fun A outer s H vs Q E pn hr h => ?_)
  · obtain ⟨ds, M, Q0, E0, r, c, h, _⟩ := h
    rw [r.length]
    exact len ds M Q0 E0 h
  · obtain ⟨ds, M, Q0, E0, r, c, h, hq, he⟩ := h
    have hl := len ds M Q0 E0 h
    refine ⟨lifN K (fun c d _ H => E c d H) t, ?_, ?_⟩
    · refine hd cdv A outer s H E pn ?_ hr
      exact ⟨rfl, takes_gcx, by have := hr.un; show A.units + 3 + 64 < cLine; have e : (A.deeper (PyProof.Rows.envOfC qual (defScope st) s.heap.objs.size f cdv)).units = A.units + 3 := rfl; omega, owns_gcx, S.nd⟩
    · refine ⟨[], _, M, { nx := fun ys _ M' => Q0 ys M', rt := fun ys d M' => d = .non ∧ Q0 ys M', xc := fun x _ M' => E0 x M' }, ⟨.nil, ?_, c, fun ys' τ' M' vs' σ' H' h q r c' s' => hq ys' M' vs' H' h q c' s', fun ys' d M' vs' v H' h q r c' s' => ?_, fun _ _ _ _ _ _ h => h.elim, fun _ _ _ _ _ _ h => h.elim, fun x τ' M' c d σ' H' h r _ c' s' => he x M' c d H' h r c' s'⟩, hp ds M Q0 E0 h⟩
      · unfold L2.start
        rw [r.length, hl]
        exact RepS.start _ r
      · obtain ⟨rfl, h⟩ := h
        exact ⟨r, hq ys' M' vs' H' h q c' s'⟩
/-- the module's name x is a generator def that keeps sp -/
structure FnG (P : Program) (w : World) (K : PySem.W.Frag) (mg : Str → Option Value) (base : Heap) (k : Nat) (x : Str) (sp : DSpG) : Prop where
  ex : ∃ f fd ps, GFn P w K mg base k f fd ps (lspG K sp) ∧ mg x = some (.ref f) ∧ PySem.W.keepIn K (.ref f) = true ∧ Binds K fd ps []
theorem FnG.of {P : Program} {w : World} {K : PySem.W.Frag} {mg : Str → Option Value} {base : Heap} {k : Nat} {x : Str} {f : Addr} {fd : FuncData} {ps : List Str} {sp : DSpG} (F : GFn P w K mg base k f fd ps (lspG K sp)) (hm : mg x = some (.ref f))
    (hk : PySem.W.keepIn K (.ref f) = true) (hb : Binds K fd ps []) : FnG P w K mg base k x sp := ⟨f, fd, ps, F, hm, hk, hb⟩
/-- these own errors end no iterator -/
def NoSt (K : PySem.W.Frag) (Cs : List Str) : Prop := ∀ C ∈ Cs, PySem.W.subIn K (.ref (He.ga K C)) (.type "StopIteration") = some false
/-- list(g(..)): the list may change -/
def dListG (Cs : List Str) (sp : DSpG) (ta : DTA) : DTE := fun τ M Q E => ta τ M (fun ds M1 => sp ds M1 (fun ys M2 => ∀ p, M2 p = none → Q (.ref p) (put M2 p (.lst ys))) (fun x M2 => x.cls ∈ Cs ∧ E x M2)) E
section
variable {X : Cx} {W : WX} {e : Expr} {es : List Expr} {tl : DTA} {x : Str} {p pos pos' : Pos} {k : Nat} {Cs : List Str} {sp : DSpG}
theorem de_listG {p2 : Pos} (F : FnG X.prog X.w X.K X.mg X.base k x sp) (hns : NoSt X.K Cs) (G : Gd X W) (hr : Room (k + 3) X.A) (hmg : X.mg "list" = none) (ha : DA X W (e :: es) tl) (hgl : Gl X "list" := by rfl) (hg : Gl X x := by rfl) (hdb : (x == ("__debug__" : Str)) = false := by decide)
    (he : starEach (e :: es) X.env = (false, eval e X.env) :: starEach es X.env := by rfl) (hpl : (backTo pos' (starEach es X.env)).any (·.1) = false := by rfl)
    (he2 : starEach [.Call (.Name x p2) (e :: es) [] pos'] X.env = (false, eval (.Call (.Name x p2) (e :: es) [] pos') X.env) :: starEach [] X.env := by rfl) : DE X W (.Call (.Name "list" p) [.Call (.Name x p2) (e :: es) [] pos'] [] pos) (dListG Cs sp tl) := by
  obtain ⟨f, fd, ps, Fk, hm, hk, hb⟩ := F.ex
  refine ⟨fun pins s σ H Q I h => ?_⟩
  obtain ⟨τ, M, Q0, E0, S, h⟩ := h
  have hPG : PGen X k (.Call (.Name x p2) (e :: es) [] pos') (tCallG (lspG X.K sp) [] (fun c d H' => WE W σ c d H' ∧ PySem.W.subIn X.K c (.type "StopIteration") = some false) (lif X.K W (RA X.K) tl)) (fun c d H' => WE W σ c d H' ∧ PySem.W.subIn X.K c (.type "StopIteration") = some false) :=
    pgen_call Fk (hr.mono (by omega)) hg hm hk hb .nil ha hdb he hpl
  have nst : NoStop X.K (fun c d H' => WE W σ c d H' ∧ PySem.W.subIn X.K c (.type "StopIteration") = some false) := fun c d H' q => q.2
  refine wpAny_Call_Name_kw (ld_blt I hgl hmg PyProof.Rows.boot_list ?_ (by decide) (by decide))
  refine PyProof.Rows.callWith_type1 ?_ he2 rfl
  rw [he2]
  show wpAny _ _ (spliced ((false, eval (.Call (.Name x p2) (e :: es) [] pos') X.env) :: backTo pos (starEach [] X.env))) _ _ s
  refine PySem.Calls.spliced_cons (thn (hPG.run pins s σ H (fun us H2 => ∀ q, H2 q = none → Q (.ref q) (upd H2 q (.lst us))) I (S.sub h fun ds M1 vs H1 h1 r1 S1 s1 => ?_)) fun u s1 ⟨H1, sc, ex, I1, hex, hG⟩ => ?_)
  · refine ⟨ds, M1, _, _, by rw [List.append_nil]; exact r1, S1.co, h1, fun ys M' us H' q0 ry c st q hq => ?_, fun y M' c d H' ⟨m, q0⟩ r c' st => ⟨S1.e y M' c d H' q0 r c' st, ?_⟩⟩
    · exact S1.q _ _ _ _ (q0 q (c.free hq)) rfl (c.newM hq ⟨us, rfl, ry⟩) (st.trans (Stp.newM hq))
    · rw [r.1]
      exact hns _ m
  refine PySem.Calls.spliced_nil ?_
  have hsz : sc.heap.objs.size ≤ s1.heap.objs.size := by
    obtain ⟨a, g, c, _, h1, h2, _⟩ := hG
    exact Nat.le_trans h1 (Nat.le_of_lt h2)
  refine call_list_new hr I1.ok.frames hG (fun S s' acc c H' ys q0 q1 q2 hl q3 q4 q5 q6 q7 q8 => ?_) fun e s' g hc => ?_
  · exact ⟨.ref S, upd H' S (.lst ys), I1.drained (Nat.le_trans hsz q0) hl q1 q2 hex q3 q4 q5 q6 q7, rfl, q8 S q7⟩
  · have kin : X.K.In s'.heap := by
      obtain ⟨a, B, H', cls, d, _, fl, _, ub, _⟩ := id hc
      refine I1.ok.mod.kin.keeps fun b o eb => fl.1 b o (ub.keep b o (I1.bs b o eb).1 (I1.bs b o eb).2 fun hm => ?_)
      rcases List.mem_cons.mp (I1.stkSub b hm) with z | z
      · have h1 := Heap.lt_size eb
        have h2 := Nat.le_trans I1.ok.bsz I1.ok.above
        rw [z] at h1
        exact absurd (Nat.lt_of_lt_of_le h1 h2) (Nat.lt_irrefl _)
      · exact I1.ok.nofr eb z
    refine ⟨notStop_of nst kin hc, passAt G.tk σ pins H1 sc e _ I1 ?_⟩
    obtain ⟨a, B, H', cls, d, z1, fl, z2, ub, z3, z4, z5, z6⟩ := hc
    exact ⟨a, B, H', cls, d, z1, fl, z2, ub, z3, z4, allBare_setGen z5 rfl, z6.1⟩
theorem de_listG0 {p2 : Pos} (F : FnG X.prog X.w X.K X.mg X.base k x sp) (hns : NoSt X.K Cs) (G : Gd X W) (hr : Room (k + 3) X.A) (hmg : X.mg "list" = none) (hgl : Gl X "list" := by rfl) (hg : Gl X x := by rfl) (hdb : (x == ("__debug__" : Str)) = false := by decide)
    (he2 : starEach [.Call (.Name x p2) [] [] pos'] X.env = (false, eval (.Call (.Name x p2) [] [] pos') X.env) :: starEach [] X.env := by rfl) : DE X W (.Call (.Name "list" p) [.Call (.Name x p2) [] [] pos'] [] pos) (dListG Cs sp daNil) := by
  obtain ⟨f, fd, ps, Fk, hm, hk, hb⟩ := F.ex
  refine ⟨fun pins s σ H Q I h => ?_⟩
  obtain ⟨τ, M, Q0, E0, S, h⟩ := h
  have h1 : sp [] M (fun ys M2 => ∀ p, M2 p = none → Q0 (.ref p) (put M2 p (.lst ys))) (fun x M2 => x.cls ∈ Cs ∧ E0 x M2) := h
  have hPG : PGen X k (.Call (.Name x p2) [] [] pos') (tCallG (lspG X.K sp) [] (fun c d H' => WE W σ c d H' ∧ PySem.W.subIn X.K c (.type "StopIteration") = some false) tNil) (fun c d H' => WE W σ c d H' ∧ PySem.W.subIn X.K c (.type "StopIteration") = some false) := by
    refine ⟨fun pins s σ H cont I h => ?_⟩
    refine wpAny_Call_Name_kw (ld_glob I hg hm ?_ hdb)
    exact PySem.W.callWith_K0 I.kIn hk (run_gfn (us := []) (vs := []) Fk (hr.mono (by omega)) hb .nil I .nil h)
  have nst : NoStop X.K (fun c d H' => WE W σ c d H' ∧ PySem.W.subIn X.K c (.type "StopIteration") = some false) := fun c d H' q => q.2
  refine wpAny_Call_Name_kw (ld_blt I hgl hmg PyProof.Rows.boot_list ?_ (by decide) (by decide))
  refine PyProof.Rows.callWith_type1 ?_ he2 rfl
  rw [he2]
  show wpAny _ _ (spliced ((false, eval (.Call (.Name x p2) [] [] pos') X.env) :: backTo pos (starEach [] X.env))) _ _ s
  refine PySem.Calls.spliced_cons (thn (hPG.run pins s σ H (fun us H2 => ∀ q, H2 q = none → Q (.ref q) (upd H2 q (.lst us))) I ?_) fun u s1 ⟨H1, sc, ex, I1, hex, hG⟩ => ?_)
  · refine ⟨[], M, _, _, .nil, S.co, h1, fun ys M' us H' q0 ry c st q hq => ?_, fun y M' c d H' ⟨m, q0⟩ r c' st => ⟨S.e y M' c d H' q0 r c' st, ?_⟩⟩
    · exact S.q _ _ _ _ (q0 q (c.free hq)) rfl (c.newM hq ⟨us, rfl, ry⟩) (st.trans (Stp.newM hq))
    · rw [r.1]
      exact hns _ m
  refine PySem.Calls.spliced_nil ?_
  have hsz : sc.heap.objs.size ≤ s1.heap.objs.size := by
    obtain ⟨a, g, c, _, h1, h2, _⟩ := hG
    exact Nat.le_trans h1 (Nat.le_of_lt h2)
  refine call_list_new hr I1.ok.frames hG (fun S s' acc c H' ys q0 q1 q2 hl q3 q4 q5 q6 q7 q8 => ?_) fun e s' g hc => ?_
  · exact ⟨.ref S, upd H' S (.lst ys), I1.drained (Nat.le_trans hsz q0) hl q1 q2 hex q3 q4 q5 q6 q7, rfl, q8 S q7⟩
  · have kin : X.K.In s'.heap := by
      obtain ⟨a, B, H', cls, d, _, fl, _, ub, _⟩ := id hc
      refine I1.ok.mod.kin.keeps fun b o eb => fl.1 b o (ub.keep b o (I1.bs b o eb).1 (I1.bs b o eb).2 fun hm => ?_)
      rcases List.mem_cons.mp (I1.stkSub b hm) with z | z
      · have h1 := Heap.lt_size eb
        have h2 := Nat.le_trans I1.ok.bsz I1.ok.above
        rw [z] at h1
        exact absurd (Nat.lt_of_lt_of_le h1 h2) (Nat.lt_irrefl _)
      · exact I1.ok.nofr eb z
    refine ⟨notStop_of nst kin hc, passAt G.tk σ pins H1 sc e _ I1 ?_⟩
    obtain ⟨a, B, H', cls, d, z1, fl, z2, ub, z3, z4, z5, z6⟩ := hc
    exact ⟨a, B, H', cls, d, z1, fl, z2, ub, z3, z4, allBare_setGen z5 rfl, z6.1⟩
end
end DL

/-! how a generator's readings reduce; its loops by an invariant -/
namespace DL
open PySem L2
def callGK {K : DK} {L : DX} (_ : Lk K) (_ : Lk L) (Cs : List Str) (sp : DSpG) (ds : List D) (M : Mu) : Prop := sp ds M (fun ys M2 => ∀ p, M2 p = none → K (.ref p) (put M2 p (.lst ys))) (fun x M2 => x.cls ∈ Cs ∧ L x M2)
section
variable {nx bk ct : List D → DSt → Mu → Prop} {rt : List D → DK} {xc : XD → DSt → Mu → Prop} {D0 : DGEnds} {ys : List D} {τ : DSt} {M : Mu} {t : DTS} {a b : DTGn} {te : DTE} {c : DTT} {ti : DTI} {tg : DTG} {Cs : List Str} {sp : DSpG} {ta : DTA} {Q : DK} {E : DX}
theorem gnx_mk : DGEnds.nx ⟨nx, rt, bk, ct, xc⟩ = nx := funext fun _ => funext fun _ => funext fun _ => pq Iff.rfl
theorem grt_mk : DGEnds.rt ⟨nx, rt, bk, ct, xc⟩ = rt := funext fun _ => funext fun _ => funext fun _ => pq Iff.rfl
theorem gbk_mk : DGEnds.bk ⟨nx, rt, bk, ct, xc⟩ = bk := funext fun _ => funext fun _ => funext fun _ => pq Iff.rfl
theorem gct_mk : DGEnds.ct ⟨nx, rt, bk, ct, xc⟩ = ct := funext fun _ => funext fun _ => funext fun _ => pq Iff.rfl
theorem gxc_mk : DGEnds.xc ⟨nx, rt, bk, ct, xc⟩ = xc := funext fun _ => funext fun _ => funext fun _ => pq Iff.rfl
theorem gex_mk : DGEnds.ex ⟨nx, rt, bk, ct, xc⟩ τ = (fun x M => xc x τ M) := funext fun _ => funext fun _ => pq Iff.rfl
theorem u_npl : nPlain t D0 ys τ M = t { nx := D0.nx ys, rt := D0.rt ys, bk := D0.bk ys, ct := D0.ct ys, xc := D0.xc } τ M := pq Iff.rfl
theorem u_npass : nPass D0 ys τ M = D0.nx ys τ M := pq Iff.rfl
theorem u_nseq : nSeq a b D0 ys τ M = a { D0 with nx := fun ys' τ' M' => b D0 ys' τ' M' } ys τ M := pq Iff.rfl
theorem u_nyield : nYield te D0 ys τ M = (ys.length < 16777216 ∧ te τ M (fun d M1 => D0.nx (ys ++ [d]) τ M1) (D0.ex τ)) := pq Iff.rfl
theorem u_nif : nIf c a b D0 ys τ M = c τ M (fun z M1 => if z = true then a D0 ys τ M1 else b D0 ys τ M1) (D0.ex τ) := pq Iff.rfl
theorem u_nfor : nFor ti tg a D0 ys τ M = ti τ M (fun ds M1 => wForN tg a D0 ds ys τ M1) (D0.ex τ) := pq Iff.rfl
theorem u_listg : dListG Cs sp ta τ M Q E = ta τ M (fun ds M1 => callGK (K := Q) (L := E) ⟨⟩ ⟨⟩ Cs sp ds M1) E := pq Iff.rfl
theorem u_nfz {i : Nat} : nFz i a D0 ys τ M = fzK (K := fun p ds => a D0 ys (τ.set i (some (.lst ds))) (del M p)) ⟨⟩ τ[i]? M := by
  unfold nFz fzK
  cases τ[i]? with
  | none => rfl
  | some o => cases o with
    | none => rfl
    | some d => cases d <;> rfl
theorem wForN_by {ds : List D} (I : Nat → List D → DSt → Mu → Prop) (h0 : I 0 ys τ M)
    (step : ∀ i d ys τ M, ds[i]? = some d → I i ys τ M → ∀ nxt : List D → DSt → Mu → Prop, (∀ ys2 τ2 M2, I (i + 1) ys2 τ2 M2 → nxt ys2 τ2 M2) → tg d τ M (fun τ1 M1 => a { D0 with nx := nxt, ct := nxt, bk := D0.nx } ys τ1 M1) (D0.ex τ))
    (done : ∀ ys τ M, I ds.length ys τ M → D0.nx ys τ M) : wForN tg a D0 ds ys τ M := by
  have all : ∀ (rest pre : List D) (ys : List D) (τ : DSt) (M : Mu), ds = pre ++ rest → I pre.length ys τ M → wForN tg a D0 rest ys τ M := by
    intro rest
    induction rest with
    | nil =>
      intro pre ys τ M e h
      rw [List.append_nil] at e
      rw [← e] at h
      exact done ys τ M h
    | cons d rest ih =>
      intro pre ys τ M e h
      refine step pre.length d ys τ M (by rw [e]; simp) h _ fun ys2 τ2 M2 h2 => ?_
      refine ih (pre ++ [d]) ys2 τ2 M2 (by rw [e]; simp) ?_
      rw [List.length_append]
      exact h2
  exact all ds [] ys τ M rfl h0
/-- a while loop by an invariant and what becomes less -/
theorem nWhile_by (I : Nat → List D → DSt → Mu → Prop) (n : Nat) (h0 : I n ys τ M)
    (step : ∀ n ys τ M, I n ys τ M → ∀ nxt : List D → DSt → Mu → Prop, (∀ n' ys2 τ2 M2, n' < n → I n' ys2 τ2 M2 → nxt ys2 τ2 M2) → c τ M (fun z M1 => if z = true then a { D0 with nx := nxt, ct := nxt, bk := D0.nx } ys τ M1 else D0.nx ys τ M1) (D0.ex τ)) : nWhile c a D0 ys τ M :=
  ⟨I, ⟨n, h0⟩, fun n ys τ M h => step n ys τ M h _ fun n' ys2 τ2 M2 l q => ⟨n', l, q⟩⟩
end
abbrev GRet (Q : List D → Mu → Prop) (E : DX) : DGEnds := { nx := fun ys _ M' => Q ys M', rt := fun ys d M' => d = .non ∧ Q ys M', xc := fun x _ M' => E x M' }
end DL

namespace Lw
open PySem L2 DL
def top (i : Nat) : Stmt := PySem.Challenge.pw_lentahead_k18_promises_changed_and_order.main.body.getD i (.Pass ⟨0, 0, 0, 0⟩)
def clsBody : Stmt → List Stmt
  | .ClassDef _ _ _ b _ _ _ _ _ _ _ => b
  | _ => []
def mth (i j : Nat) : Stmt := (clsBody (top i)).getD j (.Pass ⟨0, 0, 0, 0⟩)
abbrev s_l_begin : Stmt := top 20
abbrev s_l_draw : Stmt := top 21
abbrev s_l_pick : Stmt := top 22
abbrev s_InvalidPromise_init : Stmt := mth 6 0
abbrev s_checked_word : Stmt := top 16
abbrev s_Promise_init : Stmt := mth 17 1
abbrev s_l_sign : Stmt := top 25
abbrev s_l_text : Stmt := top 26
abbrev s_l_same_row : Stmt := top 23
abbrev s_l_same : Stmt := top 24
abbrev s_Promise_look_setter : Stmt := mth 17 4
abbrev s_Promise_reserved_setter : Stmt := mth 17 6
abbrev s_Promise_change : Stmt := mth 17 7
abbrev s_l_changed : Stmt := top 27
abbrev s_Promise_str : Stmt := mth 17 8
abbrev s_Promise_look : Stmt := mth 17 3
abbrev s_Promise_reserved : Stmt := mth 17 5
abbrev s_l_shows : Stmt := top 28
abbrev s_Promise_le : Stmt := mth 17 10
abbrev s_Promise_eq : Stmt := mth 17 9
abbrev s_l_compared : Stmt := top 29
abbrev s_all_promises : Stmt := top 18
abbrev s_l_four : Stmt := top 30
abbrev s_law : Stmt := top 31
def fn : List He.DefD := [⟨("_law_begin", none), "_law_begin", "_law_begin", defArgs (top 20), defBody (top 20), defScope (top 20), [], []⟩,
  ⟨("_law_draw", none), "_law_draw", "_law_draw", defArgs (top 21), defBody (top 21), defScope (top 21), [], []⟩,
  ⟨("_law_pick", none), "_law_pick", "_law_pick", defArgs (top 22), defBody (top 22), defScope (top 22), [], []⟩,
  ⟨("checked_word", none), "checked_word", "checked_word", defArgs (top 16), defBody (top 16), defScope (top 16), [], []⟩,
  ⟨("Promise", some "__init__"), "__init__", "Promise.__init__", defArgs (mth 17 1), defBody (mth 17 1), defScope (mth 17 1), [], []⟩,
  ⟨("_law_sign", none), "_law_sign", "_law_sign", defArgs (top 25), defBody (top 25), defScope (top 25), [], []⟩,
  ⟨("_law_text", none), "_law_text", "_law_text", defArgs (top 26), defBody (top 26), defScope (top 26), [], []⟩,
  ⟨("_law_same_row", none), "_law_same_row", "_law_same_row", defArgs (top 23), defBody (top 23), defScope (top 23), [], []⟩,
  ⟨("_law_same", none), "_law_same", "_law_same", defArgs (top 24), defBody (top 24), defScope (top 24), [], []⟩,
  ⟨("Promise", some "change"), "change", "Promise.change", defArgs (mth 17 7), defBody (mth 17 7), defScope (mth 17 7), [], []⟩,
  ⟨("_law_changed", none), "_law_changed", "_law_changed", defArgs (top 27), defBody (top 27), defScope (top 27), [], []⟩,
  ⟨("Promise", some "__str__"), "__str__", "Promise.__str__", defArgs (mth 17 8), defBody (mth 17 8), defScope (mth 17 8), [], []⟩,
  ⟨("_law_shows", none), "_law_shows", "_law_shows", defArgs (top 28), defBody (top 28), defScope (top 28), [], []⟩,
  ⟨("Promise", some "__le__"), "__le__", "Promise.__le__", defArgs (mth 17 10), defBody (mth 17 10), defScope (mth 17 10), [], []⟩,
  ⟨("Promise", some "__eq__"), "__eq__", "Promise.__eq__", defArgs (mth 17 9), defBody (mth 17 9), defScope (mth 17 9), [], []⟩,
  ⟨("_law_compared", none), "_law_compared", "_law_compared", defArgs (top 29), defBody (top 29), defScope (top 29), [], []⟩,
  ⟨("all_promises", none), "all_promises", "all_promises", defArgs (top 18), defBody (top 18), defScope (top 18), [], []⟩,
  ⟨("_law_four", none), "_law_four", "_law_four", defArgs (top 30), defBody (top 30), defScope (top 30), [], []⟩,
  ⟨("law", none), "law", "law", defArgs (top 31), defBody (top 31), defScope (top 31), [], []⟩]
def fx : List He5.DefA := [⟨fun K => DL.psA K (He.ga K "Promise") "look", "look", "Promise.look", defArgs (mth 17 4), defBody (mth 17 4), defScope (mth 17 4), [], []⟩,
  ⟨fun K => DL.psA K (He.ga K "Promise") "reserved", "reserved", "Promise.reserved", defArgs (mth 17 6), defBody (mth 17 6), defScope (mth 17 6), [], []⟩,
  ⟨fun K => DL.pgA K (He.ga K "Promise") "look", "look", "Promise.look", defArgs (mth 17 3), defBody (mth 17 3), defScope (mth 17 3), [], []⟩,
  ⟨fun K => DL.pgA K (He.ga K "Promise") "reserved", "reserved", "Promise.reserved", defArgs (mth 17 5), defBody (mth 17 5), defScope (mth 17 5), [], []⟩]
def fe : List DefE := [⟨"InvalidPromise", "InvalidPromise.__init__", defArgs (mth 6 0), defBody (mth 6 0), defScope (mth 6 0), PySem.Challenge.pw_lentahead_k18_promises_changed_and_order.main.file⟩]
def gb : List (PySem.W.Frag → Bool) := [DL.psetB "Promise" "look",
  DL.psetB "Promise" "reserved",
  DL.propB "Promise" "look",
  DL.propB "Promise" "reserved",
  DL.errCB "InvalidPromise" "text",
  DL.cmpCB "Promise",
  DL.errTB ["InvalidPromise"] ["InvalidPlace", "NotBeneath", "InvalidEntry", "InvalidRule", "InvalidPromise", "InvalidProgram", "InvalidName", "OverPower", "Stale", "NotSharing", "NotMendable", "Unsound", "TooMany", "LentError"],
  fun K => (["InvalidPromise"] : List Str).all fun C => He.eqO (PySem.W.findIn K (.ref (He.ga K C)) "text") (some none),
  DL.isCB "Promise",
  DL.cvtB "Promise" "WORDS" ["fresh", "kept"],
  DL.readB "Promise"]
def ts : List He.Tab := []
def fa : List He.Fa := [.glo "_law_begin", .glo "_law_draw", .glo "_law_pick", .glo "checked_word", .meth "Promise" "__init__", .glo "_law_sign", .glo "_law_text", .glo "_law_same_row", .glo "_law_same", .meth "Promise" "change", .glo "_law_changed", .meth "Promise" "__str__", .glo "_law_shows", .meth "Promise" "__le__", .meth "Promise" "__eq__", .glo "_law_compared", .glo "all_promises", .glo "_law_four", .glo "law", .free "ValueError", .free "all", .free "bool", .free "int", .free "isinstance", .free "len", .free "list", .free "range", .free "str", .free "super", .free "tuple", .mkr "Promise", .glo "Promise", .cls "Promise", .noat "Promise" "_look", .noat "Promise" "_reserved", .glo "InvalidPromise", .glo "InvalidPlace", .glo "NotBeneath", .glo "InvalidEntry", .glo "InvalidRule", .glo "InvalidProgram", .glo "InvalidName", .glo "OverPower", .glo "Stale", .glo "NotSharing", .glo "NotMendable", .glo "Unsound", .glo "TooMany", .glo "LentError"]
abbrev R : PySem.W.OpenRow := PySem.W.OpenLaw.row PySem.Challenge.rw_lentahead_k18_promises_changed_and_order
abbrev hk : PySem.W.Hook := DL.hookQ 6 fa fn gb ts fx fe
def ob (s : PySem.W.SharedT) : DL.AlE := DL.obsEQ 6 fa fn gb ts fx fe (HandSHeadRun.getT s)
theorem ob_eq (s : PySem.W.SharedT) : ob s = hk.obs s.abs := DL.obsEQ_eq (HandSHeadRun.getT_eq s)
def names0 : List PySem.Str := ["LentError", "InvalidPlace", "NotBeneath", "InvalidEntry", "InvalidRule", "InvalidPromise", "InvalidProgram", "InvalidName", "OverPower", "Stale", "NotSharing", "NotMendable", "Unsound", "TooMany", "checked_word", "Promise", "all_promises", "_law_begin", "_law_draw", "_law_pick", "_law_same_row", "_law_same", "_law_sign", "_law_text", "_law_changed", "_law_shows", "_law_compared", "_law_four"]
def names : List PySem.Str := names0
theorem run_l (w : World) : ∀ os : OsState, (HandSHeadRun.endF (HandSHeadRun.stepQ (HandSHeadRun.denQ HandSHeadRun.tabQ) R.prog w) 30000 R.prog w os).map (fun s => HandSHeadRun.looksF R.prog (PySem.W.boot_heap w.params) s.abs) = some true := by
  intro os
  kernel_rfl
theorem run_s (w : World) : ∀ os : OsState, (HandSHeadRun.endF (HandSHeadRun.stepQ (HandSHeadRun.denQ HandSHeadRun.tabQ) R.prog w) 30000 R.prog w os).map (fun s => HandSHeadRun.seenQ (PySem.W.view R.prog [31]) names (importedModules R.prog.main.body) (fun s => PySem.W.xlAt (PySem.W.view R.prog [31]) [] s && PySem.W.recOk R.records s) s.abs) = some (PySem.W.openGood (PySem.W.view R.prog [31]) names) := by
  intro os
  kernel_rfl
theorem run_o (w : World) : ∀ os : OsState, (HandSHeadRun.endF (HandSHeadRun.stepQ (HandSHeadRun.denQ HandSHeadRun.tabQ) R.prog w) 30000 R.prog w os).map ob = some (hk.val w) := by
  intro os
  kernel_rfl
theorem run (w : World) : HandSHeadRun.RunEq R (PySem.W.view R.prog [31]) hk ob 30000 names w := DL.run_of (run_l w) (run_s w) (run_o w)
end Lw
namespace DL
open PySem L2
local macro_rules | `(tactic| walk_at "dl") => `(tactic| try simp (config := { proj := false }) only [↓ex_mk, ↓nx_mk, ↓rt_mk, ↓bk_mk, ↓ct_mk, ↓xc_mk, ↓u_c, ↓u_op, ↓u_un, ↓u_and, ↓u_or, ↓u_not, ↓u_if, ↓u_anil, ↓u_acons, ↓u_lst, ↓u_lstM, ↓u_tup, ↓u_call, ↓u_sl, ↓u_onone, ↓u_cb, ↓u_mt, ↓u_mt0, ↓u_pass, ↓u_seq, ↓u_set, ↓u_asg, ↓u_drop, ↓u_ret, ↓u_retN, ↓u_ifs, ↓u_brk, ↓u_cnt, ↓u_for, ↓u_gname, ↓u_gsub, ↓u_fs, ↓u_fmt, ↓u_js0, ↓u_js, ↓u_em, ↓u_yes, ↓u_never, ↓u_ref, ↓u_forR, ↓u_star, ↓u_dict, ↓u_dict0, ↓u_dp0, ↓u_dp1, ↓u_forK, ↓u_lock, ↓u_kd, ↓u_fld, ↓u_setF, ↓u_make, ↓u_binL, ↓u_binR, ↓u_inO, ↓u_getO, ↓u_setO, ↓u_augO, ↓u_prp, ↓u_inv, ↓u_meth, ↓u_keys, ↓u_try, ↓u_cm, ↓u_makeV, ↓r_enum, ↓r_own, ↓u_raise, ↓u_tryas, ↓u_ca, ↓u_xf, ↓u_idxC, su_mk,
  ↓r_var, ↓r_test, ↓r_andV, ↓r_orV, ↓r_notV, ↓r_tru, ↓r_frz, ↓r_osome, ↓r_any, ↓r_scr, scr_c, ↓r_rng1, ↓r_rng2, ↓r_fz, wipeD,
  onSome_s, onBl_b, onInt_i, onStr_s, onVar_s, onML_l, onML2_l, onML2_d, onDK_d, fmt_s, fmt_i, tru_n, tru_b, tru_i, tru_s, tru_l, tru_t, tru_r, frz_r, sl_s, sl_l, sl_t, sl_r, add_i, add_s, add_l, add_t, add_rl, add_lr, sub_i, mul_i, div_i, mod_i, pow_i, neg_i, cmp_i, eq_i, eq_s, eq_b, eq_n, eq_l, eq_t, eq_rl, eq_lr, eq_ni, eq_in, eq_ns, eq_sn, eq_nb, eq_bn, eq_is, eq_si,
  ix_l, ix_t, ix_s, ix_ri, ix_rs, in_ss, in_l, in_t, in_ir, in_sr, isB_t, isB_f, ltS_s, gtS_s, sorted_l, keyK_s, keyK_i, u_dget, lenOR_r, listOR_r, isn_n, isn_b, isn_i, isn_s, isn_r, isn_l, isn_t, len_s, len_c, len_l, len_t, len_r, int_i, int_b, min_ii, max_ii, list_l, list_t, list_r, list_c, listM_l, listM_c, listM_t, listM_r, isi_, isi_k, ty_n, ty_b, ty_i, ty_s, ty_l, ty_t, it_s, it_l, it_r, itM_l, itM_d, app_r, rev_r, ends_s, ins_r, set_rs, str_i, str_s, ext_l, pop_r, clr_r, star_l, star_t, star_r, onRef_r, onML3_l, onML3_d, onML3_f, onDR_d, onDR_f, onFK_f, join_l, join_t, join_r, starts_s, r_gtup, r_glst, r_gnil, r_gcons, set_r, items_s, items_l, items_t, rng1_i, rng2_i, fz_r, addM_l, addM_rl, onIns_i, onLst_l, isIns_r, isInsM_i, noF_r, noFM_i, rows_r, lenO_r, listO_r, listOM_r, isCK_i, isCK_l, isC_r, isC_s, isC_i, isC_b, isC_n, isC_l, isC_t, putG_0, putG_1, lk_1, onCl_c, onEnum_l, index_l, strO_r, cmpO_r, pop1_r, tuple_l, tuple_t, divmod_i, upper_s, indexT_t, onExc_e, isE_t, isE_c, isE_v, zip_1,
  List.map_cons, List.map_nil, List.cons_append, List.nil_append, List.length_cons, List.length_nil, List.replicate, List.getElem?_cons_zero, List.getElem?_cons_succ, List.set_cons_zero, List.set_cons_succ, id, decide_eq_true_eq, if_true, if_false, Bool.false_eq_true, reduceIte, Bool.not_true, Bool.not_false, true_and, Nat.reduceAdd, Nat.reduceSub, Int.reduceToNat, Int.toNat_natCast, put_same, put_put, atI_0, atI_1, atI_2, atI_3, atI_4, ixN_40, ixN_41, ixN_42, ixN_43])
abbrev Ret (Q : DK) (E : DX) : DEnds := { nx := fun _ M' => Q .non M', rt := Q, xc := fun x _ M' => E x M' }
/-! ### the reader of draws -/
def Src (M : Mu) (a : Addr) : Prop := ∃ (ns : List Int) (at_ r d : Int), M a = some (.lst [.lst (ns.map D.int), .int at_, .int r, .int d]) ∧ 0 ≤ at_
def SrcTo (a : Addr) (M M' : Mu) : Prop := Src M' a ∧ ∀ b, b ≠ a → M' b = M b
theorem SrcTo.trans {a : Addr} {M M1 M2 : Mu} (h1 : SrcTo a M M1) (h2 : SrcTo a M1 M2) : SrcTo a M M2 := ⟨h2.1, fun b hb => (h2.2 b hb).trans (h1.2 b hb)⟩
theorem SrcTo.refl {a : Addr} {M : Mu} (h : Src M a) : SrcTo a M M := ⟨h, fun _ _ => rfl⟩
theorem src_other {a p : Addr} {M : Mu} {m : MO} (h : Src M a) (hp : M p = none) : Src (put M p m) a ∧ a ≠ p := by
  obtain ⟨ns, t, r, d, e, h0⟩ := h
  have hn : a ≠ p := fun z => by rw [z, hp] at e; cases e
  exact ⟨⟨ns, t, r, d, by rw [put_ne hn]; exact e, h0⟩, hn⟩
def sp_l_begin : DSp := fun ds M Q _ => ∃ (ns : List Int), ds = [.scr ns] ∧ ∀ p M', M p = none → SrcTo p M M' → Q (.ref p) M'
def sp_l_draw : DSp := fun ds M Q _ => ∃ (a : Addr) (n : Int), ds = [.ref a, .int n] ∧ Src M a ∧ 0 < n ∧ n < 1073741824 ∧ ∀ i M', 0 ≤ i → i < n → SrcTo a M M' → Q (.int i) M'
/-- the items of a row of things (a list that may change, too) -/
def rowI (M : Mu) (a : Addr) : D → Option (List D)
  | .ref q => if q = a then none else match M q with
    | some (.lst ds) => some ds
    | _ => none
  | d => itemsD d
theorem rowI_of {M : Mu} {a : Addr} {row : D} {xs : List D} (h : itemsD row = some xs) : rowI M a row = some xs := by
  cases row <;> first | exact h | cases h
theorem rowI_ref {M : Mu} {a q : Addr} {xs : List D} (n : q ≠ a) (h : M q = some (.lst xs)) : rowI M a (.ref q) = some xs := by
  show (if q = a then none else match M q with
    | some (.lst ds) => some ds
    | _ => none) = some xs
  rw [if_neg n, h]
def sp_l_pick : DSp := fun ds M Q _ => ∃ (a : Addr) (row : D) (xs : List D), ds = [.ref a, row] ∧ rowI M a row = some xs ∧ 0 < xs.length ∧ xs.length < 1000000 ∧ Src M a ∧ ∀ d M', d ∈ xs → SrcTo a M M' → Q d M'
theorem draw_ {a : Addr} {n : Int} {M : Mu} {Q : DK} {E : DX} (h : Src M a) (h0 : 0 < n) (h1 : n < 1073741824) (k : ∀ i M', 0 ≤ i → i < n → SrcTo a M M' → Q (.int i) M') : sp_l_draw [.ref a, .int n] M Q E := ⟨a, n, rfl, h, h0, h1, k⟩
theorem pick_ {a : Addr} {row : D} {xs : List D} {M : Mu} {Q : DK} {E : DX} (h : Src M a) (hi : itemsD row = some xs) (h0 : 0 < xs.length) (h1 : xs.length < 1000000) (k : ∀ d M', d ∈ xs → SrcTo a M M' → Q d M') : sp_l_pick [.ref a, row] M Q E := ⟨a, row, xs, rfl, rowI_of hi, h0, h1, h, k⟩
def w_l_begin : DTS := dRet (dLstM (daCons (dCB gList (daCons (dVar 0) (daNil))) (daCons (dC (.int 0)) (daCons (dUn gNeg (dC (.int 1))) (daCons (dC (.int 0)) (daNil))))))
def w_l_draw_c1 : DTS := dSeq (dAsg (dOp gAdd (dOp gIx (dVar 0) (dC (.int 1))) (dC (.int 1))) (dgSub (dVar 0) (dC (.int 1)) gSetA)) (dSeq (dAsg (dUn gNeg (dC (.int 1))) (dgSub (dVar 0) (dC (.int 2)) gSetA)) (dRet (dVar 3)))
def w_l_draw_c2 : DTS := dSeq (dAsg (dOp gAdd (dOp gIx (dVar 0) (dC (.int 3))) (dC (.int 1))) (dgSub (dVar 0) (dC (.int 3)) gSetA)) (dSeq (dIfS (dTest (dOp gGe (dVar 2) (dOp gPow (dC (.int 10)) (dC (.int 18))))) (dSeq (dSet 3 (dOp gMod (dCB gInt1 (daCons (dOp gIx (dVar 0) (dC (.int 2))) (daNil))) (dVar 1))) (dSeq (dAsg (dOp gDiv (dOp gIx (dVar 0) (dC (.int 2))) (dVar 1)) (dgSub (dVar 0) (dC (.int 2)) gSetA)) (dIfS (dAnd (dTest (dOp gGt (dOp gIx (dVar 0) (dC (.int 2))) (dC (.int 0)))) (dTest (dOp gLt (dOp gIx (dVar 0) (dC (.int 3))) (dC (.int 60))))) (dRet (dVar 3)) (dPass)))) (dIfS (dTest (dOp gEq (dOp gIx (dVar 0) (dC (.int 3))) (dC (.int 1)))) (dSeq (dSet 4 (dOp gMod (dCB gInt1 (daCons (dOp gAdd (dOp gAdd (dOp gMul (dVar 2) (dC (.int 48271))) (dOp gMul (dOp gIx (dVar 0) (dC (.int 1))) (dC (.int 7919)))) (dC (.int 12345))) (daNil))) (dC (.int 2147483647)))) (dRet (dOp gMod (dCB gInt1 (daCons (dOp gMod (dCB gInt1 (daCons (dOp gAdd (dOp gMul (dVar 4) (dC (.int 69621))) (dC (.int 101))) (daNil))) (dC (.int 1000003))) (daNil))) (dVar 1)))) (dSeq (dSet 4 (dOp gMod (dCB gInt1 (daCons (dOp gAdd (dOp gAdd (dOp gMul (dVar 2) (dC (.int 16807))) (dOp gMul (dOp gIx (dVar 0) (dC (.int 1))) (dC (.int 104729)))) (dC (.int 54321))) (daNil))) (dC (.int 2147483399)))) (dSet 3 (dOp gMod (dCB gInt1 (daCons (dOp gMod (dCB gInt1 (daCons (dOp gAdd (dOp gMul (dVar 4) (dC (.int 40692))) (dC (.int 211))) (daNil))) (dC (.int 999983))) (daNil))) (dVar 1)))))) (w_l_draw_c1))
def w_l_draw_c3 : DTS := dSeq (dIfS (dTest (dOp gLt (dOp gIx (dVar 0) (dC (.int 2))) (dC (.int 0)))) (dSeq (dAsg (dVar 2) (dgSub (dVar 0) (dC (.int 2)) gSetA)) (dAsg (dC (.int 0)) (dgSub (dVar 0) (dC (.int 3)) gSetA))) (dPass)) (w_l_draw_c2)
def w_l_draw : DTS := dSeq (dIfS (dTest (dOp gGe (dOp gIx (dVar 0) (dC (.int 1))) (dCB gLen (daCons (dOp gIx (dVar 0) (dC (.int 0))) (daNil))))) (dRet (dC (.int 0))) (dPass)) (dSeq (dSet 2 (dOp gIx (dOp gIx (dVar 0) (dC (.int 0))) (dOp gIx (dVar 0) (dC (.int 1))))) (dSeq (dIfS (dTest (dOp gLt (dVar 2) (dC (.int 0)))) (dSet 2 (dOp gSub (dUn gNeg (dC (.int 1))) (dVar 2))) (dPass)) (w_l_draw_c3)))
def w_l_pick : DTS := dRet (dOp gIx (dVar 1) (dCall sp_l_draw (daCons (dVar 0) (daCons (dCB gLen (daCons (dVar 1) (daNil))) (daNil)))))
theorem p_l_begin : ∀ ds M Q E, sp_l_begin ds M Q E → w_l_begin (Ret Q E) (ds.map some ++ List.replicate (1 - 1) none) M := by
  rintro ds M Q E ⟨ns, rfl, hQ⟩
  unfold w_l_begin
  walk_at "dl"
  exact ⟨by decide, fun p hp => hQ p _ hp ⟨⟨ns, 0, -1, 0, put_same, by decide⟩, fun b hb => put_ne hb⟩⟩
theorem src_mk {M M0 : Mu} {a : Addr} {ns : List Int} {t r d : Int} (h : M a = some (.lst [.lst (ns.map D.int), .int t, .int r, .int d])) (h0 : 0 ≤ t) (hb : ∀ b, b ≠ a → M b = M0 b) : SrcTo a M0 M := ⟨⟨ns, t, r, d, h, h0⟩, hb⟩
theorem draw_c1 {a : Addr} {n j : Int} {x4 : Option D} {x2 : Option D} {ns : List Int} {t r d : Int} {M0 M : Mu} {Q : DK} {E : DX} (hM : M a = some (.lst [.lst (ns.map D.int), .int t, .int r, .int d])) (ht : 0 ≤ t) (hb : ∀ b, b ≠ a → M b = M0 b)
    (hj : 0 ≤ j ∧ j < n) (hQ : ∀ i M', 0 ≤ i → i < n → SrcTo a M0 M' → Q (.int i) M') : w_l_draw_c1 (Ret Q E) [some (.ref a), some (.int n), x2, some (.int j), x4] M := by
  unfold w_l_draw_c1
  walk_at "dl"
  try simp only [hM, atI_1]
  walk_at "dl"
  try simp only [hM, atI_1]
  walk_at "dl"
  walk_at "dl"
  try simp only [hM]
  walk_at "dl"
  try simp only [hM]
  walk_at "dl"
  walk_at "dl"
  try simp only [ixN_of (n := 4) (i := 1) (by decide) (by decide), put_same]
  walk_at "dl"
  try simp only [ixN_of (n := 4) (i := 1) (by decide) (by decide), put_same]
  walk_at "dl"
  walk_at "dl"
  try simp only [ixN_of (n := 4) (i := 2) (by decide) (by decide)]
  walk_at "dl"
  try simp only [ixN_of (n := 4) (i := 2) (by decide) (by decide)]
  walk_at "dl"
  walk_at "dl"
  refine hQ j _ hj.1 hj.2 (src_mk put_same (by omega) fun b z => ?_)
  rw [put_ne z, hb b z]
theorem draw_c2 {a : Addr} {n m : Int} {x3 x4 : Option D} {ns : List Int} {t r d : Int} {M0 M : Mu} {Q : DK} {E : DX} (hM : M a = some (.lst [.lst (ns.map D.int), .int t, .int r, .int d])) (ht : 0 ≤ t) (hb : ∀ b, b ≠ a → M b = M0 b)
    (hn : 0 < n ∧ n < 1073741824) (hQ : ∀ i M', 0 ≤ i → i < n → SrcTo a M0 M' → Q (.int i) M') : w_l_draw_c2 (Ret Q E) [some (.ref a), some (.int n), some (.int m), x3, x4] M := by
  have mod : ∀ x : Int, 0 ≤ x % n ∧ x % n < n := fun x => ⟨Int.emod_nonneg _ (by omega), Int.emod_lt_of_pos _ hn.1⟩
  unfold w_l_draw_c2
  walk_at "dl"
  try simp only [hM, atI_3]
  walk_at "dl"
  try simp only [hM, atI_3]
  walk_at "dl"
  walk_at "dl"
  try simp only [hM]
  walk_at "dl"
  try simp only [hM]
  walk_at "dl"
  walk_at "dl"
  try simp only [ixN_of (n := 4) (i := 3) (by decide) (by decide)]
  walk_at "dl"
  try simp only [ixN_of (n := 4) (i := 3) (by decide) (by decide)]
  walk_at "dl"
  walk_at "dl"
  try simp only [put_same, atI_1, atI_2, atI_3]
  walk_at "dl"
  try simp only [put_same, atI_1, atI_2, atI_3]
  walk_at "dl"
  walk_at "dl"
  refine ⟨by unfold CPow; decide, ?_⟩
  by_cases hm : (10 : Int) ^ 18 ≤ m
  · rw [if_pos hm]
    refine ⟨hn.1, ⟨hn.1, hn.2⟩, ?_⟩
    try simp only [ixN_of (n := 4) (i := 2) (by decide) (by decide), put_same, put_put]
    walk_at "dl"
    try simp only [ixN_of (n := 4) (i := 2) (by decide) (by decide), put_same, put_put]
    walk_at "dl"
    walk_at "dl"
    try simp only [put_same, atI_2, atI_3]
    walk_at "dl"
    try simp only [put_same, atI_2, atI_3]
    walk_at "dl"
    walk_at "dl"
    by_cases h1 : 0 < r / n
    · rw [if_pos h1]
      by_cases h2 : d + 1 < 60
      · rw [if_pos h2]
        refine hQ _ _ (mod r).1 (mod r).2 (src_mk put_same ht fun b z => ?_)
        rw [put_ne z, hb b z]
      · rw [if_neg h2]
        refine draw_c1 (M0 := M0) put_same ht (fun b z => by rw [put_ne z, hb b z]) (mod r) hQ
    · rw [if_neg h1]
      exact draw_c1 (M0 := M0) put_same ht (fun b z => by rw [put_ne z, hb b z]) (mod r) hQ
  · rw [if_neg hm]
    have c : ∀ x : Int, 0 < x → x < 2 ^ 64 → ∀ y, CMul y x := fun x h1 h2 y => .inr ⟨by omega, h2⟩
    by_cases h1 : d + 1 = 1
    · rw [if_pos h1]
      refine ⟨c _ (by decide) (by decide) _, c _ (by decide) (by decide) _, by decide, c _ (by decide) (by decide) _, by decide, hn.1, ?_⟩
      refine hQ _ _ (mod _).1 (mod _).2 (src_mk put_same ht fun b z => ?_)
      rw [put_ne z, hb b z]
    · rw [if_neg h1]
      refine ⟨c _ (by decide) (by decide) _, c _ (by decide) (by decide) _, by decide, c _ (by decide) (by decide) _, by decide, hn.1, ?_⟩
      exact draw_c1 (M0 := M0) put_same ht (fun b z => by rw [put_ne z, hb b z]) (mod _) hQ
theorem draw_c3 {a : Addr} {n m : Int} {x3 x4 : Option D} {ns : List Int} {t r d : Int} {M0 M : Mu} {Q : DK} {E : DX} (hM : M a = some (.lst [.lst (ns.map D.int), .int t, .int r, .int d])) (ht : 0 ≤ t) (hb : ∀ b, b ≠ a → M b = M0 b)
    (hn : 0 < n ∧ n < 1073741824) (hQ : ∀ i M', 0 ≤ i → i < n → SrcTo a M0 M' → Q (.int i) M') : w_l_draw_c3 (Ret Q E) [some (.ref a), some (.int n), some (.int m), x3, x4] M := by
  unfold w_l_draw_c3
  walk_at "dl"
  try simp only [hM, atI_2]
  walk_at "dl"
  try simp only [hM, atI_2]
  walk_at "dl"
  walk_at "dl"
  by_cases h1 : r < 0
  · rw [if_pos h1]
    try simp only [hM]
    walk_at "dl"
    try simp only [hM]
    walk_at "dl"
    walk_at "dl"
    try simp only [ixN_of (n := 4) (i := 2) (by decide) (by decide), put_same]
    walk_at "dl"
    try simp only [ixN_of (n := 4) (i := 2) (by decide) (by decide), put_same]
    walk_at "dl"
    walk_at "dl"
    try simp only [ixN_of (n := 4) (i := 3) (by decide) (by decide)]
    walk_at "dl"
    try simp only [ixN_of (n := 4) (i := 3) (by decide) (by decide)]
    walk_at "dl"
    exact draw_c2 (M0 := M0) put_same ht (fun b z => by rw [put_ne z, hb b z]) hn hQ
  · rw [if_neg h1]
    exact draw_c2 (M0 := M0) hM ht hb hn hQ
theorem p_l_draw : ∀ ds M Q E, sp_l_draw ds M Q E → w_l_draw (Ret Q E) (ds.map some ++ List.replicate (5 - 2) none) M := by
  rintro ds M Q E ⟨a, n, rfl, ⟨ns, t, r, d, hM, ht⟩, h0, h1, hQ⟩
  unfold w_l_draw
  walk_at "dl"
  try simp only [hM, atI_1]
  walk_at "dl"
  try simp only [hM, atI_1]
  walk_at "dl"
  walk_at "dl"
  try simp only [hM, atI_0]
  walk_at "dl"
  try simp only [hM, atI_0]
  walk_at "dl"
  walk_at "dl"
  try simp only [List.length_map]
  walk_at "dl"
  try simp only [List.length_map]
  walk_at "dl"
  by_cases hl : (ns.length : Int) ≤ t
  · rw [if_pos hl]
    exact hQ 0 M (by decide) h0 (src_mk hM ht fun _ _ => rfl)
  · rw [if_neg hl]
    try simp only [hM, atI_0]
    walk_at "dl"
    try simp only [hM, atI_0]
    walk_at "dl"
    walk_at "dl"
    try simp only [hM, atI_1]
    walk_at "dl"
    try simp only [hM, atI_1]
    walk_at "dl"
    walk_at "dl"
    obtain ⟨x, _, e, _⟩ := atI_is (xs := ns) ht (by omega)
    try simp only [atI_map, e, Option.map_some]
    walk_at "dl"
    try simp only [atI_map, e, Option.map_some]
    walk_at "dl"
    walk_at "dl"
    by_cases hx : x < 0
    · rw [if_pos hx]
      exact draw_c3 hM ht (fun _ _ => rfl) ⟨h0, h1⟩ hQ
    · rw [if_neg hx]
      exact draw_c3 hM ht (fun _ _ => rfl) ⟨h0, h1⟩ hQ
theorem p_l_pick : ∀ ds M Q E, sp_l_pick ds M Q E → w_l_pick (Ret Q E) (ds.map some ++ List.replicate (2 - 2) none) M := by
  rintro ds M Q E ⟨a, row, xs, rfl, hi, h0, h1, hs, hQ⟩
  unfold w_l_pick
  walk_at "dl"
  cases row with
  | lst ds =>
    have hi : some ds = some xs := hi
    cases hi
    walk_at "dl"
    refine draw_ hs (by omega) (by omega) fun i M' i0 i1 hM' => ?_
    obtain ⟨x, hx, e, _⟩ := atI_is (xs := xs) i0 i1
    walk_at "dl"
    try simp only [e]
    walk_at "dl"
    try simp only [e]
    walk_at "dl"
    exact hQ x M' hx hM'
  | tup ds =>
    have hi : some ds = some xs := hi
    cases hi
    walk_at "dl"
    refine draw_ hs (by omega) (by omega) fun i M' i0 i1 hM' => ?_
    obtain ⟨x, hx, e, _⟩ := atI_is (xs := xs) i0 i1
    walk_at "dl"
    try simp only [e]
    walk_at "dl"
    try simp only [e]
    walk_at "dl"
    exact hQ x M' hx hM'
  | str z =>
    have hi : some (z.map fun c => D.str [c]) = some xs := hi
    cases hi
    rw [List.length_map] at h0 h1
    walk_at "dl"
    refine ⟨by omega, ?_⟩
    refine draw_ hs (by omega) (by omega) fun i M' i0 i1 hM' => ?_
    obtain ⟨x, hx, e, _⟩ := atI_is (xs := z) i0 i1
    walk_at "dl"
    try simp only [e]
    walk_at "dl"
    try simp only [e]
    walk_at "dl"
    exact ⟨by omega, hQ (.str [x]) M' (List.mem_map.mpr ⟨x, hx, rfl⟩) hM'⟩
  | ref q =>
    have hi : (if q = a then none else match M q with
      | some (.lst ds) => some ds
      | _ => none) = some xs := hi
    split at hi
    · cases hi
    · rename_i n
      split at hi
      · rename_i ds e
        cases hi
        try simp only [e]
        walk_at "dl"
        try simp only [e]
        walk_at "dl"
        refine draw_ hs (by omega) (by omega) fun i M' i0 i1 hM' => ?_
        obtain ⟨x, hx, e2, _⟩ := atI_is (xs := xs) i0 i1
        have e3 : M' q = some (.lst xs) := by rw [hM'.2 q n]; exact e
        walk_at "dl"
        try simp only [e3, e2]
        walk_at "dl"
        try simp only [e3, e2]
        walk_at "dl"
        exact hQ x M' hx hM'
      · cases hi
  | _ => cases hi
end DL

namespace DL
open PySem L2
local macro_rules | `(tactic| walk_at "dl") => `(tactic| try simp (config := { proj := false }) only [↓ex_mk, ↓nx_mk, ↓rt_mk, ↓bk_mk, ↓ct_mk, ↓xc_mk, ↓u_c, ↓u_op, ↓u_un, ↓u_and, ↓u_or, ↓u_not, ↓u_if, ↓u_anil, ↓u_acons, ↓u_lst, ↓u_lstM, ↓u_tup, ↓u_call, ↓u_sl, ↓u_onone, ↓u_cb, ↓u_mt, ↓u_mt0, ↓u_pass, ↓u_seq, ↓u_set, ↓u_asg, ↓u_drop, ↓u_ret, ↓u_retN, ↓u_ifs, ↓u_brk, ↓u_cnt, ↓u_for, ↓u_gname, ↓u_gsub, ↓u_fs, ↓u_fmt, ↓u_js0, ↓u_js, ↓u_em, ↓u_yes, ↓u_never, ↓u_ref, ↓u_forR, ↓u_star, ↓u_dict, ↓u_dict0, ↓u_dp0, ↓u_dp1, ↓u_forK, ↓u_lock, ↓u_kd, ↓u_fld, ↓u_setF, ↓u_make, ↓u_binL, ↓u_binR, ↓u_inO, ↓u_getO, ↓u_setO, ↓u_augO, ↓u_prp, ↓u_inv, ↓u_meth, ↓u_keys, ↓u_try, ↓u_cm, ↓u_makeV, ↓r_enum, ↓r_own, ↓u_raise, ↓u_tryas, ↓u_ca, ↓u_xf, ↓u_idxC, su_mk,
  ↓r_var, ↓r_test, ↓r_andV, ↓r_orV, ↓r_notV, ↓r_tru, ↓r_frz, ↓r_osome, ↓r_any, ↓r_scr, scr_c, ↓r_rng1, ↓r_rng2, ↓r_fz, wipeD,
  onSome_s, onBl_b, onInt_i, onStr_s, onVar_s, onML_l, onML2_l, onML2_d, onDK_d, fmt_s, fmt_i, tru_n, tru_b, tru_i, tru_s, tru_l, tru_t, tru_r, frz_r, sl_s, sl_l, sl_t, sl_r, add_i, add_s, add_l, add_t, add_rl, add_lr, sub_i, mul_i, div_i, mod_i, pow_i, neg_i, cmp_i, eq_i, eq_s, eq_b, eq_n, eq_l, eq_t, eq_rl, eq_lr, eq_ni, eq_in, eq_ns, eq_sn, eq_nb, eq_bn, eq_is, eq_si,
  ix_l, ix_t, ix_s, ix_ri, ix_rs, in_ss, in_l, in_t, in_ir, in_sr, isB_t, isB_f, ltS_s, gtS_s, sorted_l, keyK_s, keyK_i, u_dget, lenOR_r, listOR_r, isn_n, isn_b, isn_i, isn_s, isn_r, isn_l, isn_t, len_s, len_c, len_l, len_t, len_r, int_i, int_b, min_ii, max_ii, list_l, list_t, list_r, list_c, listM_l, listM_c, listM_t, listM_r, isi_, isi_k, ty_n, ty_b, ty_i, ty_s, ty_l, ty_t, it_s, it_l, it_r, itM_l, itM_d, app_r, rev_r, ends_s, ins_r, set_rs, str_i, str_s, ext_l, pop_r, clr_r, star_l, star_t, star_r, onRef_r, onML3_l, onML3_d, onML3_f, onDR_d, onDR_f, onFK_f, join_l, join_t, join_r, starts_s, r_gtup, r_glst, r_gnil, r_gcons, set_r, items_s, items_l, items_t, rng1_i, rng2_i, fz_r, addM_l, addM_rl, onIns_i, onLst_l, isIns_r, isInsM_i, noF_r, noFM_i, rows_r, lenO_r, listO_r, listOM_r, isCK_i, isCK_l, isC_r, isC_s, isC_i, isC_b, isC_n, isC_l, isC_t, putG_0, putG_1, lk_1, onCl_c, onEnum_l, index_l, strO_r, cmpO_r, pop1_r, tuple_l, tuple_t, divmod_i, upper_s, indexT_t, onExc_e, isE_t, isE_c, isE_v, zip_1,
  List.map_cons, List.map_nil, List.cons_append, List.nil_append, List.length_cons, List.length_nil, List.replicate, List.getElem?_cons_zero, List.getElem?_cons_succ, List.set_cons_zero, List.set_cons_succ, id, decide_eq_true_eq, if_true, if_false, Bool.false_eq_true, reduceIte, Bool.not_true, Bool.not_false, true_and, Nat.reduceAdd, Nat.reduceSub, Int.reduceToNat, Int.toNat_natCast, put_same, put_put, atI_0, atI_1, atI_2, atI_3, atI_4, ixN_40, ixN_41, ixN_42, ixN_43])
/-! ### equal, and of the same kinds -/
mutual
def eqD : D → D → Bool
  | .non, .non => true
  | .bl a, .bl b => a == b
  | .int a, .int b => a == b
  | .str a, .str b => a == b
  | .lst a, .lst b => eqDs a b
  | .tup a, .tup b => eqDs a b
  | .ref a, .ref b => a == b
  | .ty a, .ty b => a == b
  | .scr a, .scr b => a == b
  | .cl a, .cl b => decide (a = b)
  | .exc a b c e f, .exc a' b' c' e' f' => decide (a = a') && (decide (b = b') && (decide (c = c') && (decide (e = e') && eqDs f f')))
  | _, _ => false
def eqDs : List D → List D → Bool
  | [], [] => true
  | a :: as, b :: bs => eqD a b && eqDs as bs
  | _, _ => false
end
mutual
theorem eqD_refl : ∀ d : D, eqD d d = true
  | .non => rfl
  | .bl a => by simp [eqD]
  | .int a => by simp [eqD]
  | .str a => by simp [eqD]
  | .ref a => by simp [eqD]
  | .ty a => by simp [eqD]
  | .scr a => by simp [eqD]
  | .cl a => by simp [eqD]
  | .exc a b c e f => by unfold eqD; rw [eqDs_refl f]; simp
  | .lst a => by unfold eqD; exact eqDs_refl a
  | .tup a => by unfold eqD; exact eqDs_refl a
theorem eqDs_refl : ∀ d : List D, eqDs d d = true
  | [] => rfl
  | a :: as => by unfold eqDs; rw [eqD_refl a, eqDs_refl as]; rfl
end
mutual
theorem eqD_eq : ∀ {a b : D}, eqD a b = true → a = b
  | .non, b, h => by cases b <;> first | rfl | cases h
  | .bl a, b, h => by cases b <;> first | (rw [show a = _ from eq_of_beq h]) | cases h
  | .int a, b, h => by cases b <;> first | (rw [show a = _ from eq_of_beq h]) | cases h
  | .str a, b, h => by cases b <;> first | (rw [show a = _ from eq_of_beq h]) | cases h
  | .ref a, b, h => by cases b <;> first | (rw [show a = _ from eq_of_beq h]) | cases h
  | .ty a, b, h => by cases b <;> first | (rw [show a = _ from eq_of_beq h]) | cases h
  | .scr a, b, h => by cases b <;> first | (rw [show a = _ from eq_of_beq h]) | cases h
  | .cl a, b, h => by cases b <;> first | (rw [show a = _ from of_decide_eq_true h]) | cases h
  | .exc a b c e f, y, h => by
    cases y with
    | exc a' b' c' e' f' =>
      unfold eqD at h
      simp only [Bool.and_eq_true, decide_eq_true_iff] at h
      obtain ⟨h1, h2, h3, h4, h5⟩ := h
      rw [h1, h2, h3, h4, eqDs_eq h5]
    | _ => cases h
  | .lst a, b, h => by cases b <;> first | (rw [show a = _ from eqDs_eq h]) | cases h
  | .tup a, b, h => by cases b <;> first | (rw [show a = _ from eqDs_eq h]) | cases h
theorem eqDs_eq : ∀ {a b : List D}, eqDs a b = true → a = b
  | [], b, h => by cases b <;> first | rfl | cases h
  | a :: as, b, h => by
    cases b with
    | nil => cases h
    | cons b bs =>
      obtain ⟨h1, h2⟩ := ba (show (eqD a b && eqDs as bs) = true from h)
      rw [eqD_eq h1, eqDs_eq h2]
end
mutual
/-- plain data of that depth, lists of bounded length -/
def pln : Nat → D → Bool
  | _, .ref _ => false
  | _, .ty _ => false
  | _, .scr _ => false
  | _, .cl _ => false
  | _, .exc _ _ _ _ _ => false
  | n, .lst ds => decide (ds.length ≤ 1000000) && plnIn n ds
  | n, .tup ds => decide (ds.length ≤ 1000000) && plnIn n ds
  | _, _ => true
def plnIn : Nat → List D → Bool
  | 0, _ => false
  | n + 1, ds => plns n ds
def plns : Nat → List D → Bool
  | _, [] => true
  | n, d :: ds => pln n d && plns n ds
end
theorem plns_all : ∀ {n : Nat} {ds : List D}, plns n ds = true → ∀ d ∈ ds, pln n d = true
  | n, [], _, d, hd => by cases hd
  | n, e :: ds, h, d, hd => by
    obtain ⟨h1, h2⟩ := ba (show (pln n e && plns n ds) = true from by unfold plns at h; exact h)
    rcases List.mem_cons.mp hd with rfl | hd
    · exact h1
    · exact plns_all h2 d hd
theorem plns_of : ∀ {n : Nat} {ds : List D}, (∀ d ∈ ds, pln n d = true) → plns n ds = true
  | n, [], _ => by unfold plns; rfl
  | n, e :: ds, h => by
    unfold plns
    rw [h e (List.mem_cons_self ..), plns_of fun d hd => h d (List.mem_cons_of_mem _ hd)]
    rfl
def isPl : D → Bool
  | .ref _ => false
  | .ty _ => false
  | .scr _ => false
  | .cl _ => false
  | .exc _ _ _ _ _ => false
  | _ => true
theorem pln_is {n : Nat} {d : D} (h : pln n d = true) : isPl d = true := by
  cases d <;> first | rfl | (unfold pln at h; cases h)
/-- the data, lists that may change read as they are -/
def vw (M : Mu) : Nat → D → D
  | n + 1, .ref a => (match M a with
    | some (.lst ds) => .lst (ds.map (vw M n))
    | _ => .ref a)
  | n + 1, .lst ds => .lst (ds.map (vw M n))
  | n + 1, .tup ds => .tup (ds.map (vw M n))
  | _, d => d
theorem vw_pln (M : Mu) : ∀ {n : Nat} {d : D}, pln n d = true → vw M n d = d
  | 0, d, h => by cases d <;> rfl
  | n + 1, d, h => by
    have go : ∀ ds : List D, plnIn (n + 1) ds = true → ds.map (vw M n) = ds := fun ds hp => by
      have q := plns_all (show plns n ds = true by unfold plnIn at hp; exact hp)
      calc ds.map (vw M n) = ds.map id := List.map_congr_left fun d hd => vw_pln M (q d hd)
        _ = ds := List.map_id _
    cases d with
    | ref a => unfold pln at h; cases h
    | lst ds => show D.lst (ds.map (vw M n)) = _; rw [go ds (ba (show (decide (ds.length ≤ 1000000) && plnIn (n + 1) ds) = true by unfold pln at h; exact h)).2]
    | tup ds => show D.tup (ds.map (vw M n)) = _; rw [go ds (ba (show (decide (ds.length ≤ 1000000) && plnIn (n + 1) ds) = true by unfold pln at h; exact h)).2]
    | _ => rfl
def sp_l_same (n : Nat) : DSp := fun ds M Q _ => ∃ x y, ds = [x, y] ∧ pln n (vw M n x) = true ∧ pln n (vw M n y) = true ∧ Q (.bl (eqD (vw M n x) (vw M n y))) M
def rowOf (M : Mu) : D → Option (List D)
  | .lst ds => some ds
  | .tup ds => some ds
  | .ref a => (match M a with
    | some (.lst ds) => some ds
    | _ => none)
  | _ => none
def sp_l_same_row (n : Nat) : DSp := fun ds M Q _ => ∃ x y xs ys, ds = [x, y] ∧ rowOf M x = some xs ∧ rowOf M y = some ys ∧ pln n (vw M n x) = true ∧ pln n (vw M n y) = true ∧ Q (.bl (eqDs (xs.map (vw M (n - 1))) (ys.map (vw M (n - 1))))) M
def w_l_same_row_b1 (n : Nat) : DTS := dIfS (dNot (dTru (dCall (sp_l_same n) (daCons (dOp gIx (dVar 0) (dVar 2)) (daCons (dOp gIx (dVar 1) (dVar 2)) (daNil)))))) (dRet (dC (.bl false))) (dPass)
def w_l_same_row (n : Nat) : DTS := dSeq (dIfS (dTest (dOp gNe (dCB gLen (daCons (dVar 0) (daNil))) (dCB gLen (daCons (dVar 1) (daNil))))) (dRet (dC (.bl false))) (dPass)) (dSeq (dFor (diRng1 (daCons (dCB gLen (daCons (dVar 1) (daNil))) (daNil))) (dgName 2) (w_l_same_row_b1 n)) (dRet (dC (.bl true))))
def w_l_same (n : Nat) : DTS := dSeq (dIfS (dTest (dOp gIsN (dVar 1) (dC .non))) (dRet (dOp gIsN (dVar 0) (dC .non))) (dPass)) (dSeq (dIfS (dTru (dCB gIsi (daCons (dVar 1) (daCons (dC (.ty "bool")) (daNil))))) (dRet (dAndV (dCB gIsi (daCons (dVar 0) (daCons (dC (.ty "bool")) (daNil)))) (dOp gEq (dVar 0) (dVar 1)))) (dPass)) (dSeq (dIfS (dTru (dCB gIsi (daCons (dVar 1) (daCons (dC (.ty "int")) (daNil))))) (dRet (dAndV (dCB gIsi (daCons (dVar 0) (daCons (dC (.ty "int")) (daNil)))) (dAndV (dNotV (dCB gIsi (daCons (dVar 0) (daCons (dC (.ty "bool")) (daNil))))) (dOp gEq (dVar 0) (dVar 1))))) (dPass)) (dSeq (dIfS (dTru (dCB gIsi (daCons (dVar 1) (daCons (dC (.ty "str")) (daNil))))) (dRet (dAndV (dCB gIsi (daCons (dVar 0) (daCons (dC (.ty "str")) (daNil)))) (dOp gEq (dVar 0) (dVar 1)))) (dPass)) (dSeq (dIfS (dTru (dCB gIsi (daCons (dVar 1) (daCons (dC (.ty "list")) (daNil))))) (dRet (dAndV (dCB gIsi (daCons (dVar 0) (daCons (dC (.ty "list")) (daNil)))) (dCall (sp_l_same_row n) (daCons (dVar 0) (daCons (dVar 1) (daNil)))))) (dPass)) (dRet (dAndV (dCB gIsi (daCons (dVar 0) (daCons (dC (.ty "tuple")) (daNil)))) (dCall (sp_l_same_row n) (daCons (dVar 0) (daCons (dVar 1) (daNil))))))))))
theorem eqDs_len : ∀ {xs ys : List D}, xs.length ≠ ys.length → eqDs xs ys = false
  | [], [], h => absurd rfl h
  | [], _ :: _, _ => rfl
  | _ :: _, [], _ => rfl
  | x :: xs, y :: ys, h => by
    unfold eqDs
    rw [eqDs_len (fun e => h (by rw [List.length_cons, List.length_cons, e])), Bool.and_false]
theorem eqDs_take : ∀ {xs ys : List D} {k : Nat} {a b : D}, xs[k]? = some a → ys[k]? = some b → eqDs (xs.take (k + 1)) (ys.take (k + 1)) = (eqDs (xs.take k) (ys.take k) && eqD a b)
  | [], _, k, _, _, h, _ => by cases h
  | _ :: _, [], k, _, _, _, h => by cases h
  | x :: xs, y :: ys, 0, a, b, h1, h2 => by
    cases h1; cases h2
    simp [eqDs]
  | x :: xs, y :: ys, k + 1, a, b, h1, h2 => by
    rw [List.take_succ_cons, List.take_succ_cons, List.take_succ_cons, List.take_succ_cons]
    unfold eqDs
    rw [eqDs_take (k := k) (by simpa using h1) (by simpa using h2), Bool.and_assoc]
theorem eqDs_ne : ∀ {xs ys : List D} {k : Nat} {a b : D}, xs[k]? = some a → ys[k]? = some b → eqD a b = false → eqDs xs ys = false
  | [], _, k, _, _, h, _, _ => by cases h
  | _ :: _, [], k, _, _, _, h, _ => by cases h
  | x :: xs, y :: ys, 0, a, b, h1, h2, h => by
    cases h1; cases h2
    unfold eqDs
    rw [h, Bool.false_and]
  | x :: xs, y :: ys, k + 1, a, b, h1, h2, h => by
    unfold eqDs
    rw [eqDs_ne (k := k) (by simpa using h1) (by simpa using h2) h, Bool.and_false]
theorem row_len {M : Mu} {x : D} {xs : List D} {Q : DK} (h : rowOf M x = some xs) (q : Q (.int xs.length) M) : gLen [x] M Q := by
  cases x with
  | lst ds => cases h; exact q
  | tup ds => cases h; exact q
  | ref a =>
    show (match M a with
      | some (.lst ds) => Q (.int ds.length) M
      | some (.dK kvs) => Q (.int kvs.length) M
      | _ => False)
    have h2 : (match M a with
      | some (.lst ds) => some ds
      | _ => none) = some xs := h
    split at h2
    · rename_i ds e; cases h2; rw [e]; exact q
    · cases h2
  | _ => cases h
theorem row_ix {M : Mu} {x : D} {xs : List D} {Q : DK} {k : Nat} {a : D} (h : rowOf M x = some xs) (e : xs[k]? = some a) (q : Q a M) : gIx x (.int (k : Int)) M Q := by
  have hk := (List.getElem?_eq_some_iff.mp e).1
  have e2 : atI xs (k : Int) = some a := by rw [atI_nat hk, ← List.getElem?_eq_getElem hk, e]
  cases x with
  | lst ds => cases h; show (match atI xs (k : Int) with | some d => Q d M | none => False); rw [e2]; exact q
  | tup ds => cases h; show (match atI xs (k : Int) with | some d => Q d M | none => False); rw [e2]; exact q
  | ref b =>
    show (match M b with
      | some (.lst ds) => (match atI ds (k : Int) with | some d => Q d M | none => False)
      | some (.dK kvs) => (match lookK kvs (.inl (k : Int)) with | some d => Q d M | none => False)
      | some (.fK kvs _) => (match lookK kvs (.inl (k : Int)) with | some d => Q d M | none => False)
      | _ => False)
    have h2 : (match M b with
      | some (.lst ds) => some ds
      | _ => none) = some xs := h
    split at h2
    · rename_i ds e3; cases h2; rw [e3]; show (match atI xs (k : Int) with | some d => Q d M | none => False); rw [e2]; exact q
    · cases h2
  | _ => cases h
theorem row_vw {M : Mu} {n : Nat} {x : D} {xs : List D} (h : rowOf M x = some xs) : vw M (n + 1) x = .lst (xs.map (vw M n)) ∨ vw M (n + 1) x = .tup (xs.map (vw M n)) := by
  cases x with
  | lst ds => cases h; exact .inl rfl
  | tup ds => cases h; exact .inr rfl
  | ref b =>
    have h2 : (match M b with
      | some (.lst ds) => some ds
      | _ => none) = some xs := h
    split at h2
    · rename_i ds e3
      cases h2
      refine .inl ?_
      show (match M b with
        | some (.lst ds) => D.lst (ds.map (vw M n))
        | _ => .ref b) = _
      rw [e3]
    · cases h2
  | _ => cases h
theorem row_pln {M : Mu} {n : Nat} {x : D} {xs : List D} (h : rowOf M x = some xs) (p : pln (n + 1) (vw M (n + 1) x) = true) : xs.length ≤ 1000000 ∧ ∀ d ∈ xs, pln n (vw M n d) = true := by
  have k : ∀ ds : List D, (decide (ds.length ≤ 1000000) && plnIn (n + 1) ds) = true → ds = xs.map (vw M n) → xs.length ≤ 1000000 ∧ ∀ d ∈ xs, pln n (vw M n d) = true := fun ds hp e => by
    obtain ⟨p1, p2⟩ := ba hp
    have p1 := of_decide_eq_true p1
    rw [e, List.length_map] at p1
    refine ⟨p1, fun d hd => plns_all (show plns n ds = true by unfold plnIn at p2; exact p2) _ ?_⟩
    rw [e]; exact List.mem_map_of_mem hd
  rcases row_vw (n := n) h with e | e
  · rw [e] at p; unfold pln at p; exact k _ p rfl
  · rw [e] at p; unfold pln at p; exact k _ p rfl
theorem p_l_same_row (n : Nat) : ∀ ds M Q E, sp_l_same_row (n + 1) ds M Q E → w_l_same_row n (Ret Q E) (ds.map some ++ List.replicate (3 - 2) none) M := by
  rintro ds M Q E ⟨x, y, xs, ys, rfl, rx, ry, px, py, hQ⟩
  obtain ⟨lx, qx⟩ := row_pln rx px
  obtain ⟨ly, qy⟩ := row_pln ry py
  unfold w_l_same_row
  simp only [dSeq, dIfS, dTest, dOp, dCB, daCons, daNil, dVar, dRet, dC, dPass, dFor, diRng1, List.map_cons, List.map_nil, List.cons_append, List.nil_append, List.replicate, List.getElem?_cons_zero, List.getElem?_cons_succ, Nat.reduceSub]
  refine row_len rx (row_len ry ?_)
  simp only [gEqN]
  by_cases hl : xs.length = ys.length
  · have e : (!decide ((xs.length : Int) = (ys.length : Int))) = false := by simp [hl]
    rw [e]
    simp only [Bool.false_eq_true, if_false]
    refine row_len ry ?_
    refine ⟨by omega, by omega, ?_⟩
    rw [Int.toNat_natCast]
    refine wFor_by (fun i τ M' => M' = M ∧ (∃ z, τ = [some x, some y, z]) ∧ eqDs ((xs.take i).map (vw M n)) ((ys.take i).map (vw M n)) = true) ⟨rfl, ⟨none, rfl⟩, rfl⟩ ?_ ?_
    · rintro i d τ M' hd ⟨rfl, ⟨z, rfl⟩, he⟩ nxt hn
      obtain ⟨rfl, hi⟩ := upTo_at hd
      rw [Int.zero_add]
      have ex := List.getElem?_eq_getElem (l := xs) (i := i) (by omega)
      have ey := List.getElem?_eq_getElem (l := ys) (i := i) hi
      unfold w_l_same_row_b1
      simp only [dgName, dIfS, dNot, dTru, dCall, dOp, daCons, daNil, dVar, dRet, dC, dPass, List.set_cons_zero, List.set_cons_succ, List.getElem?_cons_zero, List.getElem?_cons_succ]
      refine row_ix rx ex (row_ix ry ey ⟨_, _, rfl, qx _ (List.getElem_mem _), qy _ (List.getElem_mem _), ?_⟩)
      simp only [truD]
      have ex2 : (xs.map (vw M' n))[i]? = some (vw M' n xs[i]) := by rw [List.getElem?_map, ex]; rfl
      have ey2 : (ys.map (vw M' n))[i]? = some (vw M' n ys[i]) := by rw [List.getElem?_map, ey]; rfl
      cases e : eqD (vw M' n xs[i]) (vw M' n ys[i]) with
      | true => exact hn _ _ ⟨rfl, ⟨_, rfl⟩, by rw [List.map_take, List.map_take] at he ⊢; rw [eqDs_take ex2 ey2, he, e]; rfl⟩
      | false =>
        show Q (.bl false) _
        rw [Nat.add_sub_cancel, eqDs_ne ex2 ey2 e] at hQ
        exact hQ
    · rintro τ M' ⟨rfl, ⟨z, rfl⟩, he⟩
      rw [upTo_len, List.take_of_length_le (by omega), List.take_of_length_le (by omega)] at he
      rw [Nat.add_sub_cancel, he] at hQ
      exact hQ
  · have e : (!decide ((xs.length : Int) = (ys.length : Int))) = true := by
      rw [Bool.not_eq_true', decide_eq_false_iff_not]; omega
    rw [e]
    simp only [if_true]
    rw [eqDs_len (by rw [List.length_map, List.length_map]; exact hl)] at hQ
    exact hQ
inductive Vk (M : Mu) : Nat → D → D → Prop where
  | non {n : Nat} : Vk M n .non .non
  | bl {n : Nat} (b : Bool) : Vk M n (.bl b) (.bl b)
  | int {n : Nat} (b : Int) : Vk M n (.int b) (.int b)
  | str {n : Nat} (b : Tx) : Vk M n (.str b) (.str b)
  | lst {m : Nat} (ds : List D) : Vk M (m + 1) (.lst ds) (.lst (ds.map (vw M m)))
  | tup {m : Nat} (ds : List D) : Vk M (m + 1) (.tup ds) (.tup (ds.map (vw M m)))
  | ref {m : Nat} (a : Addr) (ds : List D) (h : M a = some (.lst ds)) : Vk M (m + 1) (.ref a) (.lst (ds.map (vw M m)))
theorem vk_of {M : Mu} {n : Nat} {x : D} (p : pln n (vw M n x) = true) : Vk M n x (vw M n x) := by
  cases n with
  | zero =>
    cases x with
    | non => exact .non
    | bl b => exact .bl b
    | int b => exact .int b
    | str b => exact .str b
    | lst ds => have q := (ba (show (decide (ds.length ≤ 1000000) && plnIn 0 ds) = true from by have := p; unfold vw pln at this; exact this)).2; unfold plnIn at q; cases q
    | tup ds => have q := (ba (show (decide (ds.length ≤ 1000000) && plnIn 0 ds) = true from by have := p; unfold vw pln at this; exact this)).2; unfold plnIn at q; cases q
    | _ => unfold vw pln at p; cases p
  | succ m =>
    cases x with
    | non => exact .non
    | bl b => exact .bl b
    | int b => exact .int b
    | str b => exact .str b
    | lst ds => exact .lst ds
    | tup ds => exact .tup ds
    | ref a =>
      have e : vw M (m + 1) (.ref a) = (match M a with
        | some (.lst ds) => .lst (ds.map (vw M m))
        | _ => .ref a) := rfl
      rw [e] at p ⊢
      split at p
      · rename_i ds h; exact .ref a ds h
      · unfold pln at p; cases p
    | _ => unfold vw pln at p; cases p
theorem ty_rl {M : Mu} {a : Addr} {ds : List D} (h : M a = some (.lst ds)) : tyD M (.ref a) = some "list" := by
  show (match M a with
    | some (.lst _) => some "list"
    | some (.dK _) => some "dict"
    | _ => none) = _
  rw [h]
theorem row_rl {M : Mu} {a : Addr} {ds : List D} (h : M a = some (.lst ds)) : rowOf M (.ref a) = some ds := by
  show (match M a with
    | some (.lst ds) => some ds
    | _ => none) = _
  rw [h]
theorem p_l_same (n : Nat) : ∀ ds M Q E, sp_l_same n ds M Q E → w_l_same n (Ret Q E) (ds.map some ++ List.replicate (2 - 2) none) M := by
  rintro ds M Q E ⟨x, y, rfl, px, py, hQ⟩
  have kx := vk_of px
  have ky := vk_of py
  have px0 := px
  have py0 := py
  unfold w_l_same
  generalize vw M n x = x' at kx px hQ
  generalize vw M n y = y' at ky py hQ
  cases ky with
  | non =>
    walk_at "dl"
    cases kx <;> exact hQ
  | bl b =>
    walk_at "dl"
    try simp only [show isaB "bool" "bool" = true by decide]
    walk_at "dl"
    try simp only [show isaB "bool" "bool" = true by decide]
    walk_at "dl"
    refine ⟨by decide, ?_⟩
    cases kx <;> first
      | ((walk_at "dl"); refine ⟨by decide, ?_⟩; (try simp only [show isaB "bool" "bool" = true by decide]); (walk_at "dl"); rename_i a; rw [show decide (a = b) = (a == b) by cases a <;> cases b <;> rfl]; exact hQ)
      | ((walk_at "dl"); refine ⟨by decide, ?_⟩; exact hQ)
      | (rename_i hm; (try simp only [ty_rl hm]); (walk_at "dl"); refine ⟨by decide, ?_⟩; exact hQ)
  | int b =>
    walk_at "dl"
    refine ⟨by decide, ?_⟩
    try simp only [show isaB "int" "bool" = false by decide, show isaB "int" "int" = true by decide]
    walk_at "dl"
    try simp only [show isaB "int" "bool" = false by decide, show isaB "int" "int" = true by decide]
    walk_at "dl"
    refine ⟨by decide, ?_⟩
    cases kx <;> first
      | ((walk_at "dl"); refine ⟨by decide, ?_⟩; exact hQ)
      | ((walk_at "dl"); refine ⟨by decide, ?_⟩; (try simp only [show isaB "int" "int" = true by decide, show isaB "bool" "int" = true by decide]); (walk_at "dl"); refine ⟨by decide, ?_⟩; (try simp only [show isaB "int" "bool" = false by decide, show isaB "bool" "bool" = true by decide, Bool.not_false, Bool.not_true]); (walk_at "dl"); exact hQ)
      | (rename_i hm; (try simp only [ty_rl hm]); (walk_at "dl"); refine ⟨by decide, ?_⟩; exact hQ)
  | str b =>
    walk_at "dl"
    refine ⟨by decide, ?_⟩
    try simp only [show isaB "str" "bool" = false by decide, show isaB "str" "int" = false by decide, show isaB "str" "str" = true by decide]
    walk_at "dl"
    try simp only [show isaB "str" "bool" = false by decide, show isaB "str" "int" = false by decide, show isaB "str" "str" = true by decide]
    walk_at "dl"
    refine ⟨by decide, by decide, ?_⟩
    cases kx <;> first
      | ((walk_at "dl"); refine ⟨by decide, ?_⟩; exact hQ)
      | ((walk_at "dl"); refine ⟨by decide, ?_⟩; (try simp only [show isaB "str" "str" = true by decide]); (walk_at "dl"); rename_i a; rw [show decide (a = b) = (a == b) by rw [Bool.eq_iff_iff, decide_eq_true_iff, beq_iff_eq]]; exact hQ)
      | (rename_i hm; (try simp only [ty_rl hm]); (walk_at "dl"); refine ⟨by decide, ?_⟩; exact hQ)
  | lst bs =>
    walk_at "dl"
    refine ⟨by decide, ?_⟩
    try simp only [show isaB "list" "bool" = false by decide, show isaB "list" "int" = false by decide, show isaB "list" "str" = false by decide, show isaB "list" "list" = true by decide]
    walk_at "dl"
    try simp only [show isaB "list" "bool" = false by decide, show isaB "list" "int" = false by decide, show isaB "list" "str" = false by decide, show isaB "list" "list" = true by decide]
    walk_at "dl"
    refine ⟨by decide, by decide, by decide, ?_⟩
    cases kx <;> first
      | ((walk_at "dl"); refine ⟨by decide, ?_⟩; exact hQ)
      | ((walk_at "dl"); refine ⟨by decide, ?_⟩; (try simp only [show isaB "list" "list" = true by decide]); (walk_at "dl"); exact ⟨_, _, _, _, rfl, rfl, rfl, px0, py0, hQ⟩)
      | (rename_i hm; (try simp only [ty_rl hm]); (walk_at "dl"); refine ⟨by decide, ?_⟩; (try simp only [show isaB "list" "list" = true by decide]); (walk_at "dl"); exact ⟨_, _, _, _, rfl, row_rl hm, rfl, px0, py0, hQ⟩)
  | ref b bs hb =>
    walk_at "dl"
    try simp only [ty_rl hb, show isaB "list" "bool" = false by decide, show isaB "list" "int" = false by decide, show isaB "list" "str" = false by decide, show isaB "list" "list" = true by decide]
    walk_at "dl"
    try simp only [ty_rl hb, show isaB "list" "bool" = false by decide, show isaB "list" "int" = false by decide, show isaB "list" "str" = false by decide, show isaB "list" "list" = true by decide]
    walk_at "dl"
    refine ⟨by decide, ?_⟩
    try simp only [ty_rl hb, show isaB "list" "bool" = false by decide, show isaB "list" "int" = false by decide, show isaB "list" "str" = false by decide, show isaB "list" "list" = true by decide]
    walk_at "dl"
    try simp only [ty_rl hb, show isaB "list" "bool" = false by decide, show isaB "list" "int" = false by decide, show isaB "list" "str" = false by decide, show isaB "list" "list" = true by decide]
    walk_at "dl"
    refine ⟨by decide, ?_⟩
    try simp only [ty_rl hb, show isaB "list" "bool" = false by decide, show isaB "list" "int" = false by decide, show isaB "list" "str" = false by decide, show isaB "list" "list" = true by decide]
    walk_at "dl"
    try simp only [ty_rl hb, show isaB "list" "bool" = false by decide, show isaB "list" "int" = false by decide, show isaB "list" "str" = false by decide, show isaB "list" "list" = true by decide]
    walk_at "dl"
    refine ⟨by decide, ?_⟩
    try simp only [ty_rl hb, show isaB "list" "bool" = false by decide, show isaB "list" "int" = false by decide, show isaB "list" "str" = false by decide, show isaB "list" "list" = true by decide]
    walk_at "dl"
    try simp only [ty_rl hb, show isaB "list" "bool" = false by decide, show isaB "list" "int" = false by decide, show isaB "list" "str" = false by decide, show isaB "list" "list" = true by decide]
    walk_at "dl"
    refine ⟨by decide, ?_⟩
    cases kx <;> first
      | ((walk_at "dl"); refine ⟨by decide, ?_⟩; exact hQ)
      | ((walk_at "dl"); refine ⟨by decide, ?_⟩; (try simp only [show isaB "list" "list" = true by decide]); (walk_at "dl"); exact ⟨_, _, _, _, rfl, rfl, row_rl hb, px0, py0, hQ⟩)
      | (rename_i hm; (try simp only [ty_rl hm]); (walk_at "dl"); refine ⟨by decide, ?_⟩; (try simp only [show isaB "list" "list" = true by decide]); (walk_at "dl"); exact ⟨_, _, _, _, rfl, row_rl hm, row_rl hb, px0, py0, hQ⟩)
  | tup bs =>
    walk_at "dl"
    refine ⟨by decide, ?_⟩
    try simp only [show isaB "tuple" "bool" = false by decide, show isaB "tuple" "int" = false by decide, show isaB "tuple" "str" = false by decide, show isaB "tuple" "list" = false by decide]
    walk_at "dl"
    try simp only [show isaB "tuple" "bool" = false by decide, show isaB "tuple" "int" = false by decide, show isaB "tuple" "str" = false by decide, show isaB "tuple" "list" = false by decide]
    walk_at "dl"
    refine ⟨by decide, by decide, by decide, ?_⟩
    cases kx <;> first
      | ((walk_at "dl"); refine ⟨by decide, ?_⟩; exact hQ)
      | ((walk_at "dl"); refine ⟨by decide, ?_⟩; (try simp only [show isaB "tuple" "tuple" = true by decide]); (walk_at "dl"); exact ⟨_, _, _, _, rfl, rfl, rfl, px0, py0, hQ⟩)
      | (rename_i hm; (try simp only [ty_rl hm]); (walk_at "dl"); refine ⟨by decide, ?_⟩; exact hQ)
theorem no_row0 : ∀ ds M Q E, ¬ sp_l_same_row 0 ds M Q E := by
  rintro ds M Q E ⟨x, y, xs, ys, _, rx, _, px, _⟩
  cases x with
  | lst ds => have q := (ba (show (decide (ds.length ≤ 1000000) && plnIn 0 ds) = true from by have := px; unfold vw pln at this; exact this)).2; unfold plnIn at q; cases q
  | tup ds => have q := (ba (show (decide (ds.length ≤ 1000000) && plnIn 0 ds) = true from by have := px; unfold vw pln at this; exact this)).2; unfold plnIn at q; cases q
  | ref a => unfold vw pln at px; cases px
  | _ => cases rx
/-- data that is plain already -/
theorem same_pl {n : Nat} {M : Mu} {x y : D} {Q : DK} {E : DX} (px : pln n x = true) (py : pln n y = true) (h : Q (.bl (eqD x y)) M) : sp_l_same n [x, y] M Q E :=
  ⟨x, y, rfl, by rw [vw_pln M px]; exact px, by rw [vw_pln M py]; exact py, by rw [vw_pln M px, vw_pln M py]; exact h⟩
end DL

namespace DL
open PySem L2
local macro_rules | `(tactic| walk_at "dl") => `(tactic| try simp (config := { proj := false }) only [↓ex_mk, ↓nx_mk, ↓rt_mk, ↓bk_mk, ↓ct_mk, ↓xc_mk, ↓u_c, ↓u_op, ↓u_un, ↓u_and, ↓u_or, ↓u_not, ↓u_if, ↓u_anil, ↓u_acons, ↓u_lst, ↓u_lstM, ↓u_tup, ↓u_call, ↓u_sl, ↓u_onone, ↓u_cb, ↓u_mt, ↓u_mt0, ↓u_pass, ↓u_seq, ↓u_set, ↓u_asg, ↓u_drop, ↓u_ret, ↓u_retN, ↓u_ifs, ↓u_brk, ↓u_cnt, ↓u_for, ↓u_gname, ↓u_gsub, ↓u_fs, ↓u_fmt, ↓u_js0, ↓u_js, ↓u_em, ↓u_yes, ↓u_never, ↓u_ref, ↓u_forR, ↓u_star, ↓u_dict, ↓u_dict0, ↓u_dp0, ↓u_dp1, ↓u_forK, ↓u_lock, ↓u_kd, ↓u_fld, ↓u_setF, ↓u_make, ↓u_binL, ↓u_binR, ↓u_inO, ↓u_getO, ↓u_setO, ↓u_augO, ↓u_prp, ↓u_inv, ↓u_meth, ↓u_keys, ↓u_try, ↓u_cm, ↓u_makeV, ↓r_enum, ↓r_own, ↓u_raise, ↓u_tryas, ↓u_ca, ↓u_xf, ↓u_idxC, su_mk,
  ↓r_var, ↓r_test, ↓r_andV, ↓r_orV, ↓r_notV, ↓r_tru, ↓r_frz, ↓r_osome, ↓r_any, ↓r_scr, scr_c, ↓r_rng1, ↓r_rng2, ↓r_fz, wipeD,
  onSome_s, onBl_b, onInt_i, onStr_s, onVar_s, onML_l, onML2_l, onML2_d, onDK_d, fmt_s, fmt_i, tru_n, tru_b, tru_i, tru_s, tru_l, tru_t, tru_r, frz_r, sl_s, sl_l, sl_t, sl_r, add_i, add_s, add_l, add_t, add_rl, add_lr, sub_i, mul_i, div_i, mod_i, pow_i, neg_i, cmp_i, eq_i, eq_s, eq_b, eq_n, eq_l, eq_t, eq_rl, eq_lr, eq_ni, eq_in, eq_ns, eq_sn, eq_nb, eq_bn, eq_is, eq_si,
  ix_l, ix_t, ix_s, ix_ri, ix_rs, in_ss, in_l, in_t, in_ir, in_sr, isB_t, isB_f, ltS_s, gtS_s, sorted_l, keyK_s, keyK_i, u_dget, lenOR_r, listOR_r, isn_n, isn_b, isn_i, isn_s, isn_r, isn_l, isn_t, len_s, len_c, len_l, len_t, len_r, int_i, int_b, min_ii, max_ii, list_l, list_t, list_r, list_c, listM_l, listM_c, listM_t, listM_r, isi_, isi_k, ty_n, ty_b, ty_i, ty_s, ty_l, ty_t, it_s, it_l, it_r, itM_l, itM_d, app_r, rev_r, ends_s, ins_r, set_rs, str_i, str_s, ext_l, pop_r, clr_r, star_l, star_t, star_r, onRef_r, onML3_l, onML3_d, onML3_f, onDR_d, onDR_f, onFK_f, join_l, join_t, join_r, starts_s, r_gtup, r_glst, r_gnil, r_gcons, set_r, items_s, items_l, items_t, rng1_i, rng2_i, fz_r, addM_l, addM_rl, onIns_i, onLst_l, isIns_r, isInsM_i, noF_r, noFM_i, rows_r, lenO_r, listO_r, listOM_r, isCK_i, isCK_l, isC_r, isC_s, isC_i, isC_b, isC_n, isC_l, isC_t, putG_0, putG_1, lk_1, onCl_c, onEnum_l, index_l, strO_r, cmpO_r, pop1_r, tuple_l, tuple_t, divmod_i, upper_s, indexT_t, onExc_e, isE_t, isE_c, isE_v, zip_1,
  List.map_cons, List.map_nil, List.cons_append, List.nil_append, List.length_cons, List.length_nil, List.replicate, List.getElem?_cons_zero, List.getElem?_cons_succ, List.set_cons_zero, List.set_cons_succ, id, decide_eq_true_eq, if_true, if_false, Bool.false_eq_true, reduceIte, Bool.not_true, Bool.not_false, true_and, Nat.reduceAdd, Nat.reduceSub, Int.reduceToNat, Int.toNat_natCast, put_same, put_put, atI_0, atI_1, atI_2, atI_3, atI_4, ixN_40, ixN_41, ixN_42, ixN_43])
def W2 : List Tx := [T "fresh", T "kept"]
abbrev Prm (a b : Tx) : MO := .ins "Promise" [("_look", .str a), ("_reserved", .str b)]
def errPr (t : Tx) : XD := ⟨"InvalidPromise", [("text", .str t)]⟩
abbrev PrAt (M : Mu) (p : Addr) (a b : Tx) : Prop := M p = some (Prm a b)
theorem in_w2 {t : Tx} : inD (.str t) [D.str (T "fresh"), D.str (T "kept")] = decide (t ∈ W2) := inD_txs (ws := W2)
theorem fl_w2 : [D.str (T "fresh"), D.str (T "kept")].all flatD = true := rfl
theorem pr_look {x y : D} : List.lookup (Str.ofString "_look") [(Str.ofString "_look", x), (Str.ofString "_reserved", y)] = some x := rfl
theorem pr_res {x y : D} : List.lookup (Str.ofString "_reserved") [(Str.ofString "_look", x), (Str.ofString "_reserved", y)] = some y := rfl
theorem w2_len {t : Tx} (h : t ∈ W2) : t.length ≤ 5 := by
  have : W2.all (fun t => decide (t.length ≤ 5)) = true := by decide +kernel
  exact of_decide_eq_true (List.all_eq_true.mp this t h)
def sp_checked_word : DSp := fun ds M Q E => ∃ t, ds = [.str t] ∧ (t ∈ W2 → Q (.str t) M) ∧ (t ∉ W2 → E (errPr t) M)
def w_checked_word : DTS := dSeq (dIfS (dTest (dOp gNotIn (dVar 0) (dTup (daCons (dC (.str (T "fresh"))) (daCons (dC (.str (T "kept"))) (daNil)))))) (dRaise "InvalidPromise" "text" (dVar 0)) (dPass)) (dRet (dVar 0))
theorem p_checked_word : ∀ ds M Q E, sp_checked_word ds M Q E → w_checked_word (Ret Q E) (ds.map some ++ List.replicate (1 - 1) none) M := by
  rintro ds M Q E ⟨t, rfl, h1, h2⟩
  unfold w_checked_word
  walk_at "dl"
  refine ⟨by decide, rfl, fl_w2, ?_⟩
  rw [in_w2]
  by_cases h : t ∈ W2
  · rw [decide_eq_true h, if_neg (by decide)]
    exact h1 h
  · rw [decide_eq_false h, if_pos (by decide)]
    exact h2 h
def sp_Promise_init : DSp := fun ds M Q E => ∃ p a b, ds = [.ref p, .str a, .str b] ∧ M p = some (.ins "Promise" []) ∧ (a ∈ W2 → b ∈ W2 → Q .non (put M p (Prm a b))) ∧ (a ∉ W2 → E (errPr a) M) ∧ (a ∈ W2 → b ∉ W2 → E (errPr b) (put M p (.ins "Promise" [("_look", .str a)])))
def w_Promise_init : DTS := dSeq (dSetF "Promise" "_look" (dVar 0) (dCall sp_checked_word (daCons (dVar 1) (daNil)))) (dSetF "Promise" "_reserved" (dVar 0) (dCall sp_checked_word (daCons (dVar 2) (daNil))))
theorem p_Promise_init : ∀ ds M Q E, sp_Promise_init ds M Q E → w_Promise_init (Ret Q E) (ds.map some ++ List.replicate (3 - 3) none) M := by
  rintro ds M Q E ⟨p, a, b, rfl, hp, h1, h2, h3⟩
  unfold w_Promise_init
  walk_at "dl"
  refine ⟨a, rfl, fun ha => ?_, fun ha => ?_⟩
  · try simp only [hp]
    walk_at "dl"
    try simp only [hp]
    walk_at "dl"
    try simp only [hp]
    walk_at "dl"
    try simp only [hp]
    walk_at "dl"
    try simp only [hp]
    walk_at "dl"
    try simp only [hp]
    walk_at "dl"
    try simp only [hp]
    walk_at "dl"
    try simp only [hp]
    walk_at "dl"
    try simp only [hp]
    walk_at "dl"
    try simp only [hp]
    walk_at "dl"
    refine ⟨by decide, b, rfl, fun hb => ?_, fun hb => ?_⟩
    · try simp only [put_same]
      walk_at "dl"
      try simp only [put_same]
      walk_at "dl"
      try simp only [put_same]
      walk_at "dl"
      try simp only [put_same]
      walk_at "dl"
      try simp only [put_same]
      walk_at "dl"
      try simp only [put_same]
      walk_at "dl"
      try simp only [put_same]
      walk_at "dl"
      try simp only [put_same]
      walk_at "dl"
      try simp only [put_same]
      walk_at "dl"
      try simp only [put_same]
      walk_at "dl"
      exact ⟨by decide, h1 ha hb⟩
    · exact h3 ha hb
  · exact h2 ha
theorem mk_pr {p : Addr} {a b : Tx} {M : Mu} {Q : DK} {E : DX} (hp : M p = none) (ha : a ∈ W2) (hb : b ∈ W2) (k : ∀ M', Xt M M' → PrAt M' p a b → Q .non M') : callK (K := Q) (L := E) ⟨⟩ ⟨⟩ sp_Promise_init [.ref p, .str a, .str b] (put M p (.ins "Promise" [])) :=
  ⟨p, a, b, rfl, put_same, fun _ _ => by rw [put_put]; exact k _ (Xt.new hp) put_same, fun h => absurd ha h, fun _ h => absurd hb h⟩
def sp_Promise_str : DSp := fun ds M Q _ => ∃ p a b, ds = [.ref p] ∧ PrAt M p a b ∧ a ∈ W2 ∧ b ∈ W2 ∧ Q (.str (a ++ [32] ++ b)) M
def w_Promise_str : DTS := dRet (dFs [dFmt (dFld "Promise" "_look" (dVar 0)), dC (.str [32]), dFmt (dFld "Promise" "_reserved" (dVar 0))])
theorem p_Promise_str : ∀ ds M Q E, sp_Promise_str ds M Q E → w_Promise_str (Ret Q E) (ds.map some ++ List.replicate (1 - 1) none) M := by
  rintro ds M Q E ⟨p, a, b, rfl, h, ha, hb, hQ⟩
  unfold w_Promise_str
  have la := w2_len ha
  have lb := w2_len hb
  try simp only [h, pr_look, pr_res]
  walk_at "dl"
  try simp only [h, pr_look, pr_res]
  walk_at "dl"
  try simp only [h, pr_look, pr_res]
  walk_at "dl"
  try simp only [h, pr_look, pr_res]
  walk_at "dl"
  try simp only [h, pr_look, pr_res]
  walk_at "dl"
  try simp only [h, pr_look, pr_res]
  walk_at "dl"
  try simp only [h, pr_look, pr_res]
  walk_at "dl"
  try simp only [h, pr_look, pr_res]
  walk_at "dl"
  try simp only [h, pr_look, pr_res]
  walk_at "dl"
  try simp only [h, pr_look, pr_res]
  walk_at "dl"
  exact ⟨by omega, by omega, by simp; omega, by omega, by simp; omega, hQ⟩
def sp_Promise_look : DSp := fun ds M Q _ => ∃ p a b, ds = [.ref p] ∧ PrAt M p a b ∧ Q (.str a) M
def w_Promise_look : DTS := dRet (dFld "Promise" "_look" (dVar 0))
theorem p_Promise_look : ∀ ds M Q E, sp_Promise_look ds M Q E → w_Promise_look (Ret Q E) (ds.map some ++ List.replicate (1 - 1) none) M := by
  rintro ds M Q E ⟨p, a, b, rfl, h, hQ⟩
  unfold w_Promise_look
  try simp only [h, pr_look, pr_res]
  walk_at "dl"
  try simp only [h, pr_look, pr_res]
  walk_at "dl"
  try simp only [h, pr_look, pr_res]
  walk_at "dl"
  try simp only [h, pr_look, pr_res]
  walk_at "dl"
  try simp only [h, pr_look, pr_res]
  walk_at "dl"
  try simp only [h, pr_look, pr_res]
  walk_at "dl"
  try simp only [h, pr_look, pr_res]
  walk_at "dl"
  try simp only [h, pr_look, pr_res]
  walk_at "dl"
  try simp only [h, pr_look, pr_res]
  walk_at "dl"
  try simp only [h, pr_look, pr_res]
  walk_at "dl"
  exact hQ
def sp_Promise_reserved : DSp := fun ds M Q _ => ∃ p a b, ds = [.ref p] ∧ PrAt M p a b ∧ Q (.str b) M
def w_Promise_reserved : DTS := dRet (dFld "Promise" "_reserved" (dVar 0))
theorem p_Promise_reserved : ∀ ds M Q E, sp_Promise_reserved ds M Q E → w_Promise_reserved (Ret Q E) (ds.map some ++ List.replicate (1 - 1) none) M := by
  rintro ds M Q E ⟨p, a, b, rfl, h, hQ⟩
  unfold w_Promise_reserved
  try simp only [h, pr_look, pr_res]
  walk_at "dl"
  try simp only [h, pr_look, pr_res]
  walk_at "dl"
  try simp only [h, pr_look, pr_res]
  walk_at "dl"
  try simp only [h, pr_look, pr_res]
  walk_at "dl"
  try simp only [h, pr_look, pr_res]
  walk_at "dl"
  try simp only [h, pr_look, pr_res]
  walk_at "dl"
  try simp only [h, pr_look, pr_res]
  walk_at "dl"
  try simp only [h, pr_look, pr_res]
  walk_at "dl"
  try simp only [h, pr_look, pr_res]
  walk_at "dl"
  try simp only [h, pr_look, pr_res]
  walk_at "dl"
  exact hQ
def sp_Promise_eq : DSp := fun ds M Q _ => ∃ p y, ds = [.ref p, y] ∧ ∃ a b, PrAt M p a b ∧ ((∃ q c d, y = .ref q ∧ PrAt M q c d ∧ Q (.bl (decide (a = c) && decide (b = d))) M) ∨ ((∃ t, y = .str t) ∨ ∃ l, y = .lst l) ∧ Q (.bl false) M)
def w_Promise_eq : DTS := dRet (dAndV (dCB (gIsC "Promise") (daCons (dVar 1) (daCons (dC (.cl "Promise")) (daNil)))) (dAndV (dOp gEq (dFld "Promise" "_look" (dVar 0)) (dFld "Promise" "_look" (dVar 1))) (dOp gEq (dFld "Promise" "_reserved" (dVar 0)) (dFld "Promise" "_reserved" (dVar 1)))))
theorem p_Promise_eq : ∀ ds M Q E, sp_Promise_eq ds M Q E → w_Promise_eq (Ret Q E) (ds.map some ++ List.replicate (2 - 2) none) M := by
  rintro ds M Q E ⟨p, y, rfl, a, b, h, ⟨q, c, d, rfl, h2, hQ⟩ | ⟨⟨t, rfl⟩ | ⟨l, rfl⟩, hQ⟩⟩
  · unfold w_Promise_eq
    try simp only [h, h2, pr_look, pr_res]
    walk_at "dl"
    try simp only [h, h2, pr_look, pr_res]
    walk_at "dl"
    try simp only [h, h2, pr_look, pr_res]
    walk_at "dl"
    try simp only [h, h2, pr_look, pr_res]
    walk_at "dl"
    try simp only [h, h2, pr_look, pr_res]
    walk_at "dl"
    try simp only [h, h2, pr_look, pr_res]
    walk_at "dl"
    try simp only [h, h2, pr_look, pr_res]
    walk_at "dl"
    try simp only [h, h2, pr_look, pr_res]
    walk_at "dl"
    try simp only [h, h2, pr_look, pr_res]
    walk_at "dl"
    try simp only [h, h2, pr_look, pr_res]
    walk_at "dl"
    by_cases e : a = c
    · rw [if_pos e]
      rw [decide_eq_true e, Bool.true_and] at hQ
      exact hQ
    · rw [if_neg e]
      rw [decide_eq_false e, Bool.false_and] at hQ
      exact hQ
  · unfold w_Promise_eq
    try simp only [h]
    walk_at "dl"
    try simp only [h]
    walk_at "dl"
    try simp only [h]
    walk_at "dl"
    try simp only [h]
    walk_at "dl"
    try simp only [h]
    walk_at "dl"
    try simp only [h]
    walk_at "dl"
    try simp only [h]
    walk_at "dl"
    try simp only [h]
    walk_at "dl"
    try simp only [h]
    walk_at "dl"
    try simp only [h]
    walk_at "dl"
    exact hQ
  · unfold w_Promise_eq
    try simp only [h]
    walk_at "dl"
    try simp only [h]
    walk_at "dl"
    try simp only [h]
    walk_at "dl"
    try simp only [h]
    walk_at "dl"
    try simp only [h]
    walk_at "dl"
    try simp only [h]
    walk_at "dl"
    try simp only [h]
    walk_at "dl"
    try simp only [h]
    walk_at "dl"
    try simp only [h]
    walk_at "dl"
    try simp only [h]
    walk_at "dl"
    exact hQ
def sp_Promise_read : DSp := fun ds M Q E => ∃ t, ds = [.cl "Promise", .str t] ∧ t.length ≤ 100000 ∧ (∀ a b, cutAt 32 t = [a, b] → a ∈ W2 → b ∈ W2 → ∀ p M', M p = none → Xt M M' → PrAt M' p a b → Q (.ref p) M') ∧ ((¬ ∃ a b, cutAt 32 t = [a, b] ∧ a ∈ W2 ∧ b ∈ W2) → E (errPr t) M)
def w_Promise_read_c1 : DTS := dRet (dMakeV 0 "Promise" sp_Promise_init (daCons (dOp gIx (dVar 2) (dC (.int 0))) (daCons (dOp gIx (dVar 2) (dC (.int 1))) (daNil))))
def w_Promise_read : DTS := dSeq (dSet 2 (dMt "str" gSplit (dVar 1) (daCons (dC (.str [32])) (daNil)))) (dSeq (dIfS (dOr (dTest (dOp gNe (dCB gLen (daCons (dVar 2) (daNil))) (dC (.int 2)))) (dOr (dTest (dOp gNotIn (dOp gIx (dVar 2) (dC (.int 0))) (dClF "Promise" (.tup [.str (T "fresh"), .str (T "kept")]) (dVar 0)))) (dTest (dOp gNotIn (dOp gIx (dVar 2) (dC (.int 1))) (dClF "Promise" (.tup [.str (T "fresh"), .str (T "kept")]) (dVar 0)))))) (dRaise "InvalidPromise" "text" (dVar 1)) (dPass)) (w_Promise_read_c1))
theorem p_Promise_read : ∀ ds M Q E, sp_Promise_read ds M Q E → w_Promise_read (Ret Q E) (ds.map some ++ List.replicate (3 - 2) none) M := by
  rintro ds M Q E ⟨t, rfl, lt, h1, h2⟩
  unfold w_Promise_read
  walk_at "dl"
  refine ⟨by decide, by omega, ?_⟩
  have len2 : ∀ l : List Tx, l.length = 2 → ∃ a b, l = [a, b] := fun l hl => by
    match l, hl with
    | [a, b], _ => exact ⟨a, b, rfl⟩
  by_cases h3 : (cutAt 32 t).length = 2
  · obtain ⟨a, b, e⟩ := len2 _ h3
    have no : ∀ P : Prop, ¬ P → (a ∈ W2 ∧ b ∈ W2 → P) → E (errPr t) M := fun P hP h => h2 fun ⟨c, d, z, z2⟩ => by
      rw [e] at z
      cases z
      exact hP (h z2)
    rw [e]
    walk_at "dl"
    rw [if_neg (by decide)]
    try simp only [clF_]
    walk_at "dl"
    try simp only [clF_]
    walk_at "dl"
    try simp only [clF_]
    walk_at "dl"
    try simp only [clF_]
    walk_at "dl"
    try simp only [clF_]
    walk_at "dl"
    try simp only [clF_]
    walk_at "dl"
    try simp only [clF_]
    walk_at "dl"
    try simp only [clF_]
    walk_at "dl"
    try simp only [clF_]
    walk_at "dl"
    try simp only [clF_]
    walk_at "dl"
    refine ⟨rfl, fl_w2, ?_⟩
    rw [in_w2]
    by_cases ha : a ∈ W2
    · rw [decide_eq_true ha, if_neg (by decide)]
      refine ⟨rfl, fl_w2, ?_⟩
      rw [in_w2]
      by_cases hb : b ∈ W2
      · rw [decide_eq_true hb, if_neg (by decide)]
        unfold w_Promise_read_c1
        walk_at "dl"
        exact fun p hp => mk_pr hp ha hb fun M' x pa => ⟨rfl, h1 a b e ha hb p M' hp x pa⟩
      · rw [decide_eq_false hb, if_pos (by decide)]
        exact no _ hb fun z => z.2
    · rw [decide_eq_false ha, if_pos (by decide)]
      exact no _ ha fun z => z.1
  · walk_at "dl"
    rw [List.length_map, decide_eq_false (by omega), if_pos (by decide)]
    refine h2 fun ⟨c, d, z, _⟩ => h3 ?_
    rw [z]
    rfl
def sp_Promise_look_setter : DSp := fun ds M Q E => ∃ p a b c, ds = [.ref p, .str c] ∧ PrAt M p a b ∧ (c ∈ W2 → Q .non (put M p (Prm c b))) ∧ (c ∉ W2 → E (errPr c) M)
def w_Promise_look_setter : DTS := dSetF "Promise" "_look" (dVar 0) (dCall sp_checked_word (daCons (dVar 1) (daNil)))
theorem p_Promise_look_setter : ∀ ds M Q E, sp_Promise_look_setter ds M Q E → w_Promise_look_setter (Ret Q E) (ds.map some ++ List.replicate (2 - 2) none) M := by
  rintro ds M Q E ⟨p, a, b, c, rfl, h, h1, h2⟩
  unfold w_Promise_look_setter
  walk_at "dl"
  refine ⟨c, rfl, fun hc => ?_, fun hc => ?_⟩
  · try simp only [h]
    walk_at "dl"
    try simp only [h]
    walk_at "dl"
    try simp only [h]
    walk_at "dl"
    try simp only [h]
    walk_at "dl"
    try simp only [h]
    walk_at "dl"
    try simp only [h]
    walk_at "dl"
    try simp only [h]
    walk_at "dl"
    try simp only [h]
    walk_at "dl"
    try simp only [h]
    walk_at "dl"
    try simp only [h]
    walk_at "dl"
    exact ⟨by decide, h1 hc⟩
  · exact h2 hc
def sp_Promise_reserved_setter : DSp := fun ds M Q E => ∃ p a b c, ds = [.ref p, .str c] ∧ PrAt M p a b ∧ (c ∈ W2 → Q .non (put M p (Prm a c))) ∧ (c ∉ W2 → E (errPr c) M)
def w_Promise_reserved_setter : DTS := dSetF "Promise" "_reserved" (dVar 0) (dCall sp_checked_word (daCons (dVar 1) (daNil)))
theorem p_Promise_reserved_setter : ∀ ds M Q E, sp_Promise_reserved_setter ds M Q E → w_Promise_reserved_setter (Ret Q E) (ds.map some ++ List.replicate (2 - 2) none) M := by
  rintro ds M Q E ⟨p, a, b, c, rfl, h, h1, h2⟩
  unfold w_Promise_reserved_setter
  walk_at "dl"
  refine ⟨c, rfl, fun hc => ?_, fun hc => ?_⟩
  · try simp only [h]
    walk_at "dl"
    try simp only [h]
    walk_at "dl"
    try simp only [h]
    walk_at "dl"
    try simp only [h]
    walk_at "dl"
    try simp only [h]
    walk_at "dl"
    try simp only [h]
    walk_at "dl"
    try simp only [h]
    walk_at "dl"
    try simp only [h]
    walk_at "dl"
    try simp only [h]
    walk_at "dl"
    try simp only [h]
    walk_at "dl"
    exact ⟨by decide, h1 hc⟩
  · exact h2 hc
/-- change(part, word) -/
def sp_Promise_change : DSp := fun ds M Q E => ∃ p a b t c, ds = [.ref p, .str t, .str c] ∧ PrAt M p a b ∧ (t = T "look" → c ∈ W2 → Q .non (put M p (Prm c b))) ∧ (t = T "reserved" → c ∈ W2 → Q .non (put M p (Prm a c))) ∧
  ((t = T "look" ∨ t = T "reserved") → c ∉ W2 → E (errPr c) M) ∧ (t ≠ T "look" → t ≠ T "reserved" → E (errPr t) M)
def w_Promise_change : DTS := dIfS (dTest (dOp gEq (dVar 1) (dC (.str (T "look"))))) (dPrS "Promise" sp_Promise_look_setter (dVar 0) (dVar 2)) (dIfS (dTest (dOp gEq (dVar 1) (dC (.str (T "reserved"))))) (dPrS "Promise" sp_Promise_reserved_setter (dVar 0) (dVar 2)) (dRaise "InvalidPromise" "text" (dVar 1)))
theorem p_Promise_change : ∀ ds M Q E, sp_Promise_change ds M Q E → w_Promise_change (Ret Q E) (ds.map some ++ List.replicate (3 - 3) none) M := by
  rintro ds M Q E ⟨p, a, b, t, c, rfl, h, h1, h2, h3, h4⟩
  unfold w_Promise_change dPrS
  walk_at "dl"
  by_cases e : t = T "look"
  · rw [if_pos e]
    try simp only [h]
    walk_at "dl"
    try simp only [h]
    walk_at "dl"
    try simp only [h]
    walk_at "dl"
    try simp only [h]
    walk_at "dl"
    try simp only [h]
    walk_at "dl"
    try simp only [h]
    walk_at "dl"
    try simp only [h]
    walk_at "dl"
    try simp only [h]
    walk_at "dl"
    try simp only [h]
    walk_at "dl"
    try simp only [h]
    walk_at "dl"
    exact ⟨p, a, b, c, rfl, h, fun hc => h1 e hc, fun hc => h3 (.inl e) hc⟩
  · rw [if_neg e]
    by_cases e2 : t = T "reserved"
    · rw [if_pos e2]
      try simp only [h]
      walk_at "dl"
      try simp only [h]
      walk_at "dl"
      try simp only [h]
      walk_at "dl"
      try simp only [h]
      walk_at "dl"
      try simp only [h]
      walk_at "dl"
      try simp only [h]
      walk_at "dl"
      try simp only [h]
      walk_at "dl"
      try simp only [h]
      walk_at "dl"
      try simp only [h]
      walk_at "dl"
      try simp only [h]
      walk_at "dl"
      exact ⟨p, a, b, c, rfl, h, fun hc => h2 e2 hc, fun hc => h3 (.inr e2) hc⟩
    · rw [if_neg e2]
      exact h4 e e2
def leP (a b c d : Tx) : Bool := !(decide (a = T "kept") && decide (c = T "fresh")) && (decide (b = T "fresh") || decide (d = T "kept"))
def sp_Promise_le : DSp := fun ds M Q _ => ∃ p q a b c d, ds = [.ref p, .ref q] ∧ PrAt M p a b ∧ PrAt M q c d ∧ Q (.bl (leP a b c d)) M
def w_Promise_le_c1 : DTS := dRet (dOrV (dOp gEq (dFld "Promise" "_reserved" (dVar 0)) (dC (.str (T "fresh")))) (dOp gEq (dFld "Promise" "_reserved" (dVar 1)) (dC (.str (T "kept")))))
def w_Promise_le : DTS := dSeq (dIfS (dNot (dTru (dCB (gIsC "Promise") (daCons (dVar 1) (daCons (dC (.cl "Promise")) (daNil)))))) (dNever) (dPass)) (dSeq (dIfS (dAnd (dTest (dOp gEq (dFld "Promise" "_look" (dVar 0)) (dC (.str (T "kept"))))) (dTest (dOp gEq (dFld "Promise" "_look" (dVar 1)) (dC (.str (T "fresh")))))) (dRet (dC (.bl false))) (dPass)) (w_Promise_le_c1))
theorem p_Promise_le : ∀ ds M Q E, sp_Promise_le ds M Q E → w_Promise_le (Ret Q E) (ds.map some ++ List.replicate (2 - 2) none) M := by
  rintro ds M Q E ⟨p, q, a, b, c, d, rfl, h, h2, hQ⟩
  unfold leP at hQ
  unfold w_Promise_le
  try simp only [h, h2, pr_look, pr_res]
  walk_at "dl"
  try simp only [h, h2, pr_look, pr_res]
  walk_at "dl"
  try simp only [h, h2, pr_look, pr_res]
  walk_at "dl"
  try simp only [h, h2, pr_look, pr_res]
  walk_at "dl"
  try simp only [h, h2, pr_look, pr_res]
  walk_at "dl"
  try simp only [h, h2, pr_look, pr_res]
  walk_at "dl"
  try simp only [h, h2, pr_look, pr_res]
  walk_at "dl"
  try simp only [h, h2, pr_look, pr_res]
  walk_at "dl"
  try simp only [h, h2, pr_look, pr_res]
  walk_at "dl"
  try simp only [h, h2, pr_look, pr_res]
  walk_at "dl"
  have c1 : Q (.bl (decide (b = T "fresh") || decide (d = T "kept"))) M → w_Promise_le_c1 (Ret Q E) [some (D.ref p), some (D.ref q)] M := fun q1 => by
    unfold w_Promise_le_c1
    try simp only [h, h2, pr_look, pr_res]
    walk_at "dl"
    try simp only [h, h2, pr_look, pr_res]
    walk_at "dl"
    try simp only [h, h2, pr_look, pr_res]
    walk_at "dl"
    try simp only [h, h2, pr_look, pr_res]
    walk_at "dl"
    try simp only [h, h2, pr_look, pr_res]
    walk_at "dl"
    try simp only [h, h2, pr_look, pr_res]
    walk_at "dl"
    try simp only [h, h2, pr_look, pr_res]
    walk_at "dl"
    try simp only [h, h2, pr_look, pr_res]
    walk_at "dl"
    try simp only [h, h2, pr_look, pr_res]
    walk_at "dl"
    try simp only [h, h2, pr_look, pr_res]
    walk_at "dl"
    by_cases e : b = T "fresh"
    · rw [if_pos e]
      rw [decide_eq_true e, Bool.true_or] at q1
      exact q1
    · rw [if_neg e]
      rw [decide_eq_false e, Bool.false_or] at q1
      exact q1
  by_cases e1 : a = T "kept"
  · rw [if_pos e1]
    rw [decide_eq_true e1, Bool.true_and] at hQ
    by_cases e2 : c = T "fresh"
    · rw [if_pos e2]
      rw [decide_eq_true e2] at hQ
      exact hQ
    · rw [if_neg e2]
      rw [decide_eq_false e2] at hQ
      exact c1 hQ
  · rw [if_neg e1]
    rw [decide_eq_false e1, Bool.false_and] at hQ
    exact c1 hQ
end DL

namespace DL
open PySem L2
local macro_rules | `(tactic| walk_at "dl") => `(tactic| try simp (config := { proj := false }) only [↓gnx_mk, ↓grt_mk, ↓gbk_mk, ↓gct_mk, ↓gxc_mk, ↓gex_mk, ↓u_npl, ↓u_npass, ↓u_nseq, ↓u_nyield, ↓u_nif, ↓u_nfor, ↓u_listg, ↓u_nfz, ↓ex_mk, ↓nx_mk, ↓rt_mk, ↓bk_mk, ↓ct_mk, ↓xc_mk, ↓u_c, ↓u_op, ↓u_un, ↓u_and, ↓u_or, ↓u_not, ↓u_if, ↓u_anil, ↓u_acons, ↓u_lst, ↓u_lstM, ↓u_tup, ↓u_call, ↓u_sl, ↓u_onone, ↓u_cb, ↓u_mt, ↓u_mt0, ↓u_pass, ↓u_seq, ↓u_set, ↓u_asg, ↓u_drop, ↓u_ret, ↓u_retN, ↓u_ifs, ↓u_brk, ↓u_cnt, ↓u_for, ↓u_gname, ↓u_gsub, ↓u_fs, ↓u_fmt, ↓u_js0, ↓u_js, ↓u_em, ↓u_yes, ↓u_never, ↓u_ref, ↓u_forR, ↓u_star, ↓u_dict, ↓u_dict0, ↓u_dp0, ↓u_dp1, ↓u_forK, ↓u_lock, ↓u_kd, ↓u_fld, ↓u_setF, ↓u_make, ↓u_binL, ↓u_binR, ↓u_inO, ↓u_getO, ↓u_setO, ↓u_augO, ↓u_prp, ↓u_inv, ↓u_meth, ↓u_keys, ↓u_try, ↓u_cm, ↓u_makeV, ↓r_enum, ↓r_own, ↓u_raise, ↓u_tryas, ↓u_ca, ↓u_xf, ↓u_idxC, su_mk,
  ↓r_var, ↓r_test, ↓r_andV, ↓r_orV, ↓r_notV, ↓r_tru, ↓r_frz, ↓r_osome, ↓r_any, ↓r_scr, scr_c, ↓r_rng1, ↓r_rng2, ↓r_fz, wipeD,
  onSome_s, onBl_b, onInt_i, onStr_s, onVar_s, onML_l, onML2_l, onML2_d, onDK_d, fmt_s, fmt_i, tru_n, tru_b, tru_i, tru_s, tru_l, tru_t, tru_r, frz_r, sl_s, sl_l, sl_t, sl_r, add_i, add_s, add_l, add_t, add_rl, add_lr, sub_i, mul_i, div_i, mod_i, pow_i, neg_i, cmp_i, eq_i, eq_s, eq_b, eq_n, eq_l, eq_t, eq_rl, eq_lr, eq_ni, eq_in, eq_ns, eq_sn, eq_nb, eq_bn, eq_is, eq_si,
  ix_l, ix_t, ix_s, ix_ri, ix_rs, in_ss, in_l, in_t, in_ir, in_sr, isB_t, isB_f, ltS_s, gtS_s, sorted_l, keyK_s, keyK_i, u_dget, lenOR_r, listOR_r, isn_n, isn_b, isn_i, isn_s, isn_r, isn_l, isn_t, len_s, len_c, len_l, len_t, len_r, int_i, int_b, min_ii, max_ii, list_l, list_t, list_r, list_c, listM_l, listM_c, listM_t, listM_r, isi_, isi_k, ty_n, ty_b, ty_i, ty_s, ty_l, ty_t, it_s, it_l, it_r, itM_l, itM_d, app_r, rev_r, ends_s, ins_r, set_rs, str_i, str_s, ext_l, pop_r, clr_r, star_l, star_t, star_r, onRef_r, onML3_l, onML3_d, onML3_f, onDR_d, onDR_f, onFK_f, join_l, join_t, join_r, starts_s, r_gtup, r_glst, r_gnil, r_gcons, set_r, items_s, items_l, items_t, rng1_i, rng2_i, fz_r, addM_l, addM_rl, onIns_i, onLst_l, isIns_r, isInsM_i, noF_r, noFM_i, rows_r, lenO_r, listO_r, listOM_r, isCK_i, isCK_l, isC_r, isC_s, isC_i, isC_b, isC_n, isC_l, isC_t, putG_0, putG_1, lk_1, onCl_c, onEnum_l, index_l, strO_r, cmpO_r, pop1_r, tuple_l, tuple_t, divmod_i, upper_s, indexT_t, onExc_e, isE_t, isE_c, isE_v, zip_1,
  List.map_cons, List.map_nil, List.cons_append, List.nil_append, List.length_cons, List.length_nil, List.replicate, List.getElem?_cons_zero, List.getElem?_cons_succ, List.set_cons_zero, List.set_cons_succ, id, decide_eq_true_eq, if_true, if_false, Bool.false_eq_true, reduceIte, Bool.not_true, Bool.not_false, true_and, Nat.reduceAdd, Nat.reduceSub, Int.reduceToNat, Int.toNat_natCast, put_same, put_put, atI_0, atI_1, atI_2, atI_3, atI_4, ixN_40, ixN_41, ixN_42, ixN_43])
structure SP (p : Addr) (M M' : Mu) : Prop where
  src : Src M' p
  st : ∀ b o, b ≠ p → M b = some o → M' b = some o
theorem SP.trans {p : Addr} {M M1 M2 : Mu} (a : SP p M M1) (b : SP p M1 M2) : SP p M M2 := ⟨b.src, fun c o hc e => b.st c o hc (a.st c o hc e)⟩
theorem SrcTo.sp {p : Addr} {M M' : Mu} (h : SrcTo p M M') : SP p M M' := ⟨h.1, fun b o hb e => by rw [h.2 b hb]; exact e⟩
def sp_l_sign : DSp := fun ds M Q _ => ∃ p, ds = [.ref p] ∧ Src M p ∧ ∀ c M', SrcTo p M M' → Q (.str [c]) M'
def w_l_sign : DTS := dSeq (dIfS (dTest (dOp gEq (dCall sp_l_draw (daCons (dVar 0) (daCons (dC (.int 2)) (daNil)))) (dC (.int 0)))) (dRet (dCall sp_l_pick (daCons (dVar 0) (daCons (dC (.str (T " ,eKt\n"))) (daNil))))) (dPass)) (dSeq (dSet 1 (dC (.str (T " !\"#$&'()*+,-./0123456789:;<=>?@ABCDEFGHIJKLMNOPQRSTUVWXYZ[\\]^_`")))) (dRet (dCall sp_l_pick (daCons (dVar 0) (daCons (dOp gAdd (dVar 1) (dC (.str (T "abcdefghijklmnopqrstuvwxyz{|}~\n")))) (daNil))))))
theorem pick_s {a : Addr} {t : Tx} {M : Mu} {Q : DK} {E : DX} (h : Src M a) (h0 : 0 < t.length) (h1 : t.length < 1000000) (k : ∀ c M', c ∈ t → SrcTo a M M' → Q (.str [c]) M') : sp_l_pick [.ref a, .str t] M Q E :=
  pick_ h (xs := t.map fun c => D.str [c]) rfl (by rw [List.length_map]; exact h0) (by rw [List.length_map]; exact h1) fun d M' hd s => by
    obtain ⟨c, hc, rfl⟩ := List.mem_map.mp hd
    exact k c M' hc s
theorem p_l_sign : ∀ ds M Q E, sp_l_sign ds M Q E → w_l_sign (Ret Q E) (ds.map some ++ List.replicate (2 - 1) none) M := by
  rintro ds M Q E ⟨p, rfl, hs, hQ⟩
  unfold w_l_sign
  walk_at "dl"
  refine draw_ hs (by decide) (by decide) fun j M1 j0 j1 s1 => ?_
  walk_at "dl"
  by_cases h : j = 0
  · rw [if_pos h]
    exact pick_s s1.1 (by decide +kernel) (by decide +kernel) fun c M2 _ s2 => hQ c M2 (s1.trans s2)
  · rw [if_neg h]
    refine ⟨by decide +kernel, ?_⟩
    exact pick_s s1.1 (by decide +kernel) (by decide +kernel) fun c M2 _ s2 => hQ c M2 (s1.trans s2)
theorem src_puts {M : Mu} {a q : Addr} {m : MO} (h : Src M a) (n : q ≠ a) : Src (put M q m) a := by
  obtain ⟨ns, t, r, d, e, h0⟩ := h
  exact ⟨ns, t, r, d, by rw [put_ne (Ne.symm n)]; exact e, h0⟩
theorem joinE : ∀ l : List Tx, joinT [] l = l.flatten
  | [] => rfl
  | [x] => by simp [joinT, TL.joinL]
  | x :: y :: r => by
    have := joinE (y :: r)
    show x ++ ([] ++ joinT [] (y :: r)) = _
    rw [this]; simp
theorem flatE (l : List Tx) : (l.map (·.length)).sum = l.flatten.length := by rw [List.length_flatten]
theorem sum_le {n : Nat} : ∀ {ls : List Tx}, (∀ l ∈ ls, l.length ≤ n) → (ls.map (·.length)).sum ≤ ls.length * n
  | [], _ => by simp
  | x :: r, h => by
    have := sum_le fun l hl => h l (List.mem_cons_of_mem _ hl)
    have := h x List.mem_cons_self
    rw [List.map_cons, List.sum_cons, List.length_cons, Nat.succ_mul]
    omega
def sp_l_text : DSp := fun ds M Q _ => ∃ (p : Addr) (ts : List Tx), ds = [.ref p, .lst (txs ts)] ∧ Src M p ∧ 0 < ts.length ∧ ts.length < 1000 ∧ ∀ u M', SP p M M' → Q (.str u) M'
def w_l_text : DTS := dSeq (dIfS (dTest (dOp gEq (dCall sp_l_draw (daCons (dVar 0) (daCons (dC (.int 8)) (daNil)))) (dC (.int 1)))) (dRet (dMt "str" gJoin (dC (.str [])) (daCons (dFrz (dLcM (diRng1 (daCons (dCall sp_l_draw (daCons (dVar 0) (daCons (dC (.int 9)) (daNil)))) (daNil))) (dgName 2) (dYes) [2] [] (dCall sp_l_sign (daCons (dVar 0) (daNil))))) (daNil)))) (dPass)) (dRet (dCall sp_l_pick (daCons (dVar 0) (daCons (dVar 1) (daNil)))))
theorem p_l_text : ∀ ds M Q E, sp_l_text ds M Q E → w_l_text (Ret Q E) (ds.map some ++ List.replicate (3 - 2) none) M := by
  rintro ds M Q E ⟨p, ts, rfl, hs, h0, h1, hQ⟩
  unfold w_l_text
  walk_at "dl"
  refine draw_ hs (by decide) (by decide) fun j M1 j0 j1 s1 => ?_
  walk_at "dl"
  by_cases h : j = 1
  · rw [if_pos h]
    try simp only [dLcM]
    walk_at "dl"
    try simp only [dLcM]
    walk_at "dl"
    refine draw_ s1.1 (by decide) (by decide) fun n M4 n0 n1 s4 => ?_
    walk_at "dl"
    refine ⟨by omega, by omega, fun r hr => ?_⟩
    have nr : r ≠ p := fun z => by
      obtain ⟨ns, t, r2, d, e, _⟩ := s4.1
      rw [← z, hr] at e
      cases e
    refine lc_by (fun i acc M' => i ≤ 13 ∧ ∃ cs : List Nat, acc = cs.map (fun c => D.str [c]) ∧ cs.length = i ∧ Src M' p ∧ ∀ b, b ≠ p → b ≠ r → M' b = M4 b) ⟨by decide, [], rfl, rfl, src_puts s4.1 nr, fun b _ h => put_ne h⟩ put_same ?_ ?_
    · rintro i d acc M' hd ha ⟨hi5, cs, rfl, hl, hs, hb⟩ N hy hn
      obtain ⟨rfl, hi⟩ := upTo_at hd
      walk_at "dl"
      refine ⟨p, rfl, hs, fun ch M5 s5 => ?_⟩
      have h5 : M5 r = some (.lst (cs.map fun c => D.str [c])) := by rw [s5.2 r nr]; exact ha
      exact ⟨_, h5, by rw [List.length_map, hl, line24]; omega, hy _ M5 h5 ⟨by omega, cs ++ [ch], by simp, by rw [List.length_append, hl]; rfl, src_puts s5.1 nr, fun b b1 b2 => by rw [put_ne b2, s5.2 b b1, hb b b1 b2]⟩⟩
    · rintro acc M' ha ⟨_, cs, rfl, hl, hs, hb⟩
      try simp only [ha]
      walk_at "dl"
      try simp only [ha]
      walk_at "dl"
      try simp only [ha]
      walk_at "dl"
      try simp only [ha]
      walk_at "dl"
      try simp only [ha]
      walk_at "dl"
      try simp only [ha]
      walk_at "dl"
      try simp only [ha]
      walk_at "dl"
      try simp only [ha]
      walk_at "dl"
      try simp only [ha]
      walk_at "dl"
      try simp only [ha]
      walk_at "dl"
      rw [upTo_len] at hl
      have lw : ∀ y ∈ cs.map (fun c => ([c] : Tx)), y.length ≤ 1 := fun y hy => by obtain ⟨c, _, rfl⟩ := List.mem_map.mp hy; exact Nat.le_refl _
      have g := sum_le lw
      rw [List.length_map] at g
      refine ⟨cs.map fun c => [c], by rw [List.map_map]; rfl, by rw [List.length_map]; omega, hQ _ _ ((s1.trans s4).sp.trans ⟨?_, fun b o b1 e => ?_⟩)⟩
      · obtain ⟨ns, t, r2, d, e, z⟩ := hs
        exact ⟨ns, t, r2, d, by rw [del_ne (Ne.symm nr)]; exact e, z⟩
      · have b2 : b ≠ r := fun z => by rw [z, hr] at e; cases e
        rw [del_ne b2, hb b b1 b2]
        exact e
  · rw [if_neg h]
    refine pick_ s1.1 (xs := txs ts) rfl (by rw [txs, List.length_map]; exact h0) (by rw [txs, List.length_map]; omega) fun d M4 hd s4 => ?_
    obtain ⟨u, _, rfl⟩ := List.mem_map.mp hd
    exact hQ u M4 (s1.trans s4).sp
/-! what is told -/
theorem pln_tt {a b : Tx} : pln 8 (.tup [.str a, .str b]) = true := by
  unfold pln plnIn
  rw [show decide ([D.str a, D.str b].length ≤ 1000000) = true from rfl, Bool.true_and]
  refine plns_of fun d hd => ?_
  simp only [List.mem_cons, List.not_mem_nil, or_false] at hd
  rcases hd with rfl | rfl <;> (unfold pln; rfl)
theorem sm_d {d : D} {M : Mu} {Q : DK} {E : DX} (h : pln 8 d = true) (q : Q (.bl true) M) : sp_l_same 8 [d, d] M Q E := by
  refine ⟨_, _, rfl, by rw [vw_pln _ h]; exact h, by rw [vw_pln _ h]; exact h, ?_⟩
  rw [vw_pln _ h, eqD_refl]
  exact q
theorem sm_str {t : Tx} {M : Mu} {Q : DK} {E : DX} (q : Q (.bl true) M) : sp_l_same 8 [.str t, .str t] M Q E := sm_d (by unfold pln; rfl) q
theorem sm_bl {t : Bool} {M : Mu} {Q : DK} {E : DX} (q : Q (.bl true) M) : sp_l_same 8 [.bl t, .bl t] M Q E := sm_d (by unfold pln; rfl) q
def P2 : List Tx := [T "look", T "reserved"]
def chgD (t c : Tx) : D := if t ∉ P2 then .tup [.str (T "InvalidPromise"), .str t] else if c ∉ W2 then .tup [.str (T "InvalidPromise"), .str c] else .tup [.str (T "changed"), .str []]
/-- the words behind a change that is done -/
def chgW (t c a b : Tx) : Tx × Tx := if t = T "look" then (c, b) else (a, c)
def chgM (t c a b : Tx) (p : Addr) (M : Mu) : Mu := if t ∈ P2 ∧ c ∈ W2 then put M p (Prm (chgW t c a b).1 (chgW t c a b).2) else M
def sp_l_changed : DSp := fun ds M Q _ => ∃ p a b t c, ds = [.ref p, .str t, .str c] ∧ PrAt M p a b ∧ Q (chgD t c) (chgM t c a b p M)
def w_l_changed_t1 : DTS := dSeq (dIfS (dTest (dOp gNotN (dMeth "Promise" "change" sp_Promise_change (dVar 0) (daCons (dVar 1) (daCons (dVar 2) (daNil)))) (dC .non))) (dRet (dTup (daCons (dC (.str (T "other"))) (daCons (dC (.str [])) (daNil))))) (dPass)) (dRet (dTup (daCons (dC (.str (T "changed"))) (daCons (dC (.str [])) (daNil)))))
def w_l_changed_x2 (a dd : Addr) (C : Str) : DTS := dSeq (dIfS (dTru (dCB (gIsE a dd C ["InvalidPlace", "NotBeneath", "InvalidEntry", "InvalidRule", "InvalidPromise", "InvalidProgram", "InvalidName", "OverPower", "Stale", "NotSharing", "NotMendable", "Unsound", "TooMany", "LentError"]) (daCons (dVar 3) (daCons (dTup (daCons (dC (.cl "InvalidPlace")) (daCons (dC (.cl "NotBeneath")) (daCons (dC (.cl "InvalidEntry")) (daCons (dC (.cl "InvalidRule")) (daCons (dC (.cl "InvalidProgram")) (daCons (dC (.cl "InvalidName")) (daNil)))))))) (daNil))))) (dRet (dTup (daCons (dC (.str (T "other"))) (daCons (dC (.str [])) (daNil))))) (dPass)) (dSeq (dIfS (dTru (dCB (gIsE a dd C ["InvalidPlace", "NotBeneath", "InvalidEntry", "InvalidRule", "InvalidPromise", "InvalidProgram", "InvalidName", "OverPower", "Stale", "NotSharing", "NotMendable", "Unsound", "TooMany", "LentError"]) (daCons (dVar 3) (daCons (dTup (daCons (dC (.cl "OverPower")) (daCons (dC (.cl "Stale")) (daCons (dC (.cl "NotSharing")) (daCons (dC (.cl "NotMendable")) (daCons (dC (.cl "Unsound")) (daCons (dC (.cl "TooMany")) (daNil)))))))) (daNil))))) (dRet (dTup (daCons (dC (.str (T "other"))) (daCons (dC (.str [])) (daNil))))) (dPass)) (dIfS (dAnd (dTru (dCB (gIsE a dd C ["InvalidPlace", "NotBeneath", "InvalidEntry", "InvalidRule", "InvalidPromise", "InvalidProgram", "InvalidName", "OverPower", "Stale", "NotSharing", "NotMendable", "Unsound", "TooMany", "LentError"]) (daCons (dVar 3) (daCons (dC (.cl "InvalidPromise")) (daNil))))) (dTru (dCB (gIsE a dd C ["InvalidPlace", "NotBeneath", "InvalidEntry", "InvalidRule", "InvalidPromise", "InvalidProgram", "InvalidName", "OverPower", "Stale", "NotSharing", "NotMendable", "Unsound", "TooMany", "LentError"]) (daCons (dVar 3) (daCons (dC (.ty "ValueError")) (daNil)))))) (dRet (dTup (daCons (dC (.str (T "InvalidPromise"))) (daCons (dXF a dd C "text" (dVar 3)) (daNil))))) (dPass)))
def w_l_changed_c3 : DTS := dRet (dTup (daCons (dC (.str (T "other"))) (daCons (dC (.str [])) (daNil))))
def w_l_changed : DTS := dSeq (dTryAs ["InvalidPromise"] 3 (w_l_changed_t1) w_l_changed_x2) (w_l_changed_c3)
theorem chg_x {a dd : Addr} {x0 x1 x2 : Option D} {t : Tx} {M : Mu} {D0 : DEnds} (h : D0.rt (.tup [.str (T "InvalidPromise"), .str t]) M) : w_l_changed_x2 a dd "InvalidPromise" D0 [x0, x1, x2, some (.exc a dd "InvalidPromise" ["text"] [.str t])] M := by
  unfold w_l_changed_x2
  walk_at "dl"
  refine ⟨by decide, by decide +kernel, ?_⟩
  rw [if_neg (by decide +kernel)]
  refine ⟨by decide, by decide +kernel, ?_⟩
  rw [if_neg (by decide +kernel)]
  refine ⟨by decide +kernel, ?_⟩
  rw [if_pos (by decide +kernel)]
  exact ⟨by decide, h⟩
theorem look_ne : T "look" ≠ T "reserved" := by decide +kernel
theorem p_l_changed : ∀ ds M Q E, sp_l_changed ds M Q E → w_l_changed (Ret Q E) (ds.map some ++ List.replicate (4 - 3) none) M := by
  rintro ds M Q E ⟨p, a, b, t, c, rfl, h, hQ⟩
  unfold w_l_changed
  walk_at "dl"
  unfold w_l_changed_t1
  try simp only [h]
  walk_at "dl"
  try simp only [h]
  walk_at "dl"
  try simp only [h]
  walk_at "dl"
  try simp only [h]
  walk_at "dl"
  try simp only [h]
  walk_at "dl"
  try simp only [h]
  walk_at "dl"
  try simp only [h]
  walk_at "dl"
  try simp only [h]
  walk_at "dl"
  try simp only [h]
  walk_at "dl"
  try simp only [h]
  walk_at "dl"
  refine ⟨by decide, p, a, b, t, c, rfl, h, fun e hc => ?_, fun e hc => ?_, fun e hc => ?_, fun e1 e2 => ?_⟩
  · subst e
    walk_at "dl"
    have ht : T "look" ∈ P2 := by simp [P2]
    unfold chgD chgM chgW at hQ
    rw [if_neg (fun z => z ht), if_neg (fun z => z hc), if_pos ⟨ht, hc⟩, if_pos rfl] at hQ
    exact ⟨by decide, hQ⟩
  · subst e
    walk_at "dl"
    have ht : T "reserved" ∈ P2 := by simp [P2]
    unfold chgD chgM chgW at hQ
    rw [if_neg (fun z => z ht), if_neg (fun z => z hc), if_pos ⟨ht, hc⟩, if_neg (Ne.symm look_ne)] at hQ
    exact ⟨by decide, hQ⟩
  · have ht : t ∈ P2 := by rcases e with rfl | rfl <;> simp [P2]
    unfold chgD chgM at hQ
    rw [if_neg (fun z => z ht), if_pos hc, if_neg (fun z => hc z.2)] at hQ
    unfold errPr
    walk_at "dl"
    exact ⟨by decide, fun a dd ha => chg_x hQ⟩
  · have ht : t ∉ P2 := by simp [P2, e1, e2]
    unfold chgD chgM at hQ
    rw [if_pos ht, if_neg (fun z => ht z.1)] at hQ
    unfold errPr
    walk_at "dl"
    exact ⟨by decide, fun a dd ha => chg_x hQ⟩
/-- a list of two words, that may change or not -/
def WsAt (M : Mu) (y : D) (a b : Tx) : Prop := y = .lst [.str a, .str b] ∨ ∃ q, y = .ref q ∧ M q = some (.lst [.str a, .str b])
def sp_l_shows : DSp := fun ds M Q _ => ∃ p y a b, ds = [.ref p, y] ∧ PrAt M p a b ∧ a ∈ W2 ∧ b ∈ W2 ∧ WsAt M y a b ∧ Q (.bl true) M
def w_l_shows_c1 : DTS := dRet (dAndV (dCall (sp_l_same 8) (daCons (dPrp "Promise" sp_Promise_look (dVar 0)) (daCons (dOp gIx (dVar 1) (dC (.int 0))) (daNil)))) (dCall (sp_l_same 8) (daCons (dPrp "Promise" sp_Promise_reserved (dVar 0)) (daCons (dOp gIx (dVar 1) (dC (.int 1))) (daNil)))))
def w_l_shows : DTS := dSeq (dIfS (dOr (dNot (dTru (dCB (gIsC "Promise") (daCons (dVar 0) (daCons (dC (.cl "Promise")) (daNil)))))) (dNot (dTru (dCall (sp_l_same 8) (daCons (dCB (gStrO "Promise" sp_Promise_str) (daCons (dVar 0) (daNil))) (daCons (dOp gAdd (dOp gAdd (dOp gIx (dVar 1) (dC (.int 0))) (dC (.str [32]))) (dOp gIx (dVar 1) (dC (.int 1)))) (daNil))))))) (dRet (dC (.bl false))) (dPass)) (w_l_shows_c1)
theorem p_l_shows : ∀ ds M Q E, sp_l_shows ds M Q E → w_l_shows (Ret Q E) (ds.map some ++ List.replicate (2 - 2) none) M := by
  rintro ds M Q E ⟨p, y, a, b, rfl, h, ha, hb, hy, hQ⟩
  have la := w2_len ha
  have lb := w2_len hb
  rcases hy with rfl | ⟨q, rfl, hq⟩
  · unfold w_l_shows
    try simp only [h]
    walk_at "dl"
    try simp only [h]
    walk_at "dl"
    try simp only [h]
    walk_at "dl"
    try simp only [h]
    walk_at "dl"
    try simp only [h]
    walk_at "dl"
    try simp only [h]
    walk_at "dl"
    try simp only [h]
    walk_at "dl"
    try simp only [h]
    walk_at "dl"
    try simp only [h]
    walk_at "dl"
    try simp only [h]
    walk_at "dl"
    refine ⟨p, a, b, rfl, h, ha, hb, ?_⟩
    have e1 : (a ++ [32]).length = a.length + 1 := by simp
    refine ⟨⟨_, rfl⟩, by omega, by omega, ?_⟩
    walk_at "dl"
    refine sm_str ?_
    walk_at "dl"
    unfold w_l_shows_c1
    try simp only [h]
    walk_at "dl"
    try simp only [h]
    walk_at "dl"
    try simp only [h]
    walk_at "dl"
    try simp only [h]
    walk_at "dl"
    try simp only [h]
    walk_at "dl"
    try simp only [h]
    walk_at "dl"
    try simp only [h]
    walk_at "dl"
    try simp only [h]
    walk_at "dl"
    try simp only [h]
    walk_at "dl"
    try simp only [h]
    walk_at "dl"
    refine ⟨p, a, b, rfl, h, ?_⟩
    walk_at "dl"
    refine sm_str ?_
    try simp only [h]
    walk_at "dl"
    try simp only [h]
    walk_at "dl"
    try simp only [h]
    walk_at "dl"
    try simp only [h]
    walk_at "dl"
    try simp only [h]
    walk_at "dl"
    try simp only [h]
    walk_at "dl"
    try simp only [h]
    walk_at "dl"
    try simp only [h]
    walk_at "dl"
    try simp only [h]
    walk_at "dl"
    try simp only [h]
    walk_at "dl"
    refine ⟨p, a, b, rfl, h, ?_⟩
    walk_at "dl"
    exact sm_str hQ
  · unfold w_l_shows
    try simp only [h, hq]
    walk_at "dl"
    try simp only [h, hq]
    walk_at "dl"
    try simp only [h, hq]
    walk_at "dl"
    try simp only [h, hq]
    walk_at "dl"
    try simp only [h, hq]
    walk_at "dl"
    try simp only [h, hq]
    walk_at "dl"
    try simp only [h, hq]
    walk_at "dl"
    try simp only [h, hq]
    walk_at "dl"
    try simp only [h, hq]
    walk_at "dl"
    try simp only [h, hq]
    walk_at "dl"
    refine ⟨p, a, b, rfl, h, ha, hb, ?_⟩
    have e1 : (a ++ [32]).length = a.length + 1 := by simp
    refine ⟨⟨_, rfl⟩, ?_⟩
    try simp only [hq]
    walk_at "dl"
    try simp only [hq]
    walk_at "dl"
    try simp only [hq]
    walk_at "dl"
    try simp only [hq]
    walk_at "dl"
    try simp only [hq]
    walk_at "dl"
    try simp only [hq]
    walk_at "dl"
    try simp only [hq]
    walk_at "dl"
    try simp only [hq]
    walk_at "dl"
    try simp only [hq]
    walk_at "dl"
    try simp only [hq]
    walk_at "dl"
    refine ⟨by omega, by omega, ?_⟩
    refine sm_str ?_
    walk_at "dl"
    unfold w_l_shows_c1
    try simp only [h, hq]
    walk_at "dl"
    try simp only [h, hq]
    walk_at "dl"
    try simp only [h, hq]
    walk_at "dl"
    try simp only [h, hq]
    walk_at "dl"
    try simp only [h, hq]
    walk_at "dl"
    try simp only [h, hq]
    walk_at "dl"
    try simp only [h, hq]
    walk_at "dl"
    try simp only [h, hq]
    walk_at "dl"
    try simp only [h, hq]
    walk_at "dl"
    try simp only [h, hq]
    walk_at "dl"
    refine ⟨p, a, b, rfl, h, ?_⟩
    try simp only [h, hq]
    walk_at "dl"
    try simp only [h, hq]
    walk_at "dl"
    try simp only [h, hq]
    walk_at "dl"
    try simp only [h, hq]
    walk_at "dl"
    try simp only [h, hq]
    walk_at "dl"
    try simp only [h, hq]
    walk_at "dl"
    try simp only [h, hq]
    walk_at "dl"
    try simp only [h, hq]
    walk_at "dl"
    try simp only [h, hq]
    walk_at "dl"
    try simp only [h, hq]
    walk_at "dl"
    refine sm_str ?_
    try simp only [h, hq]
    walk_at "dl"
    try simp only [h, hq]
    walk_at "dl"
    try simp only [h, hq]
    walk_at "dl"
    try simp only [h, hq]
    walk_at "dl"
    try simp only [h, hq]
    walk_at "dl"
    try simp only [h, hq]
    walk_at "dl"
    try simp only [h, hq]
    walk_at "dl"
    try simp only [h, hq]
    walk_at "dl"
    try simp only [h, hq]
    walk_at "dl"
    try simp only [h, hq]
    walk_at "dl"
    refine ⟨p, a, b, rfl, h, ?_⟩
    try simp only [h, hq]
    walk_at "dl"
    try simp only [h, hq]
    walk_at "dl"
    try simp only [h, hq]
    walk_at "dl"
    try simp only [h, hq]
    walk_at "dl"
    try simp only [h, hq]
    walk_at "dl"
    try simp only [h, hq]
    walk_at "dl"
    try simp only [h, hq]
    walk_at "dl"
    try simp only [h, hq]
    walk_at "dl"
    try simp only [h, hq]
    walk_at "dl"
    try simp only [h, hq]
    walk_at "dl"
    exact sm_str hQ
/-! two promises compared -/
theorem all4 {P : Tx → Tx → Tx → Tx → Bool} (h : (W2.all fun a => W2.all fun b => W2.all fun c => W2.all fun d => P a b c d) = true) {a b c d : Tx} (ha : a ∈ W2) (hb : b ∈ W2) (hc : c ∈ W2) (hd : d ∈ W2) : P a b c d = true :=
  List.all_eq_true.mp (List.all_eq_true.mp (List.all_eq_true.mp (List.all_eq_true.mp h a ha) b hb) c hc) d hd
def lawLe (a b c d : Tx) : Bool := (decide (a = T "fresh") || decide (c = T "kept")) && (decide (b = T "fresh") || decide (d = T "kept"))
theorem le_law {a b c d : Tx} (ha : a ∈ W2) (hb : b ∈ W2) (hc : c ∈ W2) (hd : d ∈ W2) : leP a b c d = lawLe a b c d :=
  eq_of_beq (all4 (P := fun a b c d => leP a b c d == lawLe a b c d) (by decide +kernel) ha hb hc hd)
theorem w2_ok {t : Tx} (h : t ∈ W2) : okT t := by
  have : W2.all (fun t => t.all fun c => decide (c < 1114112)) = true := by decide +kernel
  have q := List.all_eq_true.mp (List.all_eq_true.mp this t h)
  exact fun c hc => of_decide_eq_true (q c hc)
theorem eqW {x y : D} {a b c d : Tx} {M : Mu} {N : DK} (ha : a ∈ W2) (hb : b ∈ W2) (hc : c ∈ W2) (hd : d ∈ W2) (h : (x = .lst [.str a, .str b] ∧ WsAt M y c d) ∨ (y = .lst [.str c, .str d] ∧ WsAt M x a b)) (k : N (.bl (decide (a = c) && decide (b = d))) M) : opK (K := N) ⟨⟩ (gEqN id) x y M := by
  have ok1 : eqOk (.lst [.str a, .str b]) = true := eqOk_strs (xs := [a, b]) fun t ht => by
    simp only [List.mem_cons, List.not_mem_nil, or_false] at ht
    rcases ht with rfl | rfl <;> exact w2_ok (by assumption)
  have ok2 : eqOk (.lst [.str c, .str d]) = true := eqOk_strs (xs := [c, d]) fun t ht => by
    simp only [List.mem_cons, List.not_mem_nil, or_false] at ht
    rcases ht with rfl | rfl <;> exact w2_ok (by assumption)
  have e : PyData.eqv (.list (pds [.str a, .str b])) (.list (pds [.str c, .str d])) = (decide (a = c) && decide (b = d)) := by
    rw [show PyData.eqv (.list (pds [.str a, .str b])) (.list (pds [.str c, .str d])) = decide ([a, b] = [c, d]) from eqvL_strs [a, b] [c, d], Bool.eq_iff_iff, Bool.and_eq_true, decide_eq_true_iff, decide_eq_true_iff, decide_eq_true_iff]
    simp
  rcases h with ⟨rfl, rfl | ⟨q, rfl, hq⟩⟩ | ⟨rfl, rfl | ⟨q, rfl, hq⟩⟩
  · walk_at "dl"
    rw [e]
    exact ⟨ok1, ok2, k⟩
  · try simp only [hq]
    walk_at "dl"
    try simp only [hq]
    walk_at "dl"
    try simp only [hq]
    walk_at "dl"
    try simp only [hq]
    walk_at "dl"
    try simp only [hq]
    walk_at "dl"
    try simp only [hq]
    walk_at "dl"
    try simp only [hq]
    walk_at "dl"
    try simp only [hq]
    walk_at "dl"
    try simp only [hq]
    walk_at "dl"
    try simp only [hq]
    walk_at "dl"
    rw [e]
    exact ⟨ok1, ok2, k⟩
  · walk_at "dl"
    rw [e]
    exact ⟨ok1, ok2, k⟩
  · try simp only [hq]
    walk_at "dl"
    try simp only [hq]
    walk_at "dl"
    try simp only [hq]
    walk_at "dl"
    try simp only [hq]
    walk_at "dl"
    try simp only [hq]
    walk_at "dl"
    try simp only [hq]
    walk_at "dl"
    try simp only [hq]
    walk_at "dl"
    try simp only [hq]
    walk_at "dl"
    try simp only [hq]
    walk_at "dl"
    try simp only [hq]
    walk_at "dl"
    rw [e]
    exact ⟨ok1, ok2, k⟩
theorem WsAt.ix0 {x : D} {a b : Tx} {M : Mu} {N : DK} (h : WsAt M x a b) (k : N (.str a) M) : opK (K := N) ⟨⟩ gIx x (.int 0) M := by
  rcases h with rfl | ⟨q, rfl, hq⟩
  · walk_at "dl"
    exact k
  · try simp only [hq]
    walk_at "dl"
    try simp only [hq]
    walk_at "dl"
    try simp only [hq]
    walk_at "dl"
    try simp only [hq]
    walk_at "dl"
    try simp only [hq]
    walk_at "dl"
    try simp only [hq]
    walk_at "dl"
    try simp only [hq]
    walk_at "dl"
    try simp only [hq]
    walk_at "dl"
    try simp only [hq]
    walk_at "dl"
    try simp only [hq]
    walk_at "dl"
    exact k
theorem WsAt.ix1 {x : D} {a b : Tx} {M : Mu} {N : DK} (h : WsAt M x a b) (k : N (.str b) M) : opK (K := N) ⟨⟩ gIx x (.int 1) M := by
  rcases h with rfl | ⟨q, rfl, hq⟩
  · walk_at "dl"
    exact k
  · try simp only [hq]
    walk_at "dl"
    try simp only [hq]
    walk_at "dl"
    try simp only [hq]
    walk_at "dl"
    try simp only [hq]
    walk_at "dl"
    try simp only [hq]
    walk_at "dl"
    try simp only [hq]
    walk_at "dl"
    try simp only [hq]
    walk_at "dl"
    try simp only [hq]
    walk_at "dl"
    try simp only [hq]
    walk_at "dl"
    try simp only [hq]
    walk_at "dl"
    exact k
theorem WsAt.put {x : D} {a b : Tx} {M : Mu} {p : Addr} {o : MO} (h : WsAt M x a b) (hp : M p = none) : WsAt (put M p o) x a b := h.elim .inl fun ⟨q, e, hq⟩ => .inr ⟨q, e, by rw [put_ne (fun z => by rw [z, hp] at hq; cases hq)]; exact hq⟩
def sp_l_compared : DSp := fun ds M Q _ => ∃ p q x y a b c d, ds = [.ref p, .ref q, x, y] ∧ PrAt M p a b ∧ PrAt M q c d ∧ (a ∈ W2 ∧ b ∈ W2 ∧ c ∈ W2 ∧ d ∈ W2) ∧ ((x = .lst [.str a, .str b] ∧ WsAt M y c d) ∨ (y = .lst [.str c, .str d] ∧ WsAt M x a b)) ∧ Q (.bl true) M
def w_l_compared : DTS := dSeq (dSet 4 (dCB gAll (daCons (dFrz (dLcM (diRng1 (daCons (dC (.int 2)) (daNil))) (dgName 5) (dYes) [5] [] (dOrV (dOp gEq (dOp gIx (dVar 2) (dVar 5)) (dC (.str (T "fresh")))) (dOp gEq (dOp gIx (dVar 3) (dVar 5)) (dC (.str (T "kept"))))))) (daNil)))) (dRet (dAndV (dCall (sp_l_same 8) (daCons (dOp (gCmpO "Promise" sp_Promise_le) (dVar 0) (dVar 1)) (daCons (dVar 4) (daNil)))) (dCall (sp_l_same 8) (daCons (dOp (gCmpO "Promise" sp_Promise_eq) (dVar 0) (dVar 1)) (daCons (dOp gEq (dVar 2) (dVar 3)) (daNil))))))
theorem p_l_compared : ∀ ds M Q E, sp_l_compared ds M Q E → w_l_compared (Ret Q E) (ds.map some ++ List.replicate (6 - 4) none) M := by
  rintro ds M Q E ⟨p, q, x, y, a, b, c, d, rfl, hp, hq, ⟨ha, hb, hc, hd⟩, hxy, hQ⟩
  have hx : WsAt M x a b := hxy.elim (fun z => .inl z.1) fun z => z.2
  have hy : WsAt M y c d := hxy.elim (fun z => z.2) fun z => .inl z.1
  unfold w_l_compared
  try simp only [dLcM]
  walk_at "dl"
  try simp only [dLcM]
  walk_at "dl"
  refine ⟨by decide, by decide, fun u hu => ?_⟩
  have eu : upTo 0 2 = [D.int 0, D.int 1] := rfl
  rw [eu]
  refine lc_map (f := fun z => match z with
    | .int k => if k = 0 then .bl (decide (a = T "fresh") || decide (c = T "kept")) else .bl (decide (b = T "fresh") || decide (d = T "kept"))
    | _ => .non) (by decide) ?_ ?_
  · intro z hz acc N hN
    simp only [List.mem_cons, List.not_mem_nil, or_false] at hz
    have hx2 := hx.put (o := .lst acc) hu
    have hy2 := hy.put (o := .lst acc) hu
    rcases hz with rfl | rfl
    · walk_at "dl"
      refine hx2.ix0 ?_
      walk_at "dl"
      by_cases e : a = T "fresh"
      · rw [if_pos e]
        rw [decide_eq_true e] at hN
        exact hN
      · rw [if_neg e]
        rw [decide_eq_false e] at hN
        refine hy2.ix0 ?_
        walk_at "dl"
        exact hN
    · walk_at "dl"
      refine hx2.ix1 ?_
      walk_at "dl"
      by_cases e : b = T "fresh"
      · rw [if_pos e]
        rw [decide_eq_true e] at hN
        exact hN
      · rw [if_neg e]
        rw [decide_eq_false e] at hN
        refine hy2.ix1 ?_
        walk_at "dl"
        exact hN
  · try simp only [put_same, del_put_new hu]
    walk_at "dl"
    try simp only [put_same, del_put_new hu]
    walk_at "dl"
    refine ⟨[decide (a = T "fresh") || decide (c = T "kept"), decide (b = T "fresh") || decide (d = T "kept")], rfl, ?_⟩
    try simp only [hp, hq]
    walk_at "dl"
    try simp only [hp, hq]
    walk_at "dl"
    try simp only [hp, hq]
    walk_at "dl"
    try simp only [hp, hq]
    walk_at "dl"
    try simp only [hp, hq]
    walk_at "dl"
    try simp only [hp, hq]
    walk_at "dl"
    try simp only [hp, hq]
    walk_at "dl"
    try simp only [hp, hq]
    walk_at "dl"
    try simp only [hp, hq]
    walk_at "dl"
    try simp only [hp, hq]
    walk_at "dl"
    refine ⟨.inl trivial, p, q, a, b, c, d, rfl, hp, hq, ?_⟩
    have el : ([decide (a = T "fresh") || decide (c = T "kept"), decide (b = T "fresh") || decide (d = T "kept")].all id) = leP a b c d := by
      rw [le_law ha hb hc hd]
      simp [lawLe]
    rw [el]
    refine sm_bl ?_
    try simp only [hp, hq]
    walk_at "dl"
    try simp only [hp, hq]
    walk_at "dl"
    try simp only [hp, hq]
    walk_at "dl"
    try simp only [hp, hq]
    walk_at "dl"
    try simp only [hp, hq]
    walk_at "dl"
    try simp only [hp, hq]
    walk_at "dl"
    try simp only [hp, hq]
    walk_at "dl"
    try simp only [hp, hq]
    walk_at "dl"
    try simp only [hp, hq]
    walk_at "dl"
    try simp only [hp, hq]
    walk_at "dl"
    refine ⟨.inl trivial, p, .ref q, rfl, a, b, hp, .inl ⟨q, c, d, rfl, hq, ?_⟩⟩
    walk_at "dl"
    refine eqW ha hb hc hd hxy ?_
    walk_at "dl"
    exact sm_bl hQ
/-! the four promises -/
def L4 : List (Tx × Tx) := [(T "fresh", T "fresh"), (T "fresh", T "kept"), (T "kept", T "fresh"), (T "kept", T "kept")]
def prM (w : Tx × Tx) : MO := Prm w.1 w.2
def wsD (w : Tx × Tx) : D := .lst [.str w.1, .str w.2]
theorem l4_w2 {w : Tx × Tx} (h : w ∈ L4) : w.1 ∈ W2 ∧ w.2 ∈ W2 := by
  simp only [L4, List.mem_cons, List.not_mem_nil, or_false] at h
  rcases h with rfl | rfl | rfl | rfl <;> simp [W2]
def sp_all_promises : DSpG := fun ds M Q _ => ds = [] ∧ ∀ (ps : List Addr) M', ps.length = 4 → ps.Nodup → (∀ (i : Nat) (a : Addr) (w : Tx × Tx), ps[i]? = some a → L4[i]? = some w → M' a = some (prM w)) → (∀ a ∈ ps, M a = none) → Xt M M' → Q (ps.map D.ref) M'
def w_all_promises_b1 : DTGn := nSeq (nYield (dMake "Promise" sp_Promise_init (daCons (dVar 0) (daCons (dVar 1) (daNil))))) (nPass)
def w_all_promises_b2 : DTGn := nSeq (nFor (diAny (dC (.tup [.str (T "fresh"), .str (T "kept")]))) (dgName 1) (w_all_promises_b1)) (nPass)
def w_all_promises : DTGn := nSeq (nFor (diAny (dC (.tup [.str (T "fresh"), .str (T "kept")]))) (dgName 0) (w_all_promises_b2)) (nPass)
theorem p_all_promises : ∀ ds M Q E, sp_all_promises ds M Q E → w_all_promises (GRet Q E) [] (ds.map some ++ List.replicate (2 - 0) none) M := by
  rintro ds M Q E ⟨rfl, hQ⟩
  have mem1 : T "fresh" ∈ W2 := by simp [W2]
  have mem2 : T "kept" ∈ W2 := by simp [W2]
  have mk2 : ∀ {p : Addr} {a b : Tx} {M : Mu} {Q : DK} {E : DX}, M p = none → a ∈ W2 → b ∈ W2 → Q .non (put M p (Prm a b)) → callK (K := Q) (L := E) ⟨⟩ ⟨⟩ sp_Promise_init [.ref p, .str a, .str b] (put M p (.ins "Promise" [])) := fun hp ha hb k =>
    ⟨_, _, _, rfl, put_same, fun _ _ => by rw [put_put]; exact k, fun h => absurd ha h, fun _ h => absurd hb h⟩
  unfold w_all_promises
  walk_at "dl"
  show w_all_promises_b2 _ _ _ _
  unfold w_all_promises_b2
  walk_at "dl"
  show w_all_promises_b1 _ _ _ _
  unfold w_all_promises_b1
  walk_at "dl"
  refine ⟨by decide, fun p0 h0 => mk2 h0 mem1 mem1 ?_⟩
  walk_at "dl"
  show w_all_promises_b1 _ _ _ _
  unfold w_all_promises_b1
  walk_at "dl"
  refine ⟨by decide, fun p1 h1 => mk2 h1 mem1 mem2 ?_⟩
  walk_at "dl"
  show w_all_promises_b2 _ _ _ _
  unfold w_all_promises_b2
  walk_at "dl"
  show w_all_promises_b1 _ _ _ _
  unfold w_all_promises_b1
  walk_at "dl"
  refine ⟨by decide, fun p2 h2 => mk2 h2 mem2 mem1 ?_⟩
  walk_at "dl"
  show w_all_promises_b1 _ _ _ _
  unfold w_all_promises_b1
  walk_at "dl"
  refine ⟨by decide, fun p3 h3 => mk2 h3 mem2 mem2 ?_⟩
  walk_at "dl"
  have nn : ∀ {M : Mu} {p q : Addr} {o : MO}, put M p o q = none → p ≠ q ∧ M q = none := fun {M p q o} h => by
    have e : p ≠ q := fun z => by rw [← z, put_same] at h; cases h
    exact ⟨e, by rw [put_ne (Ne.symm e)] at h; exact h⟩
  obtain ⟨n23, h3⟩ := nn h3
  obtain ⟨n13, h3⟩ := nn h3
  obtain ⟨n03, h3⟩ := nn h3
  obtain ⟨n12, h2⟩ := nn h2
  obtain ⟨n02, h2⟩ := nn h2
  obtain ⟨n01, h1⟩ := nn h1
  show Q ([p0, p1, p2, p3].map D.ref) _
  refine hQ [p0, p1, p2, p3] _ rfl ?_ ?_ ?_ ?_
  · simp [n01, n02, n03, n12, n13, n23]
  · intro i a w ha hw
    match i, ha, hw with
    | 0, ha, hw => cases ha; cases hw; rw [put_ne n03, put_ne n02, put_ne n01, put_same]; rfl
    | 1, ha, hw => cases ha; cases hw; rw [put_ne n13, put_ne n12, put_same]; rfl
    | 2, ha, hw => cases ha; cases hw; rw [put_ne n23, put_same]; rfl
    | 3, ha, hw => cases ha; cases hw; rw [put_same]; rfl
    | _ + 4, ha, hw => cases ha
  · intro a ha
    simp only [List.mem_cons, List.not_mem_nil, or_false] at ha
    rcases ha with rfl | rfl | rfl | rfl <;> assumption
  · intro c o e
    have ne : ∀ {q : Addr}, M q = none → c ≠ q := fun h z => by rw [z, h] at e; cases e
    rw [put_ne (ne h3), put_ne (ne h2), put_ne (ne h1), put_ne (ne h0)]
    exact e
theorem fl_p2 : [D.str (T "look"), D.str (T "reserved")].all flatD = true := rfl
def sp_l_four : DSp := fun ds M Q _ => ∃ t c, ds = [.str t, .str c] ∧ t ∈ P2 ∧ c ∈ W2 ∧ ∀ M', Xt M M' → Q (.bl true) M'
def w_l_four_b1 : DTS := dIfS (dNot (dTru (dCall sp_l_shows (daCons (dOp gIx (dVar 2) (dVar 4)) (daCons (dOp gIx (dVar 3) (dVar 4)) (daNil)))))) (dRet (dC (.bl false))) (dPass)
def w_l_four_b2 : DTS := dIfS (dNot (dTru (dCall sp_l_shows (daCons (dOp gIx (dVar 2) (dVar 6)) (daCons (dOp gIx (dVar 3) (dVar 6)) (daNil)))))) (dRet (dC (.bl false))) (dPass)
def w_l_four_b3 : DTS := dSeq (dIfS (dTest (dOp gNe (dCall sp_l_changed (daCons (dOp gIx (dVar 2) (dVar 4)) (daCons (dVar 0) (daCons (dVar 1) (daNil))))) (dTup (daCons (dC (.str (T "changed"))) (daCons (dC (.str [])) (daNil)))))) (dRet (dC (.bl false))) (dPass)) (dSeq (dSet 5 (dCB gListM (daCons (dOp gIx (dVar 3) (dVar 4)) (daNil)))) (dSeq (dAsg (dVar 1) (dgSub (dVar 5) (dMt "list" gIndex (dLst (daCons (dC (.str (T "look"))) (daCons (dC (.str (T "reserved"))) (daNil)))) (daCons (dVar 0) (daNil))) gSetA)) (dSeq (dIfS (dNot (dTru (dCall sp_l_shows (daCons (dOp gIx (dVar 2) (dVar 4)) (daCons (dVar 5) (daNil)))))) (dRet (dC (.bl false))) (dPass)) (dFor (diRng2 (daCons (dOp gAdd (dVar 4) (dC (.int 1))) (daCons (dC (.int 4)) (daNil)))) (dgName 6) (w_l_four_b2)))))
def w_l_four_c4 : DTS := dSeq (dFor (diRng1 (daCons (dC (.int 4)) (daNil))) (dgName 4) (w_l_four_b3)) (dRet (dC (.bl true)))
def w_l_four : DTS := dSeq (dSet 2 (dListG [] sp_all_promises daNil)) (dSeq (dSet 3 (dLst (daCons (dLst (daCons (dC (.str (T "fresh"))) (daCons (dC (.str (T "fresh"))) (daNil)))) (daCons (dLst (daCons (dC (.str (T "fresh"))) (daCons (dC (.str (T "kept"))) (daNil)))) (daCons (dLst (daCons (dC (.str (T "kept"))) (daCons (dC (.str (T "fresh"))) (daNil)))) (daCons (dLst (daCons (dC (.str (T "kept"))) (daCons (dC (.str (T "kept"))) (daNil)))) (daNil))))))) (dSeq (dIfS (dTest (dOp gNe (dCB gLen (daCons (dVar 2) (daNil))) (dC (.int 4)))) (dRet (dC (.bl false))) (dPass)) (dSeq (dFor (diRng1 (daCons (dC (.int 4)) (daNil))) (dgName 4) (w_l_four_b1)) (w_l_four_c4))))
theorem p_l_four : ∀ ds M Q E, sp_l_four ds M Q E → w_l_four (Ret Q E) (ds.map some ++ List.replicate (7 - 2) none) M := by
  rintro ds M Q E ⟨t, c, rfl, ht, hc, hQ⟩
  unfold w_l_four
  walk_at "dl"
  refine ⟨rfl, fun ps M1 hl hnd hat hfr x1 q hq => ?_⟩
  walk_at "dl"
  refine ⟨by decide, by decide, by decide, by decide, by decide, ?_⟩
  rw [List.length_map, hl]
  rw [if_neg (by decide)]
  change -2 ^ 62 ≤ 4 ∧ 4 < 2 ^ 62 ∧ wFor (dgName 4) w_l_four_b1 { nx := w_l_four_c4 (Ret Q E), rt := Q, xc := fun x x_1 M' => E x M' } (upTo 0 4) [some (.str t), some (.str c), some (.ref q), some (.lst (L4.map wsD)), none, none, none] (put M1 q (.lst (ps.map D.ref)))
  have q0 : M q = none := by
    cases e : M q with
    | none => rfl
    | some o => have := x1 q o e; rw [hq] at this; cases this
  have nqp : q ∉ ps := fun h => by
    obtain ⟨i, hi⟩ := List.getElem?_of_mem h
    have hlt := (List.getElem?_eq_some_iff.mp hi).1
    have := hat i q _ hi (List.getElem?_eq_getElem (by show i < 4; omega))
    rw [hq] at this; cases this
  have hat2 : ∀ (i : Nat) (a : Addr) (w : Tx × Tx), ps[i]? = some a → L4[i]? = some w → put M1 q (.lst (ps.map D.ref)) a = some (prM w) := fun i a w ha hw => by
    rw [put_ne fun z => nqp (by rw [← z]; exact List.mem_of_getElem? ha)]
    exact hat i a w ha hw
  have hq2 : put M1 q (.lst (ps.map D.ref)) q = some (.lst (ps.map D.ref)) := put_same
  have x2 : Xt M (put M1 q (.lst (ps.map D.ref))) := fun b o e => by rw [put_ne (fun z => by rw [z, q0] at e; cases e)]; exact x1 b o e
  generalize put M1 q (.lst (ps.map D.ref)) = M2 at hat2 hq2 x2
  have at4 : ∀ {i : Nat}, i < 4 → ∃ a w, ps[i]? = some a ∧ L4[i]? = some w ∧ atI (ps.map D.ref) (i : Int) = some (.ref a) ∧ atI (L4.map wsD) (i : Int) = some (wsD w) ∧ w.1 ∈ W2 ∧ w.2 ∈ W2 := fun {i} h => by
    have ha : ps[i]? = some (ps[i]'(by omega)) := List.getElem?_eq_getElem _
    have hw : L4[i]? = some (L4[i]'(by show i < 4; exact h)) := List.getElem?_eq_getElem _
    have hm := l4_w2 (List.mem_of_getElem? hw)
    exact ⟨_, _, ha, hw, atI_of (by omega) (by rw [Int.toNat_natCast, List.getElem?_map, ha]; rfl), atI_of (by omega) (by rw [Int.toNat_natCast, List.getElem?_map, hw]; rfl), hm.1, hm.2⟩
  refine ⟨by decide, by decide, wFor_by (fun i τ M' => M' = M2 ∧ ∃ x4, τ = [some (.str t), some (.str c), some (.ref q), some (.lst (L4.map wsD)), x4, none, none]) ⟨rfl, _, rfl⟩ ?_ ?_⟩
  · rintro i d τ M3 hdi ⟨rfl, x4, rfl⟩ nxt hn
    obtain ⟨rfl, hlt⟩ := upTo_at hdi
    obtain ⟨a, w, ha, hw, e1, e2, w1, w2⟩ := at4 (i := i) (by omega)
    unfold w_l_four_b1
    try simp only [hq2, Int.zero_add, e1, e2]
    walk_at "dl"
    try simp only [hq2, Int.zero_add, e1, e2]
    walk_at "dl"
    try simp only [hq2, Int.zero_add, e1, e2]
    walk_at "dl"
    try simp only [hq2, Int.zero_add, e1, e2]
    walk_at "dl"
    try simp only [hq2, Int.zero_add, e1, e2]
    walk_at "dl"
    try simp only [hq2, Int.zero_add, e1, e2]
    walk_at "dl"
    try simp only [hq2, Int.zero_add, e1, e2]
    walk_at "dl"
    try simp only [hq2, Int.zero_add, e1, e2]
    walk_at "dl"
    try simp only [hq2, Int.zero_add, e1, e2]
    walk_at "dl"
    try simp only [hq2, Int.zero_add, e1, e2]
    walk_at "dl"
    refine ⟨a, _, w.1, w.2, rfl, hat2 i a w ha hw, w1, w2, .inl rfl, ?_⟩
    walk_at "dl"
    exact hn _ _ ⟨rfl, _, rfl⟩
  · rintro τ M3 ⟨rfl, x4, rfl⟩
    unfold w_l_four_c4
    walk_at "dl"
    refine ⟨by decide, by decide, wFor_by (fun i τ M' => (∃ x4 x5 x6, τ = [some (.str t), some (.str c), some (.ref q), some (.lst (L4.map wsD)), x4, x5, x6]) ∧ M' q = some (.lst (ps.map D.ref)) ∧ Xt M M' ∧ ∀ (j : Nat) (a : Addr) (w : Tx × Tx), i ≤ j → ps[j]? = some a → L4[j]? = some w → M' a = some (prM w)) ⟨⟨_, _, _, rfl⟩, hq2, x2, fun j a w _ => hat2 j a w⟩ ?_ ?_⟩
    · rintro i d τ M3 hdi ⟨⟨x4, x5, x6, rfl⟩, hq3, x3, hat3⟩ nxt hn
      obtain ⟨rfl, hlt⟩ := upTo_at hdi
      obtain ⟨a, w, ha, hw, e1, e2, w1, w2⟩ := at4 (i := i) (by omega)
      have hMa := hat3 i a w (Nat.le_refl _) ha hw
      unfold w_l_four_b3
      try simp only [hq3, Int.zero_add, e1, e2]
      walk_at "dl"
      try simp only [hq3, Int.zero_add, e1, e2]
      walk_at "dl"
      try simp only [hq3, Int.zero_add, e1, e2]
      walk_at "dl"
      try simp only [hq3, Int.zero_add, e1, e2]
      walk_at "dl"
      try simp only [hq3, Int.zero_add, e1, e2]
      walk_at "dl"
      try simp only [hq3, Int.zero_add, e1, e2]
      walk_at "dl"
      try simp only [hq3, Int.zero_add, e1, e2]
      walk_at "dl"
      try simp only [hq3, Int.zero_add, e1, e2]
      walk_at "dl"
      try simp only [hq3, Int.zero_add, e1, e2]
      walk_at "dl"
      try simp only [hq3, Int.zero_add, e1, e2]
      walk_at "dl"
      refine ⟨a, w.1, w.2, t, c, rfl, hMa, ?_⟩
      have hch : chgD t c = .tup [.str (T "changed"), .str []] := by unfold chgD; rw [if_neg (fun z => z ht), if_neg (fun z => z hc)]
      have hcm : chgM t c w.1 w.2 a M3 = put M3 a (prM (chgW t c w.1 w.2)) := by unfold chgM; rw [if_pos ⟨ht, hc⟩]; rfl
      rw [hch, hcm]
      have hW : (chgW t c w.1 w.2).1 ∈ W2 ∧ (chgW t c w.1 w.2).2 ∈ W2 := by unfold chgW; split <;> exact ⟨by assumption, by assumption⟩
      have hnow : ∃ j : Nat, idxD (.str t) [.str (T "look"), .str (T "reserved")] = some j ∧ j < 2 ∧ ([D.str w.1, .str w.2] : List D).set j (.str c) = [.str (chgW t c w.1 w.2).1, .str (chgW t c w.1 w.2).2] := by
        simp only [P2, List.mem_cons, List.not_mem_nil, or_false] at ht
        rcases ht with rfl | rfl
        · exact ⟨0, by decide +kernel, by decide, by unfold chgW; rw [if_pos rfl]; rfl⟩
        · exact ⟨1, by decide +kernel, by decide, by unfold chgW; rw [if_neg (Ne.symm look_ne)]; rfl⟩
      generalize chgW t c w.1 w.2 = w' at hW hnow
      obtain ⟨j, hj, hj2, hset⟩ := hnow
      walk_at "dl"
      refine ⟨by decide, by decide +kernel, by decide +kernel, ?_⟩
      rw [if_neg (by decide +kernel), e2]
      have nqa : q ≠ a := fun z => nqp (by rw [z]; exact List.mem_of_getElem? ha)
      have hap : a ∈ ps := List.mem_of_getElem? ha
      have hpos : ∀ (j' : Nat) (a' : Addr), i + 1 ≤ j' → ps[j']? = some a' → a' ≠ a := fun j' a' hj' ha' z => by
        rw [z] at ha'
        have := (List.getElem?_inj (List.getElem?_eq_some_iff.mp ha).1 hnd).mp (ha.trans ha'.symm)
        omega
      have hM4a : put M3 a (prM w') a = some (prM w') := put_same
      have hM4q : put M3 a (prM w') q = some (.lst (ps.map D.ref)) := by rw [put_ne nqa]; exact hq3
      have x4 : Xt M (put M3 a (prM w')) := fun b o e => by rw [put_ne (fun z => by rw [z, hfr a hap] at e; cases e)]; exact x3 b o e
      have hat4 : ∀ (j' : Nat) (a' : Addr) (w : Tx × Tx), i + 1 ≤ j' → ps[j']? = some a' → L4[j']? = some w → put M3 a (prM w') a' = some (prM w) := fun j' a' w hj' ha' hw' => by
        rw [put_ne (hpos j' a' hj' ha')]
        exact hat3 j' a' w (by omega) ha' hw'
      generalize put M3 a (prM w') = M4 at hM4a hM4q x4 hat4
      walk_at "dl"
      refine fun r hr => ?_
      walk_at "dl"
      refine ⟨by decide, rfl, fl_p2, j, hj, ?_⟩
      have hjn : ixN 2 (j : Int) = some j := by
        match j, hj2 with
        | 0, _ => rfl
        | 1, _ => rfl
      try simp only [put_same, hjn]
      walk_at "dl"
      try simp only [put_same, hjn]
      walk_at "dl"
      try simp only [put_same, hjn]
      walk_at "dl"
      try simp only [put_same, hjn]
      walk_at "dl"
      try simp only [put_same, hjn]
      walk_at "dl"
      try simp only [put_same, hjn]
      walk_at "dl"
      try simp only [put_same, hjn]
      walk_at "dl"
      try simp only [put_same, hjn]
      walk_at "dl"
      try simp only [put_same, hjn]
      walk_at "dl"
      try simp only [put_same, hjn]
      walk_at "dl"
      rw [hset]
      have r0 : ∀ {b : Addr} {o : MO}, M4 b = some o → b ≠ r := fun e z => by rw [z, hr] at e; cases e
      have hM5a : put M4 r (.lst [.str w'.1, .str w'.2]) a = some (prM w') := by rw [put_ne (r0 hM4a)]; exact hM4a
      have hM5q : put M4 r (.lst [.str w'.1, .str w'.2]) q = some (.lst (ps.map D.ref)) := by rw [put_ne (r0 hM4q)]; exact hM4q
      have hM5r : put M4 r (.lst [.str w'.1, .str w'.2]) r = some (.lst [.str w'.1, .str w'.2]) := put_same
      have x5 : Xt M (put M4 r (.lst [.str w'.1, .str w'.2])) := fun b o e => by rw [put_ne (r0 (x4 b o e))]; exact x4 b o e
      have hat5 : ∀ (j' : Nat) (a' : Addr) (w : Tx × Tx), i + 1 ≤ j' → ps[j']? = some a' → L4[j']? = some w → put M4 r (.lst [.str w'.1, .str w'.2]) a' = some (prM w) := fun j' a' w hj' ha' hw' => by
        have := hat4 j' a' w hj' ha' hw'
        rw [put_ne (r0 this)]
        exact this
      generalize put M4 r (.lst [.str w'.1, .str w'.2]) = M5 at hM5a hM5q hM5r x5 hat5
      try simp only [hM5q, e1]
      walk_at "dl"
      try simp only [hM5q, e1]
      walk_at "dl"
      try simp only [hM5q, e1]
      walk_at "dl"
      try simp only [hM5q, e1]
      walk_at "dl"
      try simp only [hM5q, e1]
      walk_at "dl"
      try simp only [hM5q, e1]
      walk_at "dl"
      try simp only [hM5q, e1]
      walk_at "dl"
      try simp only [hM5q, e1]
      walk_at "dl"
      try simp only [hM5q, e1]
      walk_at "dl"
      try simp only [hM5q, e1]
      walk_at "dl"
      refine ⟨a, _, w'.1, w'.2, rfl, hM5a, hW.1, hW.2, .inr ⟨r, rfl, hM5r⟩, ?_⟩
      walk_at "dl"
      refine ⟨⟨by omega, by omega, by decide, by decide⟩, ?_⟩
      refine wFor_by (fun _ τ M' => M' = M5 ∧ ∃ x6, τ = [some (.str t), some (.str c), some (.ref q), some (.lst (L4.map wsD)), some (.int i), some (.ref r), x6]) ⟨rfl, _, rfl⟩ ?_ ?_
      · rintro k d τ M6 hdk ⟨rfl, x6, rfl⟩ nxt2 hn2
        have hd := upTo_get hdk
        have hk := (List.getElem?_eq_some_iff.mp hdk).1
        rw [upTo_len] at hk
        subst hd
        obtain ⟨a', v, ha', hv, f1, f2, v1, v2⟩ := at4 (i := i + 1 + k) (by omega)
        have ek : ((i : Int) + 1 + (k : Int)) = ((i + 1 + k : Nat) : Int) := by omega
        unfold w_l_four_b2
        rw [ek]
        try simp only [hM5q, f1, f2]
        walk_at "dl"
        try simp only [hM5q, f1, f2]
        walk_at "dl"
        try simp only [hM5q, f1, f2]
        walk_at "dl"
        try simp only [hM5q, f1, f2]
        walk_at "dl"
        try simp only [hM5q, f1, f2]
        walk_at "dl"
        try simp only [hM5q, f1, f2]
        walk_at "dl"
        try simp only [hM5q, f1, f2]
        walk_at "dl"
        try simp only [hM5q, f1, f2]
        walk_at "dl"
        try simp only [hM5q, f1, f2]
        walk_at "dl"
        try simp only [hM5q, f1, f2]
        walk_at "dl"
        refine ⟨a', _, v.1, v.2, rfl, hat5 _ a' v (by omega) ha' hv, v1, v2, .inl rfl, ?_⟩
        walk_at "dl"
        exact hn2 _ _ ⟨rfl, _, rfl⟩
      · rintro τ M6 ⟨rfl, x6, rfl⟩
        exact hn _ _ ⟨⟨_, _, _, rfl⟩, hM5q, x5, hat5⟩
    · rintro τ M3 ⟨⟨x4, x5, x6, rfl⟩, hq3, x3, _⟩
      walk_at "dl"
      exact hQ _ x3
/-! the law -/
def PT : List Tx := [T "look", T "reserved", T "look", T "reserved", T "look", T "reserved", T "peek", [], T "Look", T "looks", T "reserve", T "fresh"]
def WT : List Tx := [T "fresh", T "kept", T "fresh", T "kept", T "fresh", T "kept", [], T "Kept", T "look", T "kept ", T "fresh kept", T "keep", T "reserved", T "FRESH", T "fresh\n"]
theorem in_p2 {t : Tx} : inD (.str t) [D.str (T "look"), D.str (T "reserved")] = decide (t ∈ P2) := inD_txs (ws := P2)
theorem chg_pln {t c : Tx} : pln 8 (chgD t c) = true := by
  unfold chgD
  split
  · exact pln_tt
  · split <;> exact pln_tt
theorem idx_p2 {t : Tx} (ht : t ∈ P2) (c a b : Tx) : ∃ j : Nat, idxD (.str t) [.str (T "look"), .str (T "reserved")] = some j ∧ ixN 2 (j : Int) = some j ∧ ([D.str a, .str b] : List D).set j (.str c) = [.str (chgW t c a b).1, .str (chgW t c a b).2] := by
  simp only [P2, List.mem_cons, List.not_mem_nil, or_false] at ht
  rcases ht with rfl | rfl
  · exact ⟨0, by decide +kernel, rfl, by unfold chgW; rw [if_pos rfl]; rfl⟩
  · exact ⟨1, by decide +kernel, rfl, by unfold chgW; rw [if_neg (Ne.symm look_ne)]; rfl⟩

def sp_law : DSp := fun ds M Q _ => ∃ ns : List Int, ds = [.scr ns] ∧ ∀ M', Q (.bl true) M'
def w_law_c1 : DTS := dIfS (dOr (dNot (dTru (dCall sp_l_compared (daCons (dVar 5) (daCons (dVar 6) (daCons (dVar 3) (daCons (dVar 4) (daNil)))))))) (dNot (dTru (dCall sp_l_compared (daCons (dVar 6) (daCons (dVar 5) (daCons (dVar 4) (daCons (dVar 3) (daNil))))))))) (dRet (dC (.bl false))) (dPass)
def w_law_c2 : DTS := dSeq (dIfS (dNot (dTru (dCall (sp_l_same 8) (daCons (dCall sp_l_changed (daCons (dVar 5) (daCons (dVar 10) (daCons (dVar 11) (daNil))))) (daCons (dVar 12) (daNil)))))) (dRet (dC (.bl false))) (dPass)) (dSeq (dIfS (dOr (dNot (dTru (dCall sp_l_shows (daCons (dVar 5) (daCons (dVar 3) (daNil)))))) (dNot (dTru (dCall sp_l_shows (daCons (dVar 6) (daCons (dVar 4) (daNil))))))) (dRet (dC (.bl false))) (dPass)) (w_law_c1))
def w_law_b3 : DTS := dSeq (dSet 10 (dCall sp_l_text (daCons (dVar 1) (daCons (dVar 7) (daNil))))) (dSeq (dSet 11 (dCall sp_l_text (daCons (dVar 1) (daCons (dVar 8) (daNil))))) (dSeq (dSet 12 (dTup (daCons (dC (.str (T "changed"))) (daCons (dC (.str [])) (daNil))))) (dSeq (dIfS (dTest (dOp gNotIn (dVar 10) (dLst (daCons (dC (.str (T "look"))) (daCons (dC (.str (T "reserved"))) (daNil)))))) (dSet 12 (dTup (daCons (dC (.str (T "InvalidPromise"))) (daCons (dVar 10) (daNil))))) (dIfS (dTest (dOp gNotIn (dVar 11) (dVar 2))) (dSet 12 (dTup (daCons (dC (.str (T "InvalidPromise"))) (daCons (dVar 11) (daNil))))) (dAsg (dVar 11) (dgSub (dVar 3) (dMt "list" gIndex (dLst (daCons (dC (.str (T "look"))) (daCons (dC (.str (T "reserved"))) (daNil)))) (daCons (dVar 10) (daNil))) gSetA)))) (w_law_c2))))
def w_law_b4 : DTS := dSeq (dSet 15 (dMake "Promise" sp_Promise_init (daCons (dVar 13) (daCons (dVar 14) (daNil))))) (dSeq (dIfS (dNot (dTru (dCall sp_l_compared (daCons (dVar 5) (daCons (dVar 15) (daCons (dVar 3) (daCons (dLst (daCons (dVar 13) (daCons (dVar 14) (daNil)))) (daNil)))))))) (dRet (dC (.bl false))) (dPass)) (dIfS (dNot (dTru (dCall sp_l_compared (daCons (dVar 15) (daCons (dVar 5) (daCons (dLst (daCons (dVar 13) (daCons (dVar 14) (daNil)))) (daCons (dVar 3) (daNil)))))))) (dRet (dC (.bl false))) (dPass)))
def w_law_b5 : DTS := dFor (diAny (dVar 2)) (dgName 14) (w_law_b4)
def w_law_b6 : DTS := dIfS (dNot (dTru (dCall sp_l_four (daCons (dVar 10) (daCons (dVar 11) (daNil)))))) (dRet (dC (.bl false))) (dPass)
def w_law_c7 : DTS := dRet (dAndV (dCall sp_l_shows (daCons (dVar 5) (daCons (dVar 3) (daNil)))) (dCall (sp_l_same 8) (daCons (dOp (gCmpO "Promise" sp_Promise_eq) (dVar 5) (dOp gAdd (dOp gAdd (dOp gIx (dVar 3) (dC (.int 0))) (dC (.str [32]))) (dOp gIx (dVar 3) (dC (.int 1))))) (daCons (dC (.bl false)) (daNil)))))
def w_law_f8 : DTS := dSeq (dFor (diAny (dLst (daCons (dC (.str (T "look"))) (daCons (dC (.str (T "reserved"))) (daNil))))) (dgName 10) (w_law_b6)) (w_law_c7)
def w_law_c9 : DTS := dSeq (dSet 11 (dCall sp_l_pick (daCons (dVar 1) (daCons (dVar 2) (daNil))))) (w_law_f8)
def w_law_f10 : DTS := dSeq (dFor (diAny (dVar 2)) (dgName 13) (w_law_b5)) (w_law_c9)
def w_law_f11 : DTS := dSeq (dFor (diRng1 (daCons (dOp gAdd (dC (.int 1)) (dCall sp_l_draw (daCons (dVar 1) (daCons (dC (.int 5)) (daNil))))) (daNil))) (dgName 9) (w_law_b3)) (w_law_f10)
def w_law : DTS := dSeq (dSet 1 (dCall sp_l_begin (daCons (dVar 0) (daNil)))) (dSeq (dSet 2 (dLst (daCons (dC (.str (T "fresh"))) (daCons (dC (.str (T "kept"))) (daNil))))) (dSeq (dSet 3 (dLstM (daCons (dCall sp_l_pick (daCons (dVar 1) (daCons (dVar 2) (daNil)))) (daCons (dCall sp_l_pick (daCons (dVar 1) (daCons (dVar 2) (daNil)))) (daNil))))) (dSeq (dSet 4 (dCB gList (daCons (dVar 3) (daNil)))) (dSeq (dSet 5 (dMake "Promise" sp_Promise_init (daCons (dOp gIx (dVar 3) (dC (.int 0))) (daCons (dOp gIx (dVar 3) (dC (.int 1))) (daNil))))) (dSeq (dSet 6 (dMake "Promise" sp_Promise_init (daCons (dOp gIx (dVar 3) (dC (.int 0))) (daCons (dOp gIx (dVar 3) (dC (.int 1))) (daNil))))) (dSeq (dSet 7 (dLst (daCons (dC (.str (T "look"))) (daCons (dC (.str (T "reserved"))) (daCons (dC (.str (T "look"))) (daCons (dC (.str (T "reserved"))) (daCons (dC (.str (T "look"))) (daCons (dC (.str (T "reserved"))) (daCons (dC (.str (T "peek"))) (daCons (dC (.str [])) (daCons (dC (.str (T "Look"))) (daCons (dC (.str (T "looks"))) (daCons (dC (.str (T "reserve"))) (daCons (dC (.str (T "fresh"))) (daNil))))))))))))))) (dSeq (dSet 8 (dLst (daCons (dC (.str (T "fresh"))) (daCons (dC (.str (T "kept"))) (daCons (dC (.str (T "fresh"))) (daCons (dC (.str (T "kept"))) (daCons (dC (.str (T "fresh"))) (daCons (dC (.str (T "kept"))) (daCons (dC (.str [])) (daCons (dC (.str (T "Kept"))) (daCons (dC (.str (T "look"))) (daCons (dC (.str (T "kept "))) (daCons (dC (.str (T "fresh kept"))) (daCons (dC (.str (T "keep"))) (daNil))))))))))))))) (dSeq (dSet 8 (dOp gAdd (dVar 8) (dLst (daCons (dC (.str (T "reserved"))) (daCons (dC (.str (T "FRESH"))) (daCons (dC (.str (T "fresh\n"))) (daNil))))))) (w_law_f11)))))))))
theorem pick_w {a : Addr} {M : Mu} {Q : DK} {E : DX} (h : Src M a) (k : ∀ t M', t ∈ W2 → SrcTo a M M' → Q (.str t) M') : sp_l_pick [.ref a, .lst [.str (T "fresh"), .str (T "kept")]] M Q E :=
  pick_ h (xs := [.str (T "fresh"), .str (T "kept")]) rfl (by decide) (by decide) fun d M' hd s => by
    simp only [List.mem_cons, List.not_mem_nil, or_false] at hd
    rcases hd with rfl | rfl
    · exact k _ M' (by simp [W2]) s
    · exact k _ M' (by simp [W2]) s
theorem p_law : ∀ ds M Q E, sp_law ds M Q E → w_law (Ret Q E) (ds.map some ++ List.replicate (16 - 1) none) M := by
  rintro ds M Q E ⟨ns, rfl, hQ⟩
  unfold w_law
  walk_at "dl"
  refine ⟨ns, rfl, fun p M1 hp s1 => ?_⟩
  walk_at "dl"
  refine ⟨by decide, pick_w s1.1 fun a M2 ha s2 => ?_⟩
  walk_at "dl"
  refine pick_w s2.1 fun b M3 hb s3 => ?_
  walk_at "dl"
  refine ⟨by decide, fun nw hnw p1 hp1 => mk_pr hp1 ha hb fun M4 x4 h1 => ?_⟩
  have hN4 : M4 nw = some (.lst [.str a, .str b]) := x4 _ _ put_same
  have nwp : nw ≠ p := fun z => by
    obtain ⟨ns, t, r2, d, e, _⟩ := s3.1
    rw [← z, hnw] at e; cases e
  have s4 : Src M4 p := by
    obtain ⟨ns, t, r2, d, e, z⟩ := s3.1
    exact ⟨ns, t, r2, d, x4 _ _ (by rw [put_ne (Ne.symm nwp)]; exact e), z⟩
  have np1 : p1 ≠ p ∧ p1 ≠ nw := by
    have e : p1 ≠ nw := fun z => by rw [z, put_same] at hp1; cases hp1
    refine ⟨fun z => ?_, e⟩
    obtain ⟨ns, t, r2, d, e2, _⟩ := s3.1
    rw [put_ne e, z, e2] at hp1; cases hp1
  try simp only [hN4]
  walk_at "dl"
  try simp only [hN4]
  walk_at "dl"
  try simp only [hN4]
  walk_at "dl"
  try simp only [hN4]
  walk_at "dl"
  try simp only [hN4]
  walk_at "dl"
  try simp only [hN4]
  walk_at "dl"
  try simp only [hN4]
  walk_at "dl"
  try simp only [hN4]
  walk_at "dl"
  try simp only [hN4]
  walk_at "dl"
  try simp only [hN4]
  walk_at "dl"
  refine fun p2 hp2 => mk_pr hp2 ha hb fun M5 x5 h2 => ?_
  have hN5 := x5 _ _ hN4
  have h15 := x5 _ _ h1
  have s5 : Src M5 p := by
    obtain ⟨ns, t, r2, d, e, z⟩ := s4
    exact ⟨ns, t, r2, d, x5 _ _ e, z⟩
  have np2 : p2 ≠ p ∧ p2 ≠ nw ∧ p2 ≠ p1 := by
    refine ⟨fun z => ?_, fun z => ?_, fun z => ?_⟩
    · obtain ⟨ns, t, r2, d, e2, _⟩ := s4
      rw [z, e2] at hp2; cases hp2
    · rw [z, hN4] at hp2; cases hp2
    · rw [z, h1] at hp2; cases hp2
  refine ⟨rfl, ?_⟩
  walk_at "dl"
  refine ⟨by decide, by decide, by decide, by decide, ?_⟩
  unfold w_law_f11
  walk_at "dl"
  refine draw_ s5 (by decide) (by decide) fun n M6 n0 n1 s6 => ?_
  walk_at "dl"
  refine ⟨by omega, by omega, ?_⟩
  have k6 : ∀ {b o}, b ≠ p → M5 b = some o → M6 b = some o := fun h e => by rw [s6.2 _ h]; exact e
  refine wFor_by (fun _ τ M' => (∃ x9 x10 x11 x12, τ = [some (.scr ns), some (.ref p), some (.lst [.str (T "fresh"), .str (T "kept")]), some (.ref nw), some (.lst [.str a, .str b]), some (.ref p1), some (.ref p2), some (.lst (txs PT)), some (.lst (txs WT)), x9, x10, x11, x12, none, none, none]) ∧ Src M' p ∧
    PrAt M' p2 a b ∧ ∃ c d, c ∈ W2 ∧ d ∈ W2 ∧ PrAt M' p1 c d ∧ M' nw = some (.lst [.str c, .str d])) ⟨⟨_, _, _, _, rfl⟩, s6.1, k6 np2.1 h2, a, b, ha, hb, k6 np1.1 h15, k6 nwp hN5⟩ ?_ ?_
  · rintro i z τ M7 _ ⟨⟨x9, x10, x11, x12, rfl⟩, s7, h27, c, d, hc, hd, h17, hN7⟩ nxt hn
    unfold w_law_b3
    walk_at "dl"
    refine ⟨p, PT, rfl, s7, by decide, by decide, fun t M8 s8 => ?_⟩
    walk_at "dl"
    refine ⟨p, WT, rfl, s8.src, by decide, by decide, fun u M9 s9 => ?_⟩
    have s89 := s8.trans s9
    have h29 := s89.st _ _ np2.1 h27
    have h19 := s89.st _ _ np1.1 h17
    have hN9 := s89.st _ _ nwp hN7
    have sr9 := s9.src
    -- what is left behind the change of the list
    have fin : ∀ (c' d' : Tx) (M10 : Mu) (bk : DSt → Mu → Prop), c' ∈ W2 → d' ∈ W2 → (t ∈ P2 ∧ u ∈ W2 → (chgW t u c d) = (c', d')) → (¬ (t ∈ P2 ∧ u ∈ W2) → (c, d) = (c', d')) → PrAt M10 p2 a b → PrAt M10 p1 c d → M10 nw = some (.lst [.str c', .str d']) → Src M10 p →
        w_law_c2 { nx := nxt, rt := Q, bk := bk, ct := nxt, xc := fun x _ M' => E x M' } [some (.scr ns), some (.ref p), some (.lst [.str (T "fresh"), .str (T "kept")]), some (.ref nw), some (.lst [.str a, .str b]), some (.ref p1), some (.ref p2), some (.lst (txs PT)), some (.lst (txs WT)), some z, some (.str t), some (.str u), some (chgD t u), none, none, none] M10 := by
      intro c' d' M10 bk hc' hd' e1 e2 q2 q1 qN qs
      unfold w_law_c2
      walk_at "dl"
      refine ⟨p1, c, d, t, u, rfl, q1, ?_⟩
      walk_at "dl"
      refine sm_d chg_pln ?_
      have f1 : PrAt (chgM t u c d p1 M10) p1 c' d' := by
        unfold chgM
        by_cases h : t ∈ P2 ∧ u ∈ W2
        · rw [if_pos h, e1 h]; exact put_same
        · rw [if_neg h]; have := e2 h; injection this with g1 g2; rw [← g1, ← g2]; exact q1
      have fo : ∀ {b o}, b ≠ p1 → M10 b = some o → chgM t u c d p1 M10 b = some o := fun h e => by
        unfold chgM
        split
        · rw [put_ne h]; exact e
        · exact e
      have f2 := fo np2.2.2 q2
      have fN := fo (Ne.symm np1.2) qN
      have fs : Src (chgM t u c d p1 M10) p := by
        obtain ⟨ns, t, r2, d, e, z⟩ := qs
        exact ⟨ns, t, r2, d, fo (Ne.symm np1.1) e, z⟩
      generalize chgM t u c d p1 M10 = M11 at f1 f2 fN fs
      walk_at "dl"
      refine ⟨p1, _, c', d', rfl, f1, hc', hd', .inr ⟨nw, rfl, fN⟩, ?_⟩
      walk_at "dl"
      refine ⟨p2, _, a, b, rfl, f2, ha, hb, .inl rfl, ?_⟩
      walk_at "dl"
      unfold w_law_c1
      walk_at "dl"
      refine ⟨p1, p2, _, _, c', d', a, b, rfl, f1, f2, ⟨hc', hd', ha, hb⟩, .inr ⟨rfl, .inr ⟨nw, rfl, fN⟩⟩, ?_⟩
      walk_at "dl"
      refine ⟨p2, p1, _, _, a, b, c', d', rfl, f2, f1, ⟨ha, hb, hc', hd'⟩, .inl ⟨rfl, .inr ⟨nw, rfl, fN⟩⟩, ?_⟩
      walk_at "dl"
      exact hn _ _ ⟨⟨_, _, _, _, rfl⟩, fs, f2, c', d', hc', hd', f1, fN⟩
    walk_at "dl"
    refine ⟨by decide, by decide, rfl, fl_p2, ?_⟩
    rw [in_p2]
    by_cases ht : t ∈ P2
    · rw [decide_eq_true ht, if_neg (by decide)]
      refine ⟨rfl, fl_w2, ?_⟩
      rw [in_w2]
      by_cases hu : u ∈ W2
      · rw [decide_eq_true hu, if_neg (by decide)]
        obtain ⟨j, j1, j2, j3⟩ := idx_p2 ht u c d
        have hw : (chgW t u c d).1 ∈ W2 ∧ (chgW t u c d).2 ∈ W2 := by unfold chgW; split <;> exact ⟨by assumption, by assumption⟩
        have hch : chgD t u = .tup [.str (T "changed"), .str []] := by unfold chgD; rw [if_neg (fun z => z ht), if_neg (fun z => z hu)]
        try simp only [hN9]
        walk_at "dl"
        try simp only [hN9]
        walk_at "dl"
        try simp only [hN9]
        walk_at "dl"
        try simp only [hN9]
        walk_at "dl"
        try simp only [hN9]
        walk_at "dl"
        try simp only [hN9]
        walk_at "dl"
        try simp only [hN9]
        walk_at "dl"
        try simp only [hN9]
        walk_at "dl"
        try simp only [hN9]
        walk_at "dl"
        try simp only [hN9]
        walk_at "dl"
        refine ⟨by decide, rfl, fl_p2, j, j1, ?_⟩
        try simp only [hN9, j2]
        walk_at "dl"
        try simp only [hN9, j2]
        walk_at "dl"
        try simp only [hN9, j2]
        walk_at "dl"
        try simp only [hN9, j2]
        walk_at "dl"
        try simp only [hN9, j2]
        walk_at "dl"
        try simp only [hN9, j2]
        walk_at "dl"
        try simp only [hN9, j2]
        walk_at "dl"
        try simp only [hN9, j2]
        walk_at "dl"
        try simp only [hN9, j2]
        walk_at "dl"
        try simp only [hN9, j2]
        walk_at "dl"
        rw [← hch]
        refine fin _ _ _ _ hw.1 hw.2 (fun _ => rfl) (fun h => absurd ⟨ht, hu⟩ h) (by rw [PrAt, put_ne np2.2.1]; exact h29) (by rw [PrAt, put_ne np1.2]; exact h19) (by rw [put_same, j3]) ?_
        obtain ⟨ns, t, r2, d, e, z⟩ := sr9
        exact ⟨ns, t, r2, d, by rw [put_ne (Ne.symm nwp)]; exact e, z⟩
      · rw [decide_eq_false hu, if_pos (by decide)]
        have hch : chgD t u = .tup [.str (T "InvalidPromise"), .str u] := by unfold chgD; rw [if_neg (fun z => z ht), if_pos hu]
        refine ⟨by decide, ?_⟩
        rw [← hch]
        exact fin c d _ _ hc hd (fun h => absurd h.2 hu) (fun _ => rfl) h29 h19 hN9 sr9
    · rw [decide_eq_false ht, if_pos (by decide)]
      have hch : chgD t u = .tup [.str (T "InvalidPromise"), .str t] := by unfold chgD; rw [if_pos ht]
      refine ⟨by decide, ?_⟩
      rw [← hch]
      exact fin c d _ _ hc hd (fun h => absurd h.1 ht) (fun _ => rfl) h29 h19 hN9 sr9
  · rintro τ M7 ⟨⟨x9, x10, x11, x12, rfl⟩, s7, h27, c, d, hc, hd, h17, hN7⟩
    unfold w_law_f10
    walk_at "dl"
    have src_xt : ∀ {M M'}, Src M p → Xt M M' → Src M' p := fun h x => by
      obtain ⟨ns, t, r, d, e, z⟩ := h
      exact ⟨ns, t, r, d, x _ _ e, z⟩
    refine wFor_by (fun _ τ M' => (∃ x13 x14 x15, τ = [some (.scr ns), some (.ref p), some (.lst [.str (T "fresh"), .str (T "kept")]), some (.ref nw), some (.lst [.str a, .str b]), some (.ref p1), some (.ref p2), some (.lst (txs PT)), some (.lst (txs WT)), x9, x10, x11, x12, x13, x14, x15]) ∧ Src M' p ∧
      PrAt M' p1 c d ∧ M' nw = some (.lst [.str c, .str d])) ⟨⟨_, _, _, rfl⟩, s7, h17, hN7⟩ ?_ ?_
    · rintro i z τ M8 hz ⟨⟨x13, x14, x15, rfl⟩, s8, h18, hN8⟩ nxt hn
      have hzm := List.mem_of_getElem? hz
      obtain ⟨e, he, rfl⟩ : ∃ e, e ∈ W2 ∧ z = .str e := by
        simp only [List.mem_cons, List.not_mem_nil, or_false] at hzm
        rcases hzm with rfl | rfl <;> exact ⟨_, by simp [W2], rfl⟩
      unfold w_law_b5
      walk_at "dl"
      refine wFor_by (fun _ τ M' => (∃ x14 x15, τ = [some (.scr ns), some (.ref p), some (.lst [.str (T "fresh"), .str (T "kept")]), some (.ref nw), some (.lst [.str a, .str b]), some (.ref p1), some (.ref p2), some (.lst (txs PT)), some (.lst (txs WT)), x9, x10, x11, x12, some (.str e), x14, x15]) ∧ Src M' p ∧
        PrAt M' p1 c d ∧ M' nw = some (.lst [.str c, .str d])) ⟨⟨_, _, rfl⟩, s8, h18, hN8⟩ ?_ ?_
      · rintro i2 z2 τ M9 hz2 ⟨⟨x14, x15, rfl⟩, s9, h19, hN9⟩ nxt2 hn2
        have hzm2 := List.mem_of_getElem? hz2
        obtain ⟨f, hf, rfl⟩ : ∃ f, f ∈ W2 ∧ z2 = .str f := by
          simp only [List.mem_cons, List.not_mem_nil, or_false] at hzm2
          rcases hzm2 with rfl | rfl <;> exact ⟨_, by simp [W2], rfl⟩
        unfold w_law_b4
        walk_at "dl"
        refine fun q hq => mk_pr hq he hf fun M10 x10 hq1 => ?_
        have h1A := x10 _ _ h19
        have hNA := x10 _ _ hN9
        have sA := src_xt s9 x10
        walk_at "dl"
        refine ⟨by decide, p1, q, _, _, c, d, e, f, rfl, h1A, hq1, ⟨hc, hd, he, hf⟩, .inr ⟨rfl, .inr ⟨nw, rfl, hNA⟩⟩, ?_⟩
        walk_at "dl"
        refine ⟨by decide, q, p1, _, _, e, f, c, d, rfl, hq1, h1A, ⟨he, hf, hc, hd⟩, .inl ⟨rfl, .inr ⟨nw, rfl, hNA⟩⟩, ?_⟩
        walk_at "dl"
        exact hn2 _ _ ⟨⟨_, _, rfl⟩, sA, h1A, hNA⟩
      · rintro τ M9 ⟨⟨x14, x15, rfl⟩, s9, h19, hN9⟩
        exact hn _ _ ⟨⟨_, _, _, rfl⟩, s9, h19, hN9⟩
    · rintro τ M8 ⟨⟨x13, x14, x15, rfl⟩, s8, h18, hN8⟩
      unfold w_law_c9
      walk_at "dl"
      refine pick_w s8 fun u M9 hu s9 => ?_
      have k9 : ∀ {b o}, b ≠ p → M8 b = some o → M9 b = some o := fun h e => by rw [s9.2 _ h]; exact e
      have h19 := k9 np1.1 h18
      have hN9 := k9 nwp hN8
      unfold w_law_f8
      walk_at "dl"
      refine ⟨by decide, wFor_by (fun _ τ M' => (∃ x10, τ = [some (.scr ns), some (.ref p), some (.lst [.str (T "fresh"), .str (T "kept")]), some (.ref nw), some (.lst [.str a, .str b]), some (.ref p1), some (.ref p2), some (.lst (txs PT)), some (.lst (txs WT)), x9, x10, some (.str u), x12, x13, x14, x15]) ∧
        PrAt M' p1 c d ∧ M' nw = some (.lst [.str c, .str d])) ⟨⟨_, rfl⟩, h19, hN9⟩ ?_ ?_⟩
      · rintro i z τ M10 hz ⟨⟨x10, rfl⟩, h1A, hNA⟩ nxt hn
        have hzm := List.mem_of_getElem? hz
        obtain ⟨t, ht, rfl⟩ : ∃ e, e ∈ P2 ∧ z = .str e := by
          simp only [List.mem_cons, List.not_mem_nil, or_false] at hzm
          rcases hzm with rfl | rfl <;> exact ⟨_, by simp [P2], rfl⟩
        unfold w_law_b6
        walk_at "dl"
        refine ⟨t, u, rfl, ht, hu, fun M11 x11 => ?_⟩
        walk_at "dl"
        exact hn _ _ ⟨⟨_, rfl⟩, x11 _ _ h1A, x11 _ _ hNA⟩
      · rintro τ M10 ⟨⟨x10, rfl⟩, h1A, hNA⟩
        unfold w_law_c7
        walk_at "dl"
        refine ⟨p1, _, c, d, rfl, h1A, hc, hd, .inr ⟨nw, rfl, hNA⟩, ?_⟩
        have lc := w2_len hc
        have ld := w2_len hd
        try simp only [hNA]
        walk_at "dl"
        try simp only [hNA]
        walk_at "dl"
        try simp only [hNA]
        walk_at "dl"
        try simp only [hNA]
        walk_at "dl"
        try simp only [hNA]
        walk_at "dl"
        try simp only [hNA]
        walk_at "dl"
        try simp only [hNA]
        walk_at "dl"
        try simp only [hNA]
        walk_at "dl"
        try simp only [hNA]
        walk_at "dl"
        try simp only [hNA]
        walk_at "dl"
        refine ⟨by omega, by rw [List.length_append, List.length_singleton]; omega, ?_⟩
        rw [h1A]
        refine ⟨rfl, .inr ⟨_, rfl⟩, p1, _, rfl, c, d, h1A, .inr ⟨.inl ⟨_, rfl⟩, ?_⟩⟩
        walk_at "dl"
        exact sm_bl (hQ _)
end DL

namespace Lw
open PySem L2 DL
structure Md (w : World) (K : PySem.W.Frag) (mg : Str → Option Value) : Prop where
  n_ValueError : mg "ValueError" = none
  n_all : mg "all" = none
  n_bool : mg "bool" = none
  n_int : mg "int" = none
  n_isinstance : mg "isinstance" = none
  n_len : mg "len" = none
  n_list : mg "list" = none
  n_range : mg "range" = none
  n_str : mg "str" = none
  n_super : mg "super" = none
  n_tuple : mg "tuple" = none
  mk_Promise : Mk K (He.ga K "Promise") (He.ma K (He.ga K "Promise") "__init__")
  k_Promise : mg "Promise" = some (.ref (He.ga K "Promise"))
  cmp_Promise : DL.CmpC K "Promise"
  cls_Promise : Cls K (He.ga K "Promise")
  na_Promiselook : NoAttr K (He.ga K "Promise") "_look"
  na_Promisereserved : NoAttr K (He.ga K "Promise") "_reserved"
  k_InvalidPromise : mg "InvalidPromise" = some (.ref (He.ga K "InvalidPromise"))
  k_InvalidPlace : mg "InvalidPlace" = some (.ref (He.ga K "InvalidPlace"))
  k_NotBeneath : mg "NotBeneath" = some (.ref (He.ga K "NotBeneath"))
  k_InvalidEntry : mg "InvalidEntry" = some (.ref (He.ga K "InvalidEntry"))
  k_InvalidRule : mg "InvalidRule" = some (.ref (He.ga K "InvalidRule"))
  k_InvalidProgram : mg "InvalidProgram" = some (.ref (He.ga K "InvalidProgram"))
  k_InvalidName : mg "InvalidName" = some (.ref (He.ga K "InvalidName"))
  errT_all : DL.ErrT K ["InvalidPromise"] ["InvalidPlace", "NotBeneath", "InvalidEntry", "InvalidRule", "InvalidPromise", "InvalidProgram", "InvalidName", "OverPower", "Stale", "NotSharing", "NotMendable", "Unsound", "TooMany", "LentError"]
  k_OverPower : mg "OverPower" = some (.ref (He.ga K "OverPower"))
  k_Stale : mg "Stale" = some (.ref (He.ga K "Stale"))
  k_NotSharing : mg "NotSharing" = some (.ref (He.ga K "NotSharing"))
  k_NotMendable : mg "NotMendable" = some (.ref (He.ga K "NotMendable"))
  k_Unsound : mg "Unsound" = some (.ref (He.ga K "Unsound"))
  k_TooMany : mg "TooMany" = some (.ref (He.ga K "TooMany"))
  errno_text : ∀ C ∈ (["InvalidPromise"] : List Str), PySem.W.findIn K (.ref (He.ga K C)) "text" = some none
  k_LentError : mg "LentError" = some (.ref (He.ga K "LentError"))
  is_Promise : DL.IsC K "Promise"
  cvt_Promise_WORDS : DL.CvT K "Promise" "WORDS" ["fresh", "kept"]
  rd_Promise : ClX.CRead K (He.ga K "Promise") (.type "type")
section
variable {P : Program} {w : World} {K : PySem.W.Frag} {mg : Str → Option Value} {base : Heap}
theorem sc_l_begin : FnScope ["_law_script"] ["_law_script"] (defScope s_l_begin) := ⟨rfl, rfl, rfl, by decide +kernel, rfl, by decide +kernel, by decide +kernel⟩
theorem ok_l_begin {f : Addr} {fd : FuncData} (F : FunD K "_law_begin" "_law_begin" (defArgs s_l_begin) (defBody s_l_begin) (defScope s_l_begin) [] [] f fd) (B : Md w K mg)  : FnOk P w K mg base (L2.CX P w) (1) f fd ["_law_script"] (lsp K sp_l_begin) :=
  def_ok (N := ["_law_script"]) (k := 0) (t := w_l_begin) F sc_l_begin (by intro ds M Q E h; unfold sp_l_begin at h; first | (obtain ⟨rfl, _⟩ := h; rfl) | (obtain ⟨_, rfl, _⟩ := h; rfl) | (obtain ⟨_, _, rfl, _⟩ := h; rfl) | (obtain ⟨_, _, _, rfl, _⟩ := h; rfl) | (obtain ⟨_, _, _, _, rfl, _⟩ := h; rfl) | (obtain ⟨_, _, _, _, _, rfl, _⟩ := h; rfl) | (obtain ⟨_, _, _, _, _, _, rfl, _⟩ := h; rfl) | (obtain ⟨_, _, _, _, _, _, _, rfl, _⟩ := h; rfl) | (obtain ⟨_, _, _, _, _, _, _, _, rfl, _⟩ := h; rfl) | (obtain ⟨_, _, _, _, _, _, _, _, _, rfl, _⟩ := h; rfl) | (obtain ⟨_, _, _, _, _, _, _, _, _, _, rfl, _⟩ := h; rfl) | (obtain ⟨_, _, _, _, _, _, _, _, _, _, _, rfl, _⟩ := h; rfl) | (obtain ⟨_, _, _, _, _, _, _, _, _, _, _, _, rfl, _⟩ := h; rfl) | (obtain ⟨_, _, _, _, _, _, _, _, _, _, _, _, _, rfl, _⟩ := h; rfl))
    (fun cdv A outer s H E G hr => by exact dss_one (ds_ret (de_lstM (da_cons (de_callTy cb_list call_list_of B.n_list PyProof.Rows.boot_list (da_cons (de_var 0) (da_nil))) (da_cons (de_int) (da_cons (de_un un_neg ud_neg (de_int)) (da_cons (de_int) (da_nil)))))))) p_l_begin
theorem sc_l_draw : FnScope ["_law_source", "_law_size", "_law_number", "_law_drawn", "_law_mixed"] ["_law_source", "_law_size"] (defScope s_l_draw) := ⟨rfl, rfl, rfl, by decide +kernel, rfl, by decide +kernel, by decide +kernel⟩
theorem ok_l_draw {f : Addr} {fd : FuncData} (F : FunD K "_law_draw" "_law_draw" (defArgs s_l_draw) (defBody s_l_draw) (defScope s_l_draw) [] [] f fd) (B : Md w K mg)  : FnOk P w K mg base (L2.CX P w) (1) f fd ["_law_source", "_law_size"] (lsp K sp_l_draw) :=
  def_ok (N := ["_law_source", "_law_size", "_law_number", "_law_drawn", "_law_mixed"]) (k := 0) (t := w_l_draw) F sc_l_draw (by intro ds M Q E h; unfold sp_l_draw at h; first | (obtain ⟨rfl, _⟩ := h; rfl) | (obtain ⟨_, rfl, _⟩ := h; rfl) | (obtain ⟨_, _, rfl, _⟩ := h; rfl) | (obtain ⟨_, _, _, rfl, _⟩ := h; rfl) | (obtain ⟨_, _, _, _, rfl, _⟩ := h; rfl) | (obtain ⟨_, _, _, _, _, rfl, _⟩ := h; rfl) | (obtain ⟨_, _, _, _, _, _, rfl, _⟩ := h; rfl) | (obtain ⟨_, _, _, _, _, _, _, rfl, _⟩ := h; rfl) | (obtain ⟨_, _, _, _, _, _, _, _, rfl, _⟩ := h; rfl) | (obtain ⟨_, _, _, _, _, _, _, _, _, rfl, _⟩ := h; rfl) | (obtain ⟨_, _, _, _, _, _, _, _, _, _, rfl, _⟩ := h; rfl) | (obtain ⟨_, _, _, _, _, _, _, _, _, _, _, rfl, _⟩ := h; rfl) | (obtain ⟨_, _, _, _, _, _, _, _, _, _, _, _, rfl, _⟩ := h; rfl) | (obtain ⟨_, _, _, _, _, _, _, _, _, _, _, _, _, rfl, _⟩ := h; rfl))
    (fun cdv A outer s H E G hr => by exact dss_cons (ds_if (dt_cmp op_ge od_b (de_ix G (de_var 0) (de_int)) (de_callB cb_len call_lenA B.n_len PySem.boot_len (da_cons (de_ix G (de_var 0) (de_int)) (da_nil))) (by first | exact nomark _ | rfl | with_unfolding_all rfl)) (dss_one (ds_ret (de_int))) (dss_nil)) (dss_cons (ds_set 2 G (de_ix G (de_ix G (de_var 0) (de_int)) (de_ix G (de_var 0) (de_int)))) (dss_cons (ds_if (dt_cmp op_lt od_b (de_var 2) (de_int) (by first | exact nomark _ | rfl | with_unfolding_all rfl)) (dss_one (ds_set 2 G (de_op op_sub od_sub (de_un un_neg ud_neg (de_int)) (de_var 2)))) (dss_nil)) (dss_cons (ds_if (dt_cmp op_lt od_b (de_ix G (de_var 0) (de_int)) (de_int) (by first | exact nomark _ | rfl | with_unfolding_all rfl)) (dss_cons (ds_asg (de_var 2) (dg_setA G (de_var 0) (de_int))) (dss_one (ds_asg (de_int) (dg_setA G (de_var 0) (de_int))))) (dss_nil)) (dss_cons (ds_asg (de_op op_addA od_add (de_ix G (de_var 0) (de_int)) (de_int)) (dg_setA G (de_var 0) (de_int))) (dss_cons (ds_if (dt_cmp op_ge od_b (de_var 2) (de_op op_pow od_pow (de_int) (de_int)) (by first | exact nomark _ | rfl | with_unfolding_all rfl)) (dss_cons (ds_set 3 G (de_op op_mod od_mod (de_callTy cb_int call_int1 B.n_int PyProof.Rows.boot_int (da_cons (de_ix G (de_var 0) (de_int)) (da_nil))) (de_var 1))) (dss_cons (ds_asg (de_op op_fdiv od_div (de_ix G (de_var 0) (de_int)) (de_var 1)) (dg_setA G (de_var 0) (de_int))) (dss_one (ds_if (dt_w (dw_and (dt_cmp op_gt od_b (de_ix G (de_var 0) (de_int)) (de_int) (by first | exact nomark _ | rfl | with_unfolding_all rfl)) (dw_and1 (dt_cmp op_lt od_b (de_ix G (de_var 0) (de_int)) (de_int) (by first | exact nomark _ | rfl | with_unfolding_all rfl))))) (dss_one (ds_ret (de_var 3))) (dss_nil))))) (dss_one (ds_if (dt_cmp (op_eqN G) od_eq (de_ix G (de_var 0) (de_int)) (de_int) (by first | exact nomark _ | rfl | with_unfolding_all rfl)) (dss_cons (ds_set 4 G (de_op op_mod od_mod (de_callTy cb_int call_int1 B.n_int PyProof.Rows.boot_int (da_cons (de_op op_addA od_add (de_op op_addA od_add (de_op op_mul od_mul (de_var 2) (de_int)) (de_op op_mul od_mul (de_ix G (de_var 0) (de_int)) (de_int))) (de_int)) (da_nil))) (de_int))) (dss_one (ds_ret (de_op op_mod od_mod (de_callTy cb_int call_int1 B.n_int PyProof.Rows.boot_int (da_cons (de_op op_mod od_mod (de_callTy cb_int call_int1 B.n_int PyProof.Rows.boot_int (da_cons (de_op op_addA od_add (de_op op_mul od_mul (de_var 4) (de_int)) (de_int)) (da_nil))) (de_int)) (da_nil))) (de_var 1))))) (dss_cons (ds_set 4 G (de_op op_mod od_mod (de_callTy cb_int call_int1 B.n_int PyProof.Rows.boot_int (da_cons (de_op op_addA od_add (de_op op_addA od_add (de_op op_mul od_mul (de_var 2) (de_int)) (de_op op_mul od_mul (de_ix G (de_var 0) (de_int)) (de_int))) (de_int)) (da_nil))) (de_int))) (dss_one (ds_set 3 G (de_op op_mod od_mod (de_callTy cb_int call_int1 B.n_int PyProof.Rows.boot_int (da_cons (de_op op_mod od_mod (de_callTy cb_int call_int1 B.n_int PyProof.Rows.boot_int (da_cons (de_op op_addA od_add (de_op op_mul od_mul (de_var 4) (de_int)) (de_int)) (da_nil))) (de_int)) (da_nil))) (de_var 1)))))))) (dss_cons (ds_asg (de_op op_addA od_add (de_ix G (de_var 0) (de_int)) (de_int)) (dg_setA G (de_var 0) (de_int))) (dss_cons (ds_asg (de_un un_neg ud_neg (de_int)) (dg_setA G (de_var 0) (de_int))) (dss_one (ds_ret (de_var 3))))))))))) p_l_draw
theorem sc_l_pick : FnScope ["_law_source", "_law_row"] ["_law_source", "_law_row"] (defScope s_l_pick) := ⟨rfl, rfl, rfl, by decide +kernel, rfl, by decide +kernel, by decide +kernel⟩
theorem ok_l_pick {f : Addr} {fd : FuncData} (F : FunD K "_law_pick" "_law_pick" (defArgs s_l_pick) (defBody s_l_pick) (defScope s_l_pick) [] [] f fd) (B : Md w K mg) (F_l_draw : FnM P w K mg base 1 "_law_draw" sp_l_draw) : FnOk P w K mg base (L2.CX P w) (2) f fd ["_law_source", "_law_row"] (lsp K sp_l_pick) :=
  def_ok (N := ["_law_source", "_law_row"]) (k := 1) (t := w_l_pick) F sc_l_pick (by intro ds M Q E h; unfold sp_l_pick at h; first | (obtain ⟨rfl, _⟩ := h; rfl) | (obtain ⟨_, rfl, _⟩ := h; rfl) | (obtain ⟨_, _, rfl, _⟩ := h; rfl) | (obtain ⟨_, _, _, rfl, _⟩ := h; rfl) | (obtain ⟨_, _, _, _, rfl, _⟩ := h; rfl) | (obtain ⟨_, _, _, _, _, rfl, _⟩ := h; rfl) | (obtain ⟨_, _, _, _, _, _, rfl, _⟩ := h; rfl) | (obtain ⟨_, _, _, _, _, _, _, rfl, _⟩ := h; rfl) | (obtain ⟨_, _, _, _, _, _, _, _, rfl, _⟩ := h; rfl) | (obtain ⟨_, _, _, _, _, _, _, _, _, rfl, _⟩ := h; rfl) | (obtain ⟨_, _, _, _, _, _, _, _, _, _, rfl, _⟩ := h; rfl) | (obtain ⟨_, _, _, _, _, _, _, _, _, _, _, rfl, _⟩ := h; rfl) | (obtain ⟨_, _, _, _, _, _, _, _, _, _, _, _, rfl, _⟩ := h; rfl) | (obtain ⟨_, _, _, _, _, _, _, _, _, _, _, _, _, rfl, _⟩ := h; rfl))
    (fun cdv A outer s H E G hr => by exact dss_one (ds_ret (de_ix G (de_var 1) (de_call F_l_draw G (hr.mono (by omega)) (da_cons (de_var 0) (da_cons (de_callB cb_len call_lenA B.n_len PySem.boot_len (da_cons (de_var 1) (da_nil))) (da_nil))))))) p_l_pick
theorem ok_InvalidPromise_init {cc cda : Addr} {fd : FuncData} (D : ErrD K "__init__" "InvalidPromise.__init__" (defArgs s_InvalidPromise_init) (defBody s_InvalidPromise_init) (defScope s_InvalidPromise_init) (He.ga K "InvalidPromise") (He.ma K (He.ga K "InvalidPromise") "__init__") cc cda PySem.Challenge.pw_lentahead_k18_promises_changed_and_order.main.file fd)
    (c : errCB "InvalidPromise" "text" K = true) (g : mg "InvalidPromise" = some (.ref (He.ga K "InvalidPromise"))) (hs : mg "super" = none) (h1 : (P.main.file == PySem.Challenge.pw_lentahead_k18_promises_changed_and_order.main.file) = true) (h2 : (P.main.scope.names.lookup ("super" : Str)).isSome = false) : FnE P w K mg base 1 "InvalidPromise" "text" :=
  fnE_of D (err_ok (N := ["self", "text", "__class__"]) (k := 0) (self := "self") (par := "text") D (errCB_ok c).1 (errCB_ok c).2.1 (NdefX.nscope_by (by decide +kernel)) (by rfl) (by rfl) (by rfl) rfl rfl h1 hs h2 (by decide +kernel) (fun _ => rfl) (fun _ => rfl) (fun _ => rfl) (fun _ => ⟨_, rfl⟩) (by decide) (by decide) (by decide) (by decide)) c g (fun _ _ _ _ _ us hl => match us, hl with | [_, _], _ => rfl)
theorem sc_checked_word : FnScope ["word"] ["word"] (defScope s_checked_word) := ⟨rfl, rfl, rfl, by decide +kernel, rfl, by decide +kernel, by decide +kernel⟩
theorem ok_checked_word {f : Addr} {fd : FuncData} (F : FunD K "checked_word" "checked_word" (defArgs s_checked_word) (defBody s_checked_word) (defScope s_checked_word) [] [] f fd) (B : Md w K mg) (F_InvalidPromise_init : FnE P w K mg base 1 "InvalidPromise" "text") : FnOk P w K mg base (L2.CX P w) (3) f fd ["word"] (lsp K sp_checked_word) :=
  def_ok (N := ["word"]) (k := 2) (t := w_checked_word) F sc_checked_word (by intro ds M Q E h; unfold sp_checked_word at h; first | (obtain ⟨rfl, _⟩ := h; rfl) | (obtain ⟨_, rfl, _⟩ := h; rfl) | (obtain ⟨_, _, rfl, _⟩ := h; rfl) | (obtain ⟨_, _, _, rfl, _⟩ := h; rfl) | (obtain ⟨_, _, _, _, rfl, _⟩ := h; rfl) | (obtain ⟨_, _, _, _, _, rfl, _⟩ := h; rfl) | (obtain ⟨_, _, _, _, _, _, rfl, _⟩ := h; rfl) | (obtain ⟨_, _, _, _, _, _, _, rfl, _⟩ := h; rfl) | (obtain ⟨_, _, _, _, _, _, _, _, rfl, _⟩ := h; rfl) | (obtain ⟨_, _, _, _, _, _, _, _, _, rfl, _⟩ := h; rfl) | (obtain ⟨_, _, _, _, _, _, _, _, _, _, rfl, _⟩ := h; rfl) | (obtain ⟨_, _, _, _, _, _, _, _, _, _, _, rfl, _⟩ := h; rfl) | (obtain ⟨_, _, _, _, _, _, _, _, _, _, _, _, rfl, _⟩ := h; rfl) | (obtain ⟨_, _, _, _, _, _, _, _, _, _, _, _, _, rfl, _⟩ := h; rfl))
    (fun cdv A outer s H E G hr => by exact dss_cons (ds_if (dt_cmp (op_notInN G) od_in (de_var 0) (de_tup (da_cons (de_str) (da_cons (de_str) (da_nil)))) (by first | exact nomark _ | rfl | with_unfolding_all rfl)) (dss_one (ds_raise F_InvalidPromise_init G (hr.mono (by omega)) (de_var 0))) (dss_nil)) (dss_one (ds_ret (de_var 0)))) p_checked_word
theorem sc_Promise_init : FnScope ["self", "look", "reserved"] ["self", "look", "reserved"] (defScope s_Promise_init) := ⟨rfl, rfl, rfl, by decide +kernel, rfl, by decide +kernel, by decide +kernel⟩
theorem ok_Promise_init {f : Addr} {fd : FuncData} (F : FunD K "__init__" "Promise.__init__" (defArgs s_Promise_init) (defBody s_Promise_init) (defScope s_Promise_init) [] [] f fd) (B : Md w K mg) (F_checked_word : FnM P w K mg base 3 "checked_word" sp_checked_word) : FnOk P w K mg base (L2.CX P w) (4) f fd ["self", "look", "reserved"] (lsp K sp_Promise_init) :=
  def_ok (N := ["self", "look", "reserved"]) (k := 3) (t := w_Promise_init) F sc_Promise_init (by intro ds M Q E h; unfold sp_Promise_init at h; first | (obtain ⟨rfl, _⟩ := h; rfl) | (obtain ⟨_, rfl, _⟩ := h; rfl) | (obtain ⟨_, _, rfl, _⟩ := h; rfl) | (obtain ⟨_, _, _, rfl, _⟩ := h; rfl) | (obtain ⟨_, _, _, _, rfl, _⟩ := h; rfl) | (obtain ⟨_, _, _, _, _, rfl, _⟩ := h; rfl) | (obtain ⟨_, _, _, _, _, _, rfl, _⟩ := h; rfl) | (obtain ⟨_, _, _, _, _, _, _, rfl, _⟩ := h; rfl) | (obtain ⟨_, _, _, _, _, _, _, _, rfl, _⟩ := h; rfl) | (obtain ⟨_, _, _, _, _, _, _, _, _, rfl, _⟩ := h; rfl) | (obtain ⟨_, _, _, _, _, _, _, _, _, _, rfl, _⟩ := h; rfl) | (obtain ⟨_, _, _, _, _, _, _, _, _, _, _, rfl, _⟩ := h; rfl) | (obtain ⟨_, _, _, _, _, _, _, _, _, _, _, _, rfl, _⟩ := h; rfl) | (obtain ⟨_, _, _, _, _, _, _, _, _, _, _, _, _, rfl, _⟩ := h; rfl))
    (fun cdv A outer s H E G hr => by exact dss_cons (ds_setF B.cls_Promise B.na_Promiselook (de_var 0) (de_call F_checked_word G (hr.mono (by omega)) (da_cons (de_var 1) (da_nil)))) (dss_one (ds_setF B.cls_Promise B.na_Promisereserved (de_var 0) (de_call F_checked_word G (hr.mono (by omega)) (da_cons (de_var 2) (da_nil)))))) p_Promise_init
theorem sc_l_sign : FnScope ["_law_source", "_law_signs"] ["_law_source"] (defScope s_l_sign) := ⟨rfl, rfl, rfl, by decide +kernel, rfl, by decide +kernel, by decide +kernel⟩
theorem ok_l_sign {f : Addr} {fd : FuncData} (F : FunD K "_law_sign" "_law_sign" (defArgs s_l_sign) (defBody s_l_sign) (defScope s_l_sign) [] [] f fd) (B : Md w K mg) (F_l_draw : FnM P w K mg base 1 "_law_draw" sp_l_draw) (F_l_pick : FnM P w K mg base 2 "_law_pick" sp_l_pick) : FnOk P w K mg base (L2.CX P w) (3) f fd ["_law_source"] (lsp K sp_l_sign) :=
  def_ok (N := ["_law_source", "_law_signs"]) (k := 2) (t := w_l_sign) F sc_l_sign (by intro ds M Q E h; unfold sp_l_sign at h; first | (obtain ⟨rfl, _⟩ := h; rfl) | (obtain ⟨_, rfl, _⟩ := h; rfl) | (obtain ⟨_, _, rfl, _⟩ := h; rfl) | (obtain ⟨_, _, _, rfl, _⟩ := h; rfl) | (obtain ⟨_, _, _, _, rfl, _⟩ := h; rfl) | (obtain ⟨_, _, _, _, _, rfl, _⟩ := h; rfl) | (obtain ⟨_, _, _, _, _, _, rfl, _⟩ := h; rfl) | (obtain ⟨_, _, _, _, _, _, _, rfl, _⟩ := h; rfl) | (obtain ⟨_, _, _, _, _, _, _, _, rfl, _⟩ := h; rfl) | (obtain ⟨_, _, _, _, _, _, _, _, _, rfl, _⟩ := h; rfl) | (obtain ⟨_, _, _, _, _, _, _, _, _, _, rfl, _⟩ := h; rfl) | (obtain ⟨_, _, _, _, _, _, _, _, _, _, _, rfl, _⟩ := h; rfl) | (obtain ⟨_, _, _, _, _, _, _, _, _, _, _, _, rfl, _⟩ := h; rfl) | (obtain ⟨_, _, _, _, _, _, _, _, _, _, _, _, _, rfl, _⟩ := h; rfl))
    (fun cdv A outer s H E G hr => by exact dss_cons (ds_if (dt_cmp (op_eqN G) od_eq (de_call F_l_draw G (hr.mono (by omega)) (da_cons (de_var 0) (da_cons (de_int) (da_nil)))) (de_int) (by first | exact nomark _ | rfl | with_unfolding_all rfl)) (dss_one (ds_ret (de_call F_l_pick G (hr.mono (by omega)) (da_cons (de_var 0) (da_cons (de_str) (da_nil)))))) (dss_nil)) (dss_cons (ds_set 1 G (de_str)) (dss_one (ds_ret (de_call F_l_pick G (hr.mono (by omega)) (da_cons (de_var 0) (da_cons (de_op op_addA od_add (de_var 1) (de_str)) (da_nil)))))))) p_l_sign
theorem sc_l_text : FnScope ["_law_source", "_law_texts", "_law_k"] ["_law_source", "_law_texts"] (defScope s_l_text) := ⟨rfl, rfl, rfl, by decide +kernel, rfl, by decide +kernel, by decide +kernel⟩
theorem ok_l_text {f : Addr} {fd : FuncData} (F : FunD K "_law_text" "_law_text" (defArgs s_l_text) (defBody s_l_text) (defScope s_l_text) [] [] f fd) (B : Md w K mg) (F_l_draw : FnM P w K mg base 1 "_law_draw" sp_l_draw) (F_l_sign : FnM P w K mg base 3 "_law_sign" sp_l_sign) (F_l_pick : FnM P w K mg base 2 "_law_pick" sp_l_pick) : FnOk P w K mg base (L2.CX P w) (4) f fd ["_law_source", "_law_texts"] (lsp K sp_l_text) :=
  def_ok (N := ["_law_source", "_law_texts", "_law_k"]) (k := 3) (t := w_l_text) F sc_l_text (by intro ds M Q E h; unfold sp_l_text at h; first | (obtain ⟨rfl, _⟩ := h; rfl) | (obtain ⟨_, rfl, _⟩ := h; rfl) | (obtain ⟨_, _, rfl, _⟩ := h; rfl) | (obtain ⟨_, _, _, rfl, _⟩ := h; rfl) | (obtain ⟨_, _, _, _, rfl, _⟩ := h; rfl) | (obtain ⟨_, _, _, _, _, rfl, _⟩ := h; rfl) | (obtain ⟨_, _, _, _, _, _, rfl, _⟩ := h; rfl) | (obtain ⟨_, _, _, _, _, _, _, rfl, _⟩ := h; rfl) | (obtain ⟨_, _, _, _, _, _, _, _, rfl, _⟩ := h; rfl) | (obtain ⟨_, _, _, _, _, _, _, _, _, rfl, _⟩ := h; rfl) | (obtain ⟨_, _, _, _, _, _, _, _, _, _, rfl, _⟩ := h; rfl) | (obtain ⟨_, _, _, _, _, _, _, _, _, _, _, rfl, _⟩ := h; rfl) | (obtain ⟨_, _, _, _, _, _, _, _, _, _, _, _, rfl, _⟩ := h; rfl) | (obtain ⟨_, _, _, _, _, _, _, _, _, _, _, _, _, rfl, _⟩ := h; rfl))
    (fun cdv A outer s H E G hr => by exact dss_cons (ds_if (dt_cmp (op_eqN G) od_eq (de_call F_l_draw G (hr.mono (by omega)) (da_cons (de_var 0) (da_cons (de_int) (da_nil)))) (de_int) (by first | exact nomark _ | rfl | with_unfolding_all rfl)) (dss_one (ds_ret (de_mt PySem.F.plainAttrs_str PySem.F.slot_str_join PySem.F.type_str_join md_join mt_join (de_strc (by decide +kernel)) (da_cons (de_frz (de_lc1 [("_law_k", 2)] G (di_rng1 B.n_range (da_cons (de_call F_l_draw G (hr.mono (by omega)) (da_cons (de_var 0) (da_cons (de_int) (da_nil)))) (da_nil))) (fun _ _ _ _ _ G => bk1 (dgw_name 2 G.nd) (dts_nil) (de_call F_l_sign G (hr.mono (by omega)) (da_cons (de_var 0) (da_nil)))))) (da_nil))))) (dss_nil)) (dss_one (ds_ret (de_call F_l_pick G (hr.mono (by omega)) (da_cons (de_var 0) (da_cons (de_var 1) (da_nil))))))) p_l_text
theorem sc_l_same_row : FnScope ["_law_actual", "_law_expected", "_law_k"] ["_law_actual", "_law_expected"] (defScope s_l_same_row) := ⟨rfl, rfl, rfl, by decide +kernel, rfl, by decide +kernel, by decide +kernel⟩
theorem ok_l_same_row {n k : Nat} {f : Addr} {fd : FuncData} (F : FunD K "_law_same_row" "_law_same_row" (defArgs s_l_same_row) (defBody s_l_same_row) (defScope s_l_same_row) [] [] f fd) (B : Md w K mg) (F_l_same : FnM P w K mg base k "_law_same" (sp_l_same n)) : FnOk P w K mg base (L2.CX P w) (k + 1) f fd ["_law_actual", "_law_expected"] (lsp K (sp_l_same_row (n + 1))) :=
  def_ok (N := ["_law_actual", "_law_expected", "_law_k"]) (k := k) (t := (w_l_same_row n)) F sc_l_same_row (by intro ds M Q E h; unfold sp_l_same_row at h; first | (obtain ⟨rfl, _⟩ := h; rfl) | (obtain ⟨_, rfl, _⟩ := h; rfl) | (obtain ⟨_, _, rfl, _⟩ := h; rfl) | (obtain ⟨_, _, _, rfl, _⟩ := h; rfl) | (obtain ⟨_, _, _, _, rfl, _⟩ := h; rfl) | (obtain ⟨_, _, _, _, _, rfl, _⟩ := h; rfl) | (obtain ⟨_, _, _, _, _, _, rfl, _⟩ := h; rfl) | (obtain ⟨_, _, _, _, _, _, _, rfl, _⟩ := h; rfl) | (obtain ⟨_, _, _, _, _, _, _, _, rfl, _⟩ := h; rfl) | (obtain ⟨_, _, _, _, _, _, _, _, _, rfl, _⟩ := h; rfl) | (obtain ⟨_, _, _, _, _, _, _, _, _, _, rfl, _⟩ := h; rfl) | (obtain ⟨_, _, _, _, _, _, _, _, _, _, _, rfl, _⟩ := h; rfl) | (obtain ⟨_, _, _, _, _, _, _, _, _, _, _, _, rfl, _⟩ := h; rfl) | (obtain ⟨_, _, _, _, _, _, _, _, _, _, _, _, _, rfl, _⟩ := h; rfl))
    (fun cdv A outer s H E G hr => by exact dss_cons (ds_if (dt_cmp (op_neN G) od_eq (de_callB cb_len call_lenA B.n_len PySem.boot_len (da_cons (de_var 0) (da_nil))) (de_callB cb_len call_lenA B.n_len PySem.boot_len (da_cons (de_var 1) (da_nil))) (by first | exact nomark _ | rfl | with_unfolding_all rfl)) (dss_one (ds_ret (de_bl))) (dss_nil)) (dss_cons (ds_for G (di_rng1 B.n_range (da_cons (de_callB cb_len call_lenA B.n_len PySem.boot_len (da_cons (de_var 1) (da_nil))) (da_nil))) (dg_name 2 G.nd) (dss_one (ds_if (dt_not (dt_tru (de_call F_l_same G (hr.mono (by omega)) (da_cons (de_ix G (de_var 0) (de_var 2)) (da_cons (de_ix G (de_var 1) (de_var 2)) (da_nil)))))) (dss_one (ds_ret (de_bl))) (dss_nil)))) (dss_one (ds_ret (de_bl))))) (p_l_same_row n)
theorem sc_l_same : FnScope ["_law_actual", "_law_expected"] ["_law_actual", "_law_expected"] (defScope s_l_same) := ⟨rfl, rfl, rfl, by decide +kernel, rfl, by decide +kernel, by decide +kernel⟩
theorem ok_l_same {n k : Nat} {f : Addr} {fd : FuncData} (F : FunD K "_law_same" "_law_same" (defArgs s_l_same) (defBody s_l_same) (defScope s_l_same) [] [] f fd) (B : Md w K mg) (F_l_same_row : FnM P w K mg base k "_law_same_row" (sp_l_same_row n)) : FnOk P w K mg base (L2.CX P w) (k + 1) f fd ["_law_actual", "_law_expected"] (lsp K (sp_l_same n)) :=
  def_ok (N := ["_law_actual", "_law_expected"]) (k := k) (t := (w_l_same n)) F sc_l_same (by intro ds M Q E h; unfold sp_l_same at h; first | (obtain ⟨rfl, _⟩ := h; rfl) | (obtain ⟨_, rfl, _⟩ := h; rfl) | (obtain ⟨_, _, rfl, _⟩ := h; rfl) | (obtain ⟨_, _, _, rfl, _⟩ := h; rfl) | (obtain ⟨_, _, _, _, rfl, _⟩ := h; rfl) | (obtain ⟨_, _, _, _, _, rfl, _⟩ := h; rfl) | (obtain ⟨_, _, _, _, _, _, rfl, _⟩ := h; rfl) | (obtain ⟨_, _, _, _, _, _, _, rfl, _⟩ := h; rfl) | (obtain ⟨_, _, _, _, _, _, _, _, rfl, _⟩ := h; rfl) | (obtain ⟨_, _, _, _, _, _, _, _, _, rfl, _⟩ := h; rfl) | (obtain ⟨_, _, _, _, _, _, _, _, _, _, rfl, _⟩ := h; rfl) | (obtain ⟨_, _, _, _, _, _, _, _, _, _, _, rfl, _⟩ := h; rfl) | (obtain ⟨_, _, _, _, _, _, _, _, _, _, _, _, rfl, _⟩ := h; rfl) | (obtain ⟨_, _, _, _, _, _, _, _, _, _, _, _, _, rfl, _⟩ := h; rfl))
    (fun cdv A outer s H E G hr => by exact dss_cons (ds_if (dt_cmp op_isN od_isN (de_var 1) (de_non) (by first | exact nomark _ | rfl | with_unfolding_all rfl)) (dss_one (ds_ret (de_cmp op_isN od_isN (de_var 0) (de_non) (by first | exact nomark _ | rfl | with_unfolding_all rfl)))) (dss_nil)) (dss_cons (ds_if (dt_tru (de_callB cb_isi call_isi B.n_isinstance PyProof.Rows.boot_isinstance (da_cons (de_var 1) (da_cons (de_ty B.n_bool PyProof.Rows.boot_bool) (da_nil))))) (dss_one (ds_ret (de_and (de_callB cb_isi call_isi B.n_isinstance PyProof.Rows.boot_isinstance (da_cons (de_var 0) (da_cons (de_ty B.n_bool PyProof.Rows.boot_bool) (da_nil)))) (de_one (de_cmp (op_eqN G) od_eq (de_var 0) (de_var 1) (by first | exact nomark _ | rfl | with_unfolding_all rfl)))))) (dss_nil)) (dss_cons (ds_if (dt_tru (de_callB cb_isi call_isi B.n_isinstance PyProof.Rows.boot_isinstance (da_cons (de_var 1) (da_cons (de_ty B.n_int PyProof.Rows.boot_int) (da_nil))))) (dss_one (ds_ret (de_and (de_callB cb_isi call_isi B.n_isinstance PyProof.Rows.boot_isinstance (da_cons (de_var 0) (da_cons (de_ty B.n_int PyProof.Rows.boot_int) (da_nil)))) (de_and (de_not (de_callB cb_isi call_isi B.n_isinstance PyProof.Rows.boot_isinstance (da_cons (de_var 0) (da_cons (de_ty B.n_bool PyProof.Rows.boot_bool) (da_nil))))) (de_one (de_cmp (op_eqN G) od_eq (de_var 0) (de_var 1) (by first | exact nomark _ | rfl | with_unfolding_all rfl))))))) (dss_nil)) (dss_cons (ds_if (dt_tru (de_callB cb_isi call_isi B.n_isinstance PyProof.Rows.boot_isinstance (da_cons (de_var 1) (da_cons (de_ty B.n_str PyProof.Rows.boot_str) (da_nil))))) (dss_one (ds_ret (de_and (de_callB cb_isi call_isi B.n_isinstance PyProof.Rows.boot_isinstance (da_cons (de_var 0) (da_cons (de_ty B.n_str PyProof.Rows.boot_str) (da_nil)))) (de_one (de_cmp (op_eqN G) od_eq (de_var 0) (de_var 1) (by first | exact nomark _ | rfl | with_unfolding_all rfl)))))) (dss_nil)) (dss_cons (ds_if (dt_tru (de_callB cb_isi call_isi B.n_isinstance PyProof.Rows.boot_isinstance (da_cons (de_var 1) (da_cons (de_ty B.n_list PyProof.Rows.boot_list) (da_nil))))) (dss_one (ds_ret (de_and (de_callB cb_isi call_isi B.n_isinstance PyProof.Rows.boot_isinstance (da_cons (de_var 0) (da_cons (de_ty B.n_list PyProof.Rows.boot_list) (da_nil)))) (de_one (de_call F_l_same_row G (hr.mono (by omega)) (da_cons (de_var 0) (da_cons (de_var 1) (da_nil)))))))) (dss_nil)) (dss_one (ds_ret (de_and (de_callB cb_isi call_isi B.n_isinstance PyProof.Rows.boot_isinstance (da_cons (de_var 0) (da_cons (de_ty B.n_tuple PyProof.Rows.boot_tuple) (da_nil)))) (de_one (de_call F_l_same_row G (hr.mono (by omega)) (da_cons (de_var 0) (da_cons (de_var 1) (da_nil))))))))))))) (p_l_same n)
theorem sc_Promise_look_setter : FnScope ["self", "word"] ["self", "word"] (defScope s_Promise_look_setter) := ⟨rfl, rfl, rfl, by decide +kernel, rfl, by decide +kernel, by decide +kernel⟩
theorem ok_Promise_look_setter {f : Addr} {fd : FuncData} (F : FunD K "look" "Promise.look" (defArgs s_Promise_look_setter) (defBody s_Promise_look_setter) (defScope s_Promise_look_setter) [] [] f fd) (B : Md w K mg) (F_checked_word : FnM P w K mg base 3 "checked_word" sp_checked_word) : FnOk P w K mg base (L2.CX P w) (4) f fd ["self", "word"] (lsp K sp_Promise_look_setter) :=
  def_ok (N := ["self", "word"]) (k := 3) (t := w_Promise_look_setter) F sc_Promise_look_setter (by intro ds M Q E h; unfold sp_Promise_look_setter at h; first | (obtain ⟨rfl, _⟩ := h; rfl) | (obtain ⟨_, rfl, _⟩ := h; rfl) | (obtain ⟨_, _, rfl, _⟩ := h; rfl) | (obtain ⟨_, _, _, rfl, _⟩ := h; rfl) | (obtain ⟨_, _, _, _, rfl, _⟩ := h; rfl) | (obtain ⟨_, _, _, _, _, rfl, _⟩ := h; rfl) | (obtain ⟨_, _, _, _, _, _, rfl, _⟩ := h; rfl) | (obtain ⟨_, _, _, _, _, _, _, rfl, _⟩ := h; rfl) | (obtain ⟨_, _, _, _, _, _, _, _, rfl, _⟩ := h; rfl) | (obtain ⟨_, _, _, _, _, _, _, _, _, rfl, _⟩ := h; rfl) | (obtain ⟨_, _, _, _, _, _, _, _, _, _, rfl, _⟩ := h; rfl) | (obtain ⟨_, _, _, _, _, _, _, _, _, _, _, rfl, _⟩ := h; rfl) | (obtain ⟨_, _, _, _, _, _, _, _, _, _, _, _, rfl, _⟩ := h; rfl) | (obtain ⟨_, _, _, _, _, _, _, _, _, _, _, _, _, rfl, _⟩ := h; rfl))
    (fun cdv A outer s H E G hr => by exact dss_one (ds_setF B.cls_Promise B.na_Promiselook (de_var 0) (de_call F_checked_word G (hr.mono (by omega)) (da_cons (de_var 1) (da_nil))))) p_Promise_look_setter
theorem sc_Promise_reserved_setter : FnScope ["self", "word"] ["self", "word"] (defScope s_Promise_reserved_setter) := ⟨rfl, rfl, rfl, by decide +kernel, rfl, by decide +kernel, by decide +kernel⟩
theorem ok_Promise_reserved_setter {f : Addr} {fd : FuncData} (F : FunD K "reserved" "Promise.reserved" (defArgs s_Promise_reserved_setter) (defBody s_Promise_reserved_setter) (defScope s_Promise_reserved_setter) [] [] f fd) (B : Md w K mg) (F_checked_word : FnM P w K mg base 3 "checked_word" sp_checked_word) : FnOk P w K mg base (L2.CX P w) (4) f fd ["self", "word"] (lsp K sp_Promise_reserved_setter) :=
  def_ok (N := ["self", "word"]) (k := 3) (t := w_Promise_reserved_setter) F sc_Promise_reserved_setter (by intro ds M Q E h; unfold sp_Promise_reserved_setter at h; first | (obtain ⟨rfl, _⟩ := h; rfl) | (obtain ⟨_, rfl, _⟩ := h; rfl) | (obtain ⟨_, _, rfl, _⟩ := h; rfl) | (obtain ⟨_, _, _, rfl, _⟩ := h; rfl) | (obtain ⟨_, _, _, _, rfl, _⟩ := h; rfl) | (obtain ⟨_, _, _, _, _, rfl, _⟩ := h; rfl) | (obtain ⟨_, _, _, _, _, _, rfl, _⟩ := h; rfl) | (obtain ⟨_, _, _, _, _, _, _, rfl, _⟩ := h; rfl) | (obtain ⟨_, _, _, _, _, _, _, _, rfl, _⟩ := h; rfl) | (obtain ⟨_, _, _, _, _, _, _, _, _, rfl, _⟩ := h; rfl) | (obtain ⟨_, _, _, _, _, _, _, _, _, _, rfl, _⟩ := h; rfl) | (obtain ⟨_, _, _, _, _, _, _, _, _, _, _, rfl, _⟩ := h; rfl) | (obtain ⟨_, _, _, _, _, _, _, _, _, _, _, _, rfl, _⟩ := h; rfl) | (obtain ⟨_, _, _, _, _, _, _, _, _, _, _, _, _, rfl, _⟩ := h; rfl))
    (fun cdv A outer s H E G hr => by exact dss_one (ds_setF B.cls_Promise B.na_Promisereserved (de_var 0) (de_call F_checked_word G (hr.mono (by omega)) (da_cons (de_var 1) (da_nil))))) p_Promise_reserved_setter
theorem sc_Promise_change : FnScope ["self", "part", "word"] ["self", "part", "word"] (defScope s_Promise_change) := ⟨rfl, rfl, rfl, by decide +kernel, rfl, by decide +kernel, by decide +kernel⟩
theorem ok_Promise_change {f : Addr} {fd : FuncData} (F : FunD K "change" "Promise.change" (defArgs s_Promise_change) (defBody s_Promise_change) (defScope s_Promise_change) [] [] f fd) (B : Md w K mg) (F_Promise_look_setter : FnPS P w K mg base 4 "Promise" "look" sp_Promise_look_setter) (F_Promise_reserved_setter : FnPS P w K mg base 4 "Promise" "reserved" sp_Promise_reserved_setter) (F_InvalidPromise_init : FnE P w K mg base 1 "InvalidPromise" "text") : FnOk P w K mg base (L2.CX P w) (7) f fd ["self", "part", "word"] (lsp K sp_Promise_change) :=
  def_ok (N := ["self", "part", "word"]) (k := 6) (t := w_Promise_change) F sc_Promise_change (by intro ds M Q E h; unfold sp_Promise_change at h; first | (obtain ⟨rfl, _⟩ := h; rfl) | (obtain ⟨_, rfl, _⟩ := h; rfl) | (obtain ⟨_, _, rfl, _⟩ := h; rfl) | (obtain ⟨_, _, _, rfl, _⟩ := h; rfl) | (obtain ⟨_, _, _, _, rfl, _⟩ := h; rfl) | (obtain ⟨_, _, _, _, _, rfl, _⟩ := h; rfl) | (obtain ⟨_, _, _, _, _, _, rfl, _⟩ := h; rfl) | (obtain ⟨_, _, _, _, _, _, _, rfl, _⟩ := h; rfl) | (obtain ⟨_, _, _, _, _, _, _, _, rfl, _⟩ := h; rfl) | (obtain ⟨_, _, _, _, _, _, _, _, _, rfl, _⟩ := h; rfl) | (obtain ⟨_, _, _, _, _, _, _, _, _, _, rfl, _⟩ := h; rfl) | (obtain ⟨_, _, _, _, _, _, _, _, _, _, _, rfl, _⟩ := h; rfl) | (obtain ⟨_, _, _, _, _, _, _, _, _, _, _, _, rfl, _⟩ := h; rfl) | (obtain ⟨_, _, _, _, _, _, _, _, _, _, _, _, _, rfl, _⟩ := h; rfl))
    (fun cdv A outer s H E G hr => by exact dss_one (ds_if (dt_cmp (op_eqN G) od_eq (de_var 1) (de_str) (by first | exact nomark _ | rfl | with_unfolding_all rfl)) (dss_one (ds_prS F_Promise_look_setter B.cls_Promise G (hr.mono (by omega)) (de_var 0) (de_var 2))) (dss_one (ds_if (dt_cmp (op_eqN G) od_eq (de_var 1) (de_str) (by first | exact nomark _ | rfl | with_unfolding_all rfl)) (dss_one (ds_prS F_Promise_reserved_setter B.cls_Promise G (hr.mono (by omega)) (de_var 0) (de_var 2))) (dss_one (ds_raise F_InvalidPromise_init G (hr.mono (by omega)) (de_var 1))))))) p_Promise_change
theorem sc_l_changed : FnScope ["_law_promise", "_law_part", "_law_word", "e"] ["_law_promise", "_law_part", "_law_word"] (defScope s_l_changed) := ⟨rfl, rfl, rfl, by decide +kernel, rfl, by decide +kernel, by decide +kernel⟩
theorem ok_l_changed {f : Addr} {fd : FuncData} (F : FunD K "_law_changed" "_law_changed" (defArgs s_l_changed) (defBody s_l_changed) (defScope s_l_changed) [] [] f fd) (B : Md w K mg) (F_Promise_change : FnC P w K mg base 7 "Promise" "change" sp_Promise_change) : FnOk P w K mg base (L2.CX P w) (8) f fd ["_law_promise", "_law_part", "_law_word"] (lsp K sp_l_changed) :=
  def_ok (N := ["_law_promise", "_law_part", "_law_word", "e"]) (k := 7) (t := w_l_changed) F sc_l_changed (by intro ds M Q E h; unfold sp_l_changed at h; first | (obtain ⟨rfl, _⟩ := h; rfl) | (obtain ⟨_, rfl, _⟩ := h; rfl) | (obtain ⟨_, _, rfl, _⟩ := h; rfl) | (obtain ⟨_, _, _, rfl, _⟩ := h; rfl) | (obtain ⟨_, _, _, _, rfl, _⟩ := h; rfl) | (obtain ⟨_, _, _, _, _, rfl, _⟩ := h; rfl) | (obtain ⟨_, _, _, _, _, _, rfl, _⟩ := h; rfl) | (obtain ⟨_, _, _, _, _, _, _, rfl, _⟩ := h; rfl) | (obtain ⟨_, _, _, _, _, _, _, _, rfl, _⟩ := h; rfl) | (obtain ⟨_, _, _, _, _, _, _, _, _, rfl, _⟩ := h; rfl) | (obtain ⟨_, _, _, _, _, _, _, _, _, _, rfl, _⟩ := h; rfl) | (obtain ⟨_, _, _, _, _, _, _, _, _, _, _, rfl, _⟩ := h; rfl) | (obtain ⟨_, _, _, _, _, _, _, _, _, _, _, _, rfl, _⟩ := h; rfl) | (obtain ⟨_, _, _, _, _, _, _, _, _, _, _, _, _, rfl, _⟩ := h; rfl))
    (fun cdv A outer s H E G hr => by exact dss_cons (ds_tryas 3 B.errT_all G B.k_LentError (fun W1 pn xe G => dss_cons (ds_if (dt_cmp op_notN od_notN (de_meth F_Promise_change B.cls_Promise G (hr.mono (by omega)) (de_var 0) (da_cons (de_var 1) (da_cons (de_var 2) (da_nil)))) (de_non) (by first | exact nomark _ | rfl | with_unfolding_all rfl)) (dss_one (ds_ret (de_tup (da_cons (de_str) (da_cons (de_strc (by decide +kernel)) (da_nil)))))) (dss_nil)) (dss_one (ds_ret (de_tup (da_cons (de_str) (da_cons (de_strc (by decide +kernel)) (da_nil))))))) (fun a dd C oe pn hC hz hf => dss_cons (ds_if (dt_tru (de_callB (cb_isE B.errT_all hC) (call_isEx B.errT_all hC hz hf) B.n_isinstance PyProof.Rows.boot_isinstance (da_cons (de_var 3) (da_cons (de_tup (da_cons (de_cls B.k_InvalidPlace) (da_cons (de_cls B.k_NotBeneath) (da_cons (de_cls B.k_InvalidEntry) (da_cons (de_cls B.k_InvalidRule) (da_cons (de_cls B.k_InvalidProgram) (da_cons (de_cls B.k_InvalidName) (da_nil)))))))) (da_nil))))) (dss_one (ds_ret (de_tup (da_cons (de_str) (da_cons (de_strc (by decide +kernel)) (da_nil)))))) (dss_nil)) (dss_cons (ds_if (dt_tru (de_callB (cb_isE B.errT_all hC) (call_isEx B.errT_all hC hz hf) B.n_isinstance PyProof.Rows.boot_isinstance (da_cons (de_var 3) (da_cons (de_tup (da_cons (de_cls B.k_OverPower) (da_cons (de_cls B.k_Stale) (da_cons (de_cls B.k_NotSharing) (da_cons (de_cls B.k_NotMendable) (da_cons (de_cls B.k_Unsound) (da_cons (de_cls B.k_TooMany) (da_nil)))))))) (da_nil))))) (dss_one (ds_ret (de_tup (da_cons (de_str) (da_cons (de_strc (by decide +kernel)) (da_nil)))))) (dss_nil)) (dss_one (ds_if (dt_w (dw_and (dt_tru (de_callB (cb_isE B.errT_all hC) (call_isEx B.errT_all hC hz hf) B.n_isinstance PyProof.Rows.boot_isinstance (da_cons (de_var 3) (da_cons (de_cls B.k_InvalidPromise) (da_nil))))) (dw_and1 (dt_tru (de_callB (cb_isE B.errT_all hC) (call_isEx B.errT_all hC hz hf) B.n_isinstance PyProof.Rows.boot_isinstance (da_cons (de_var 3) (da_cons (de_ty B.n_ValueError PyProof.Rows.Boot.«ValueError») (da_nil)))))))) (dss_one (ds_ret (de_tup (da_cons (de_str) (da_cons (de_xf B.errT_all hC (B.errno_text _ hC) hz hf (de_var 3)) (da_nil)))))) (dss_nil)))))) (dss_one (ds_ret (de_tup (da_cons (de_str) (da_cons (de_strc (by decide +kernel)) (da_nil))))))) p_l_changed
theorem sc_Promise_str : FnScope ["self"] ["self"] (defScope s_Promise_str) := ⟨rfl, rfl, rfl, by decide +kernel, rfl, by decide +kernel, by decide +kernel⟩
theorem ok_Promise_str {f : Addr} {fd : FuncData} (F : FunD K "__str__" "Promise.__str__" (defArgs s_Promise_str) (defBody s_Promise_str) (defScope s_Promise_str) [] [] f fd) (B : Md w K mg)  : FnOk P w K mg base (L2.CX P w) (1) f fd ["self"] (lsp K sp_Promise_str) :=
  def_ok (N := ["self"]) (k := 0) (t := w_Promise_str) F sc_Promise_str (by intro ds M Q E h; unfold sp_Promise_str at h; first | (obtain ⟨rfl, _⟩ := h; rfl) | (obtain ⟨_, rfl, _⟩ := h; rfl) | (obtain ⟨_, _, rfl, _⟩ := h; rfl) | (obtain ⟨_, _, _, rfl, _⟩ := h; rfl) | (obtain ⟨_, _, _, _, rfl, _⟩ := h; rfl) | (obtain ⟨_, _, _, _, _, rfl, _⟩ := h; rfl) | (obtain ⟨_, _, _, _, _, _, rfl, _⟩ := h; rfl) | (obtain ⟨_, _, _, _, _, _, _, rfl, _⟩ := h; rfl) | (obtain ⟨_, _, _, _, _, _, _, _, rfl, _⟩ := h; rfl) | (obtain ⟨_, _, _, _, _, _, _, _, _, rfl, _⟩ := h; rfl) | (obtain ⟨_, _, _, _, _, _, _, _, _, _, rfl, _⟩ := h; rfl) | (obtain ⟨_, _, _, _, _, _, _, _, _, _, _, rfl, _⟩ := h; rfl) | (obtain ⟨_, _, _, _, _, _, _, _, _, _, _, _, rfl, _⟩ := h; rfl) | (obtain ⟨_, _, _, _, _, _, _, _, _, _, _, _, _, rfl, _⟩ := h; rfl))
    (fun cdv A outer s H E G hr => by exact dss_one (ds_ret (de_fs (.cons (de_fmt (de_fld B.cls_Promise B.na_Promiselook (de_var 0))) (.cons (de_strc (by decide +kernel)) (.cons (de_fmt (de_fld B.cls_Promise B.na_Promisereserved (de_var 0))) (.nil))))))) p_Promise_str
theorem sc_Promise_look : FnScope ["self"] ["self"] (defScope s_Promise_look) := ⟨rfl, rfl, rfl, by decide +kernel, rfl, by decide +kernel, by decide +kernel⟩
theorem ok_Promise_look {f : Addr} {fd : FuncData} (F : FunD K "look" "Promise.look" (defArgs s_Promise_look) (defBody s_Promise_look) (defScope s_Promise_look) [] [] f fd) (B : Md w K mg)  : FnOk P w K mg base (L2.CX P w) (1) f fd ["self"] (lsp K sp_Promise_look) :=
  def_ok (N := ["self"]) (k := 0) (t := w_Promise_look) F sc_Promise_look (by intro ds M Q E h; unfold sp_Promise_look at h; first | (obtain ⟨rfl, _⟩ := h; rfl) | (obtain ⟨_, rfl, _⟩ := h; rfl) | (obtain ⟨_, _, rfl, _⟩ := h; rfl) | (obtain ⟨_, _, _, rfl, _⟩ := h; rfl) | (obtain ⟨_, _, _, _, rfl, _⟩ := h; rfl) | (obtain ⟨_, _, _, _, _, rfl, _⟩ := h; rfl) | (obtain ⟨_, _, _, _, _, _, rfl, _⟩ := h; rfl) | (obtain ⟨_, _, _, _, _, _, _, rfl, _⟩ := h; rfl) | (obtain ⟨_, _, _, _, _, _, _, _, rfl, _⟩ := h; rfl) | (obtain ⟨_, _, _, _, _, _, _, _, _, rfl, _⟩ := h; rfl) | (obtain ⟨_, _, _, _, _, _, _, _, _, _, rfl, _⟩ := h; rfl) | (obtain ⟨_, _, _, _, _, _, _, _, _, _, _, rfl, _⟩ := h; rfl) | (obtain ⟨_, _, _, _, _, _, _, _, _, _, _, _, rfl, _⟩ := h; rfl) | (obtain ⟨_, _, _, _, _, _, _, _, _, _, _, _, _, rfl, _⟩ := h; rfl))
    (fun cdv A outer s H E G hr => by exact dss_one (ds_ret (de_fld B.cls_Promise B.na_Promiselook (de_var 0)))) p_Promise_look
theorem sc_Promise_reserved : FnScope ["self"] ["self"] (defScope s_Promise_reserved) := ⟨rfl, rfl, rfl, by decide +kernel, rfl, by decide +kernel, by decide +kernel⟩
theorem ok_Promise_reserved {f : Addr} {fd : FuncData} (F : FunD K "reserved" "Promise.reserved" (defArgs s_Promise_reserved) (defBody s_Promise_reserved) (defScope s_Promise_reserved) [] [] f fd) (B : Md w K mg)  : FnOk P w K mg base (L2.CX P w) (1) f fd ["self"] (lsp K sp_Promise_reserved) :=
  def_ok (N := ["self"]) (k := 0) (t := w_Promise_reserved) F sc_Promise_reserved (by intro ds M Q E h; unfold sp_Promise_reserved at h; first | (obtain ⟨rfl, _⟩ := h; rfl) | (obtain ⟨_, rfl, _⟩ := h; rfl) | (obtain ⟨_, _, rfl, _⟩ := h; rfl) | (obtain ⟨_, _, _, rfl, _⟩ := h; rfl) | (obtain ⟨_, _, _, _, rfl, _⟩ := h; rfl) | (obtain ⟨_, _, _, _, _, rfl, _⟩ := h; rfl) | (obtain ⟨_, _, _, _, _, _, rfl, _⟩ := h; rfl) | (obtain ⟨_, _, _, _, _, _, _, rfl, _⟩ := h; rfl) | (obtain ⟨_, _, _, _, _, _, _, _, rfl, _⟩ := h; rfl) | (obtain ⟨_, _, _, _, _, _, _, _, _, rfl, _⟩ := h; rfl) | (obtain ⟨_, _, _, _, _, _, _, _, _, _, rfl, _⟩ := h; rfl) | (obtain ⟨_, _, _, _, _, _, _, _, _, _, _, rfl, _⟩ := h; rfl) | (obtain ⟨_, _, _, _, _, _, _, _, _, _, _, _, rfl, _⟩ := h; rfl) | (obtain ⟨_, _, _, _, _, _, _, _, _, _, _, _, _, rfl, _⟩ := h; rfl))
    (fun cdv A outer s H E G hr => by exact dss_one (ds_ret (de_fld B.cls_Promise B.na_Promisereserved (de_var 0)))) p_Promise_reserved
theorem sc_l_shows : FnScope ["_law_promise", "_law_words"] ["_law_promise", "_law_words"] (defScope s_l_shows) := ⟨rfl, rfl, rfl, by decide +kernel, rfl, by decide +kernel, by decide +kernel⟩
theorem ok_l_shows {f : Addr} {fd : FuncData} (F : FunD K "_law_shows" "_law_shows" (defArgs s_l_shows) (defBody s_l_shows) (defScope s_l_shows) [] [] f fd) (B : Md w K mg) (F_l_same : FnM P w K mg base 17 "_law_same" (sp_l_same 8)) (F_Promise_str : FnC P w K mg base 1 "Promise" "__str__" sp_Promise_str) (F_Promise_look : FnP P w K mg base 1 "Promise" "look" sp_Promise_look) (F_Promise_reserved : FnP P w K mg base 1 "Promise" "reserved" sp_Promise_reserved) : FnOk P w K mg base (L2.CX P w) (18) f fd ["_law_promise", "_law_words"] (lsp K sp_l_shows) :=
  def_ok (N := ["_law_promise", "_law_words"]) (k := 17) (t := w_l_shows) F sc_l_shows (by intro ds M Q E h; unfold sp_l_shows at h; first | (obtain ⟨rfl, _⟩ := h; rfl) | (obtain ⟨_, rfl, _⟩ := h; rfl) | (obtain ⟨_, _, rfl, _⟩ := h; rfl) | (obtain ⟨_, _, _, rfl, _⟩ := h; rfl) | (obtain ⟨_, _, _, _, rfl, _⟩ := h; rfl) | (obtain ⟨_, _, _, _, _, rfl, _⟩ := h; rfl) | (obtain ⟨_, _, _, _, _, _, rfl, _⟩ := h; rfl) | (obtain ⟨_, _, _, _, _, _, _, rfl, _⟩ := h; rfl) | (obtain ⟨_, _, _, _, _, _, _, _, rfl, _⟩ := h; rfl) | (obtain ⟨_, _, _, _, _, _, _, _, _, rfl, _⟩ := h; rfl) | (obtain ⟨_, _, _, _, _, _, _, _, _, _, rfl, _⟩ := h; rfl) | (obtain ⟨_, _, _, _, _, _, _, _, _, _, _, rfl, _⟩ := h; rfl) | (obtain ⟨_, _, _, _, _, _, _, _, _, _, _, _, rfl, _⟩ := h; rfl) | (obtain ⟨_, _, _, _, _, _, _, _, _, _, _, _, _, rfl, _⟩ := h; rfl))
    (fun cdv A outer s H E G hr => by exact dss_cons (ds_if (dt_w (dw_or (dt_not (dt_tru (de_callB (cb_isC B.is_Promise) call_isi B.n_isinstance PyProof.Rows.boot_isinstance (da_cons (de_var 0) (da_cons (de_cls B.k_Promise) (da_nil)))))) (dw_or1 (dt_not (dt_tru (de_call F_l_same G (hr.mono (by omega)) (da_cons (de_callTy cb_strO (call_strO F_Promise_str (hr.mono (by omega))) B.n_str PyProof.Rows.boot_str (da_cons (de_var 0) (da_nil))) (da_cons (de_op op_addA od_add (de_op op_addA od_add (de_ix G (de_var 1) (de_int)) (de_strc (by decide +kernel))) (de_ix G (de_var 1) (de_int))) (da_nil))))))))) (dss_one (ds_ret (de_bl))) (dss_nil)) (dss_one (ds_ret (de_and (de_call F_l_same G (hr.mono (by omega)) (da_cons (de_prop F_Promise_look B.cls_Promise (hr.mono (by omega)) (de_var 0)) (da_cons (de_ix G (de_var 1) (de_int)) (da_nil)))) (de_one (de_call F_l_same G (hr.mono (by omega)) (da_cons (de_prop F_Promise_reserved B.cls_Promise (hr.mono (by omega)) (de_var 0)) (da_cons (de_ix G (de_var 1) (de_int)) (da_nil))))))))) p_l_shows
theorem sc_Promise_le : FnScope ["self", "other"] ["self", "other"] (defScope s_Promise_le) := ⟨rfl, rfl, rfl, by decide +kernel, rfl, by decide +kernel, by decide +kernel⟩
theorem ok_Promise_le {f : Addr} {fd : FuncData} (F : FunD K "__le__" "Promise.__le__" (defArgs s_Promise_le) (defBody s_Promise_le) (defScope s_Promise_le) [] [] f fd) (B : Md w K mg)  : FnOk P w K mg base (L2.CX P w) (1) f fd ["self", "other"] (lsp K sp_Promise_le) :=
  def_ok (N := ["self", "other"]) (k := 0) (t := w_Promise_le) F sc_Promise_le (by intro ds M Q E h; unfold sp_Promise_le at h; first | (obtain ⟨rfl, _⟩ := h; rfl) | (obtain ⟨_, rfl, _⟩ := h; rfl) | (obtain ⟨_, _, rfl, _⟩ := h; rfl) | (obtain ⟨_, _, _, rfl, _⟩ := h; rfl) | (obtain ⟨_, _, _, _, rfl, _⟩ := h; rfl) | (obtain ⟨_, _, _, _, _, rfl, _⟩ := h; rfl) | (obtain ⟨_, _, _, _, _, _, rfl, _⟩ := h; rfl) | (obtain ⟨_, _, _, _, _, _, _, rfl, _⟩ := h; rfl) | (obtain ⟨_, _, _, _, _, _, _, _, rfl, _⟩ := h; rfl) | (obtain ⟨_, _, _, _, _, _, _, _, _, rfl, _⟩ := h; rfl) | (obtain ⟨_, _, _, _, _, _, _, _, _, _, rfl, _⟩ := h; rfl) | (obtain ⟨_, _, _, _, _, _, _, _, _, _, _, rfl, _⟩ := h; rfl) | (obtain ⟨_, _, _, _, _, _, _, _, _, _, _, _, rfl, _⟩ := h; rfl) | (obtain ⟨_, _, _, _, _, _, _, _, _, _, _, _, _, rfl, _⟩ := h; rfl))
    (fun cdv A outer s H E G hr => by exact dss_cons (ds_if (dt_not (dt_tru (de_callB (cb_isC B.is_Promise) call_isi B.n_isinstance PyProof.Rows.boot_isinstance (da_cons (de_var 1) (da_cons (de_cls B.k_Promise) (da_nil)))))) (dss_one (ds_never)) (dss_nil)) (dss_cons (ds_if (dt_w (dw_and (dt_cmp (op_eqN G) od_eq (de_fld B.cls_Promise B.na_Promiselook (de_var 0)) (de_str) (by first | exact nomark _ | rfl | with_unfolding_all rfl)) (dw_and1 (dt_cmp (op_eqN G) od_eq (de_fld B.cls_Promise B.na_Promiselook (de_var 1)) (de_str) (by first | exact nomark _ | rfl | with_unfolding_all rfl))))) (dss_one (ds_ret (de_bl))) (dss_nil)) (dss_one (ds_ret (de_or (de_cmp (op_eqN G) od_eq (de_fld B.cls_Promise B.na_Promisereserved (de_var 0)) (de_str) (by first | exact nomark _ | rfl | with_unfolding_all rfl)) (de_one (de_cmp (op_eqN G) od_eq (de_fld B.cls_Promise B.na_Promisereserved (de_var 1)) (de_str) (by first | exact nomark _ | rfl | with_unfolding_all rfl)))))))) p_Promise_le
theorem sc_Promise_eq : FnScope ["self", "other"] ["self", "other"] (defScope s_Promise_eq) := ⟨rfl, rfl, rfl, by decide +kernel, rfl, by decide +kernel, by decide +kernel⟩
theorem ok_Promise_eq {f : Addr} {fd : FuncData} (F : FunD K "__eq__" "Promise.__eq__" (defArgs s_Promise_eq) (defBody s_Promise_eq) (defScope s_Promise_eq) [] [] f fd) (B : Md w K mg)  : FnOk P w K mg base (L2.CX P w) (1) f fd ["self", "other"] (lsp K sp_Promise_eq) :=
  def_ok (N := ["self", "other"]) (k := 0) (t := w_Promise_eq) F sc_Promise_eq (by intro ds M Q E h; unfold sp_Promise_eq at h; first | (obtain ⟨rfl, _⟩ := h; rfl) | (obtain ⟨_, rfl, _⟩ := h; rfl) | (obtain ⟨_, _, rfl, _⟩ := h; rfl) | (obtain ⟨_, _, _, rfl, _⟩ := h; rfl) | (obtain ⟨_, _, _, _, rfl, _⟩ := h; rfl) | (obtain ⟨_, _, _, _, _, rfl, _⟩ := h; rfl) | (obtain ⟨_, _, _, _, _, _, rfl, _⟩ := h; rfl) | (obtain ⟨_, _, _, _, _, _, _, rfl, _⟩ := h; rfl) | (obtain ⟨_, _, _, _, _, _, _, _, rfl, _⟩ := h; rfl) | (obtain ⟨_, _, _, _, _, _, _, _, _, rfl, _⟩ := h; rfl) | (obtain ⟨_, _, _, _, _, _, _, _, _, _, rfl, _⟩ := h; rfl) | (obtain ⟨_, _, _, _, _, _, _, _, _, _, _, rfl, _⟩ := h; rfl) | (obtain ⟨_, _, _, _, _, _, _, _, _, _, _, _, rfl, _⟩ := h; rfl) | (obtain ⟨_, _, _, _, _, _, _, _, _, _, _, _, _, rfl, _⟩ := h; rfl))
    (fun cdv A outer s H E G hr => by exact dss_one (ds_ret (de_and (de_callB (cb_isC B.is_Promise) call_isi B.n_isinstance PyProof.Rows.boot_isinstance (da_cons (de_var 1) (da_cons (de_cls B.k_Promise) (da_nil)))) (de_and (de_cmp (op_eqN G) od_eq (de_fld B.cls_Promise B.na_Promiselook (de_var 0)) (de_fld B.cls_Promise B.na_Promiselook (de_var 1)) (by first | exact nomark _ | rfl | with_unfolding_all rfl)) (de_one (de_cmp (op_eqN G) od_eq (de_fld B.cls_Promise B.na_Promisereserved (de_var 0)) (de_fld B.cls_Promise B.na_Promisereserved (de_var 1)) (by first | exact nomark _ | rfl | with_unfolding_all rfl))))))) p_Promise_eq
theorem sc_l_compared : FnScope ["_law_first", "_law_second", "_law_mine", "_law_theirs", "_law_below", "_law_k"] ["_law_first", "_law_second", "_law_mine", "_law_theirs"] (defScope s_l_compared) := ⟨rfl, rfl, rfl, by decide +kernel, rfl, by decide +kernel, by decide +kernel⟩
theorem ok_l_compared {f : Addr} {fd : FuncData} (F : FunD K "_law_compared" "_law_compared" (defArgs s_l_compared) (defBody s_l_compared) (defScope s_l_compared) [] [] f fd) (B : Md w K mg) (F_l_same : FnM P w K mg base 17 "_law_same" (sp_l_same 8)) (F_Promise_le : FnC P w K mg base 1 "Promise" "__le__" sp_Promise_le) (F_Promise_eq : FnC P w K mg base 1 "Promise" "__eq__" sp_Promise_eq) : FnOk P w K mg base (L2.CX P w) (18) f fd ["_law_first", "_law_second", "_law_mine", "_law_theirs"] (lsp K sp_l_compared) :=
  def_ok (N := ["_law_first", "_law_second", "_law_mine", "_law_theirs", "_law_below", "_law_k"]) (k := 17) (t := w_l_compared) F sc_l_compared (by intro ds M Q E h; unfold sp_l_compared at h; first | (obtain ⟨rfl, _⟩ := h; rfl) | (obtain ⟨_, rfl, _⟩ := h; rfl) | (obtain ⟨_, _, rfl, _⟩ := h; rfl) | (obtain ⟨_, _, _, rfl, _⟩ := h; rfl) | (obtain ⟨_, _, _, _, rfl, _⟩ := h; rfl) | (obtain ⟨_, _, _, _, _, rfl, _⟩ := h; rfl) | (obtain ⟨_, _, _, _, _, _, rfl, _⟩ := h; rfl) | (obtain ⟨_, _, _, _, _, _, _, rfl, _⟩ := h; rfl) | (obtain ⟨_, _, _, _, _, _, _, _, rfl, _⟩ := h; rfl) | (obtain ⟨_, _, _, _, _, _, _, _, _, rfl, _⟩ := h; rfl) | (obtain ⟨_, _, _, _, _, _, _, _, _, _, rfl, _⟩ := h; rfl) | (obtain ⟨_, _, _, _, _, _, _, _, _, _, _, rfl, _⟩ := h; rfl) | (obtain ⟨_, _, _, _, _, _, _, _, _, _, _, _, rfl, _⟩ := h; rfl) | (obtain ⟨_, _, _, _, _, _, _, _, _, _, _, _, _, rfl, _⟩ := h; rfl))
    (fun cdv A outer s H E G hr => by exact dss_cons (ds_set 4 G (de_callB cb_all (cr_all G.calm) B.n_all PyProof.Rows.boot_all (da_cons (de_frz (de_lc1 [("_law_k", 5)] G (di_rng1 B.n_range (da_cons (de_int) (da_nil))) (fun _ _ _ _ _ G => bk1 (dgw_name 5 G.nd) (dts_nil) (de_or (de_cmp (op_eqN G) od_eq (de_ix G (de_var 2) (de_var 5)) (de_str) (by first | exact nomark _ | rfl | with_unfolding_all rfl)) (de_one (de_cmp (op_eqN G) od_eq (de_ix G (de_var 3) (de_var 5)) (de_str) (by first | exact nomark _ | rfl | with_unfolding_all rfl))))))) (da_nil)))) (dss_one (ds_ret (de_and (de_call F_l_same G (hr.mono (by omega)) (da_cons (de_cmp (op_cmpO (op := .LtE) (fun _ _ => rfl) F_Promise_le (hr.mono (by omega))) (od_cmpO B.cmp_Promise) (de_var 0) (de_var 1) (by first | exact nomark _ | rfl | with_unfolding_all rfl)) (da_cons (de_var 4) (da_nil)))) (de_one (de_call F_l_same G (hr.mono (by omega)) (da_cons (de_cmp (op_cmpO (op := .Eq) (fun _ _ => rfl) F_Promise_eq (hr.mono (by omega))) (od_cmpO B.cmp_Promise) (de_var 0) (de_var 1) (by first | exact nomark _ | rfl | with_unfolding_all rfl)) (da_cons (de_cmp (op_eqN G) od_eq (de_var 2) (de_var 3) (by first | exact nomark _ | rfl | with_unfolding_all rfl)) (da_nil))))))))) p_l_compared
theorem sc_all_promises : GScope ["look", "reserved"] [] (defScope s_all_promises) := ⟨rfl, rfl, rfl, by decide +kernel, rfl, by decide +kernel, by decide +kernel⟩
theorem ok_all_promises {f : Addr} {fd : FuncData} (F : FunD K "all_promises" "all_promises" (defArgs s_all_promises) (defBody s_all_promises) (defScope s_all_promises) [] [] f fd) (B : Md w K mg) (F_Promise_init : FnC P w K mg base 4 "Promise" "__init__" sp_Promise_init) : GFn P w K mg base (6) f fd [] (lspG K sp_all_promises) :=
  gen_ok (N := ["look", "reserved"]) (k := 5) (t := w_all_promises) F sc_all_promises (by intro ds M Q E h; unfold sp_all_promises at h; first | (obtain ⟨rfl, _⟩ := h; rfl) | (obtain ⟨_, rfl, _⟩ := h; rfl) | (obtain ⟨_, _, rfl, _⟩ := h; rfl) | (obtain ⟨_, _, _, rfl, _⟩ := h; rfl) | (obtain ⟨_, _, _, _, rfl, _⟩ := h; rfl) | (obtain ⟨_, _, _, _, _, rfl, _⟩ := h; rfl) | (obtain ⟨_, _, _, _, _, _, rfl, _⟩ := h; rfl) | (obtain ⟨_, _, _, _, _, _, _, rfl, _⟩ := h; rfl) | (obtain ⟨_, _, _, _, _, _, _, _, rfl, _⟩ := h; rfl) | (obtain ⟨_, _, _, _, _, _, _, _, _, rfl, _⟩ := h; rfl) | (obtain ⟨_, _, _, _, _, _, _, _, _, _, rfl, _⟩ := h; rfl) | (obtain ⟨_, _, _, _, _, _, _, _, _, _, _, rfl, _⟩ := h; rfl) | (obtain ⟨_, _, _, _, _, _, _, _, _, _, _, _, rfl, _⟩ := h; rfl) | (obtain ⟨_, _, _, _, _, _, _, _, _, _, _, _, _, rfl, _⟩ := h; rfl))
    (fun cdv A outer s H E pn G hr => by exact dns_cons (dn_for G (di_any (de_cvalT B.cvt_Promise_WORDS rfl B.rd_Promise B.k_Promise)) (dg_name 0 G.nd) (dns_cons (dn_for G (di_any (de_cvalT B.cvt_Promise_WORDS rfl B.rd_Promise B.k_Promise)) (dg_name 1 G.nd) (dns_cons (dn_yield (de_make F_Promise_init B.mk_Promise G B.k_Promise (hr.mono (by omega)) (da_cons (de_var 0) (da_cons (de_var 1) (da_nil))))) (dns_nil))) (dns_nil))) (dns_nil)) p_all_promises
theorem sc_l_four : FnScope ["_law_part", "_law_word", "_law_rows", "_law_dues", "_law_k", "_law_now", "_law_j"] ["_law_part", "_law_word"] (defScope s_l_four) := ⟨rfl, rfl, rfl, by decide +kernel, rfl, by decide +kernel, by decide +kernel⟩
theorem ok_l_four {f : Addr} {fd : FuncData} (F : FunD K "_law_four" "_law_four" (defArgs s_l_four) (defBody s_l_four) (defScope s_l_four) [] [] f fd) (B : Md w K mg) (F_all_promises : FnG P w K mg base 6 "all_promises" sp_all_promises) (F_l_shows : FnM P w K mg base 18 "_law_shows" sp_l_shows) (F_l_changed : FnM P w K mg base 8 "_law_changed" sp_l_changed) : FnOk P w K mg base (L2.CX P w) (19) f fd ["_law_part", "_law_word"] (lsp K sp_l_four) :=
  def_ok (N := ["_law_part", "_law_word", "_law_rows", "_law_dues", "_law_k", "_law_now", "_law_j"]) (k := 18) (t := w_l_four) F sc_l_four (by intro ds M Q E h; unfold sp_l_four at h; first | (obtain ⟨rfl, _⟩ := h; rfl) | (obtain ⟨_, rfl, _⟩ := h; rfl) | (obtain ⟨_, _, rfl, _⟩ := h; rfl) | (obtain ⟨_, _, _, rfl, _⟩ := h; rfl) | (obtain ⟨_, _, _, _, rfl, _⟩ := h; rfl) | (obtain ⟨_, _, _, _, _, rfl, _⟩ := h; rfl) | (obtain ⟨_, _, _, _, _, _, rfl, _⟩ := h; rfl) | (obtain ⟨_, _, _, _, _, _, _, rfl, _⟩ := h; rfl) | (obtain ⟨_, _, _, _, _, _, _, _, rfl, _⟩ := h; rfl) | (obtain ⟨_, _, _, _, _, _, _, _, _, rfl, _⟩ := h; rfl) | (obtain ⟨_, _, _, _, _, _, _, _, _, _, rfl, _⟩ := h; rfl) | (obtain ⟨_, _, _, _, _, _, _, _, _, _, _, rfl, _⟩ := h; rfl) | (obtain ⟨_, _, _, _, _, _, _, _, _, _, _, _, rfl, _⟩ := h; rfl) | (obtain ⟨_, _, _, _, _, _, _, _, _, _, _, _, _, rfl, _⟩ := h; rfl))
    (fun cdv A outer s H E G hr => by exact dss_cons (ds_set 2 G (de_listG0 F_all_promises (by intro C h; cases h) G (hr.mono (by omega)) B.n_list)) (dss_cons (ds_set 3 G (de_lst (da_cons (de_lst (da_cons (de_str) (da_cons (de_str) (da_nil)))) (da_cons (de_lst (da_cons (de_str) (da_cons (de_str) (da_nil)))) (da_cons (de_lst (da_cons (de_str) (da_cons (de_str) (da_nil)))) (da_cons (de_lst (da_cons (de_str) (da_cons (de_str) (da_nil)))) (da_nil))))))) (dss_cons (ds_if (dt_cmp (op_neN G) od_eq (de_callB cb_len call_lenA B.n_len PySem.boot_len (da_cons (de_var 2) (da_nil))) (de_int) (by first | exact nomark _ | rfl | with_unfolding_all rfl)) (dss_one (ds_ret (de_bl))) (dss_nil)) (dss_cons (ds_for G (di_rng1 B.n_range (da_cons (de_int) (da_nil))) (dg_name 4 G.nd) (dss_one (ds_if (dt_not (dt_tru (de_call F_l_shows G (hr.mono (by omega)) (da_cons (de_ix G (de_var 2) (de_var 4)) (da_cons (de_ix G (de_var 3) (de_var 4)) (da_nil)))))) (dss_one (ds_ret (de_bl))) (dss_nil)))) (dss_cons (ds_for G (di_rng1 B.n_range (da_cons (de_int) (da_nil))) (dg_name 4 G.nd) (dss_cons (ds_if (dt_cmp (op_neN G) od_eq (de_call F_l_changed G (hr.mono (by omega)) (da_cons (de_ix G (de_var 2) (de_var 4)) (da_cons (de_var 0) (da_cons (de_var 1) (da_nil))))) (de_tup (da_cons (de_str) (da_cons (de_strc (by decide +kernel)) (da_nil)))) (by first | exact nomark _ | rfl | with_unfolding_all rfl)) (dss_one (ds_ret (de_bl))) (dss_nil)) (dss_cons (ds_set 5 G (de_callTy cb_listM call_list_of B.n_list PyProof.Rows.boot_list (da_cons (de_ix G (de_var 3) (de_var 4)) (da_nil)))) (dss_cons (ds_asg (de_var 1) (dg_setA G (de_var 5) (de_mt PySem.F.plainAttrs_list PySem.F.slot_list_index PySem.F.type_list_index md_index mt_index (de_lst (da_cons (de_str) (da_cons (de_str) (da_nil)))) (da_cons (de_var 0) (da_nil))))) (dss_cons (ds_if (dt_not (dt_tru (de_call F_l_shows G (hr.mono (by omega)) (da_cons (de_ix G (de_var 2) (de_var 4)) (da_cons (de_var 5) (da_nil)))))) (dss_one (ds_ret (de_bl))) (dss_nil)) (dss_one (ds_for G (di_rng2 B.n_range (da_cons (de_op op_addA od_add (de_var 4) (de_int)) (da_cons (de_int) (da_nil)))) (dg_name 6 G.nd) (dss_one (ds_if (dt_not (dt_tru (de_call F_l_shows G (hr.mono (by omega)) (da_cons (de_ix G (de_var 2) (de_var 6)) (da_cons (de_ix G (de_var 3) (de_var 6)) (da_nil)))))) (dss_one (ds_ret (de_bl))) (dss_nil)))))))))) (dss_one (ds_ret (de_bl)))))))) p_l_four
theorem sc_law : FnScope ["_law_script", "_law_source", "_law_good", "_law_now", "_law_still", "_law_promise", "_law_twin", "_law_parts", "_law_words", "_law_k", "_law_part", "_law_word", "_law_due", "_law_look", "_law_reserved", "_law_other"] ["_law_script"] (defScope s_law) := ⟨rfl, rfl, rfl, by decide +kernel, rfl, by decide +kernel, by decide +kernel⟩
theorem ok_law {f : Addr} {fd : FuncData} (F : FunD K "law" "law" (defArgs s_law) (defBody s_law) (defScope s_law) [] [] f fd) (B : Md w K mg) (F_l_begin : FnM P w K mg base 1 "_law_begin" sp_l_begin) (F_l_pick : FnM P w K mg base 2 "_law_pick" sp_l_pick) (F_Promise_init : FnC P w K mg base 4 "Promise" "__init__" sp_Promise_init) (F_l_draw : FnM P w K mg base 1 "_law_draw" sp_l_draw) (F_l_text : FnM P w K mg base 4 "_law_text" sp_l_text) (F_l_same : FnM P w K mg base 17 "_law_same" (sp_l_same 8)) (F_l_changed : FnM P w K mg base 8 "_law_changed" sp_l_changed) (F_l_shows : FnM P w K mg base 18 "_law_shows" sp_l_shows) (F_l_compared : FnM P w K mg base 18 "_law_compared" sp_l_compared) (F_l_four : FnM P w K mg base 19 "_law_four" sp_l_four) (F_Promise_eq : FnC P w K mg base 1 "Promise" "__eq__" sp_Promise_eq) : FnOk P w K mg base (L2.CX P w) (20) f fd ["_law_script"] (lsp K sp_law) :=
  def_ok (N := ["_law_script", "_law_source", "_law_good", "_law_now", "_law_still", "_law_promise", "_law_twin", "_law_parts", "_law_words", "_law_k", "_law_part", "_law_word", "_law_due", "_law_look", "_law_reserved", "_law_other"]) (k := 19) (t := w_law) F sc_law (by intro ds M Q E h; unfold sp_law at h; first | (obtain ⟨rfl, _⟩ := h; rfl) | (obtain ⟨_, rfl, _⟩ := h; rfl) | (obtain ⟨_, _, rfl, _⟩ := h; rfl) | (obtain ⟨_, _, _, rfl, _⟩ := h; rfl) | (obtain ⟨_, _, _, _, rfl, _⟩ := h; rfl) | (obtain ⟨_, _, _, _, _, rfl, _⟩ := h; rfl) | (obtain ⟨_, _, _, _, _, _, rfl, _⟩ := h; rfl) | (obtain ⟨_, _, _, _, _, _, _, rfl, _⟩ := h; rfl) | (obtain ⟨_, _, _, _, _, _, _, _, rfl, _⟩ := h; rfl) | (obtain ⟨_, _, _, _, _, _, _, _, _, rfl, _⟩ := h; rfl) | (obtain ⟨_, _, _, _, _, _, _, _, _, _, rfl, _⟩ := h; rfl) | (obtain ⟨_, _, _, _, _, _, _, _, _, _, _, rfl, _⟩ := h; rfl) | (obtain ⟨_, _, _, _, _, _, _, _, _, _, _, _, rfl, _⟩ := h; rfl) | (obtain ⟨_, _, _, _, _, _, _, _, _, _, _, _, _, rfl, _⟩ := h; rfl))
    (fun cdv A outer s H E G hr => by exact dss_cons (ds_set 1 G (de_call F_l_begin G (hr.mono (by omega)) (da_cons (de_var 0) (da_nil)))) (dss_cons (ds_set 2 G (de_lst (da_cons (de_str) (da_cons (de_str) (da_nil))))) (dss_cons (ds_set 3 G (de_lstM (da_cons (de_call F_l_pick G (hr.mono (by omega)) (da_cons (de_var 1) (da_cons (de_var 2) (da_nil)))) (da_cons (de_call F_l_pick G (hr.mono (by omega)) (da_cons (de_var 1) (da_cons (de_var 2) (da_nil)))) (da_nil))))) (dss_cons (ds_set 4 G (de_callTy cb_list call_list_of B.n_list PyProof.Rows.boot_list (da_cons (de_var 3) (da_nil)))) (dss_cons (ds_set 5 G (de_make F_Promise_init B.mk_Promise G B.k_Promise (hr.mono (by omega)) (da_cons (de_ix G (de_var 3) (de_int)) (da_cons (de_ix G (de_var 3) (de_int)) (da_nil))))) (dss_cons (ds_set 6 G (de_make F_Promise_init B.mk_Promise G B.k_Promise (hr.mono (by omega)) (da_cons (de_ix G (de_var 3) (de_int)) (da_cons (de_ix G (de_var 3) (de_int)) (da_nil))))) (dss_cons (ds_set 7 G (de_lst (da_cons (de_str) (da_cons (de_str) (da_cons (de_str) (da_cons (de_str) (da_cons (de_str) (da_cons (de_str) (da_cons (de_str) (da_cons (de_strc (by decide +kernel)) (da_cons (de_str) (da_cons (de_str) (da_cons (de_str) (da_cons (de_str) (da_nil))))))))))))))) (dss_cons (ds_set 8 G (de_lst (da_cons (de_str) (da_cons (de_str) (da_cons (de_str) (da_cons (de_str) (da_cons (de_str) (da_cons (de_str) (da_cons (de_strc (by decide +kernel)) (da_cons (de_str) (da_cons (de_str) (da_cons (de_str) (da_cons (de_str) (da_cons (de_str) (da_nil))))))))))))))) (dss_cons (ds_set 8 G (de_op op_addA od_add (de_var 8) (de_lst (da_cons (de_str) (da_cons (de_str) (da_cons (de_str) (da_nil))))))) (dss_cons (ds_for G (di_rng1 B.n_range (da_cons (de_op op_addA od_add (de_int) (de_call F_l_draw G (hr.mono (by omega)) (da_cons (de_var 1) (da_cons (de_int) (da_nil))))) (da_nil))) (dg_name 9 G.nd) (dss_cons (ds_set 10 G (de_call F_l_text G (hr.mono (by omega)) (da_cons (de_var 1) (da_cons (de_var 7) (da_nil))))) (dss_cons (ds_set 11 G (de_call F_l_text G (hr.mono (by omega)) (da_cons (de_var 1) (da_cons (de_var 8) (da_nil))))) (dss_cons (ds_set 12 G (de_tup (da_cons (de_str) (da_cons (de_strc (by decide +kernel)) (da_nil))))) (dss_cons (ds_if (dt_cmp (op_notInN G) od_in (de_var 10) (de_lst (da_cons (de_str) (da_cons (de_str) (da_nil)))) (by first | exact nomark _ | rfl | with_unfolding_all rfl)) (dss_one (ds_set 12 G (de_tup (da_cons (de_str) (da_cons (de_var 10) (da_nil)))))) (dss_one (ds_if (dt_cmp (op_notInN G) od_in (de_var 11) (de_var 2) (by first | exact nomark _ | rfl | with_unfolding_all rfl)) (dss_one (ds_set 12 G (de_tup (da_cons (de_str) (da_cons (de_var 11) (da_nil)))))) (dss_one (ds_asg (de_var 11) (dg_setA G (de_var 3) (de_mt PySem.F.plainAttrs_list PySem.F.slot_list_index PySem.F.type_list_index md_index mt_index (de_lst (da_cons (de_str) (da_cons (de_str) (da_nil)))) (da_cons (de_var 10) (da_nil))))))))) (dss_cons (ds_if (dt_not (dt_tru (de_call F_l_same G (hr.mono (by omega)) (da_cons (de_call F_l_changed G (hr.mono (by omega)) (da_cons (de_var 5) (da_cons (de_var 10) (da_cons (de_var 11) (da_nil))))) (da_cons (de_var 12) (da_nil)))))) (dss_one (ds_ret (de_bl))) (dss_nil)) (dss_cons (ds_if (dt_w (dw_or (dt_not (dt_tru (de_call F_l_shows G (hr.mono (by omega)) (da_cons (de_var 5) (da_cons (de_var 3) (da_nil)))))) (dw_or1 (dt_not (dt_tru (de_call F_l_shows G (hr.mono (by omega)) (da_cons (de_var 6) (da_cons (de_var 4) (da_nil))))))))) (dss_one (ds_ret (de_bl))) (dss_nil)) (dss_one (ds_if (dt_w (dw_or (dt_not (dt_tru (de_call F_l_compared G (hr.mono (by omega)) (da_cons (de_var 5) (da_cons (de_var 6) (da_cons (de_var 3) (da_cons (de_var 4) (da_nil)))))))) (dw_or1 (dt_not (dt_tru (de_call F_l_compared G (hr.mono (by omega)) (da_cons (de_var 6) (da_cons (de_var 5) (da_cons (de_var 4) (da_cons (de_var 3) (da_nil))))))))))) (dss_one (ds_ret (de_bl))) (dss_nil)))))))))) (dss_cons (ds_for G (di_any (de_var 2)) (dg_name 13 G.nd) (dss_one (ds_for G (di_any (de_var 2)) (dg_name 14 G.nd) (dss_cons (ds_set 15 G (de_make F_Promise_init B.mk_Promise G B.k_Promise (hr.mono (by omega)) (da_cons (de_var 13) (da_cons (de_var 14) (da_nil))))) (dss_cons (ds_if (dt_not (dt_tru (de_call F_l_compared G (hr.mono (by omega)) (da_cons (de_var 5) (da_cons (de_var 15) (da_cons (de_var 3) (da_cons (de_lst (da_cons (de_var 13) (da_cons (de_var 14) (da_nil)))) (da_nil)))))))) (dss_one (ds_ret (de_bl))) (dss_nil)) (dss_one (ds_if (dt_not (dt_tru (de_call F_l_compared G (hr.mono (by omega)) (da_cons (de_var 15) (da_cons (de_var 5) (da_cons (de_lst (da_cons (de_var 13) (da_cons (de_var 14) (da_nil)))) (da_cons (de_var 3) (da_nil)))))))) (dss_one (ds_ret (de_bl))) (dss_nil)))))))) (dss_cons (ds_set 11 G (de_call F_l_pick G (hr.mono (by omega)) (da_cons (de_var 1) (da_cons (de_var 2) (da_nil))))) (dss_cons (ds_for G (di_any (de_lst (da_cons (de_str) (da_cons (de_str) (da_nil))))) (dg_name 10 G.nd) (dss_one (ds_if (dt_not (dt_tru (de_call F_l_four G (hr.mono (by omega)) (da_cons (de_var 10) (da_cons (de_var 11) (da_nil)))))) (dss_one (ds_ret (de_bl))) (dss_nil)))) (dss_one (ds_ret (de_and (de_call F_l_shows G (hr.mono (by omega)) (da_cons (de_var 5) (da_cons (de_var 3) (da_nil)))) (de_one (de_call F_l_same G (hr.mono (by omega)) (da_cons (de_cmp (op_cmpO (op := .Eq) (fun _ _ => rfl) F_Promise_eq (hr.mono (by omega))) (od_cmpO B.cmp_Promise) (de_var 5) (de_op op_addA od_add (de_op op_addA od_add (de_ix G (de_var 3) (de_int)) (de_strc (by decide +kernel))) (de_ix G (de_var 3) (de_int))) (by first | exact nomark _ | rfl | with_unfolding_all rfl)) (da_cons (de_bl) (da_nil))))))))))))))))))))) p_law
end
theorem facts {P : Program} {w : World} {K : PySem.W.Frag} {h : Heap} {mg : Str → Option Value} {f : Addr} (X : K.In h) (G : h.Ns mainGlobals mg) (hfa : mg ("law" : Str) = some (.ref f)) (hP1 : (P.main.file == PySem.Challenge.pw_lentahead_k18_promises_changed_and_order.main.file) = true) (hP2 : (P.main.scope.names.lookup ("super" : Str)).isSome = false) (c : DL.SaysE fa fn gb ts fx fe w K) :
    ∃ fd : FuncData, (∀ (s : Shared) (v : Value), BindsTo s fd ⟨[v], []⟩ [("_law_script", v)]) ∧ ∀ base : Heap, K.In base → base.Ns mainGlobals mg → FnOk P w K mg base (L2.CX P w) 20 f fd ["_law_script"] (lsp K sp_law) := by
  have B : Md w K mg := ⟨(He.free_ok X G (c.z.y.x.d.fact 19 (f := .free "ValueError") rfl)), (He.free_ok X G (c.z.y.x.d.fact 20 (f := .free "all") rfl)), (He.free_ok X G (c.z.y.x.d.fact 21 (f := .free "bool") rfl)), (He.free_ok X G (c.z.y.x.d.fact 22 (f := .free "int") rfl)), (He.free_ok X G (c.z.y.x.d.fact 23 (f := .free "isinstance") rfl)), (He.free_ok X G (c.z.y.x.d.fact 24 (f := .free "len") rfl)), (He.free_ok X G (c.z.y.x.d.fact 25 (f := .free "list") rfl)), (He.free_ok X G (c.z.y.x.d.fact 26 (f := .free "range") rfl)), (He.free_ok X G (c.z.y.x.d.fact 27 (f := .free "str") rfl)), (He.free_ok X G (c.z.y.x.d.fact 28 (f := .free "super") rfl)), (He.free_ok X G (c.z.y.x.d.fact 29 (f := .free "tuple") rfl)), (He.mkr_ok (c.z.y.x.d.fact 30 (f := .mkr "Promise") rfl)), (He.glo_ok X G (c.z.y.x.d.fact 31 (f := .glo "Promise") rfl)), (DL.cmpCB_ok (c.z.y.x.b 5 rfl)), (He.cls_ok (c.z.y.x.d.fact 32 (f := .cls "Promise") rfl)), (He.noat_ok (c.z.y.x.d.fact 33 (f := .noat "Promise" "_look") rfl)), (He.noat_ok (c.z.y.x.d.fact 34 (f := .noat "Promise" "_reserved") rfl)), (He.glo_ok X G (c.z.y.x.d.fact 35 (f := .glo "InvalidPromise") rfl)), (He.glo_ok X G (c.z.y.x.d.fact 36 (f := .glo "InvalidPlace") rfl)), (He.glo_ok X G (c.z.y.x.d.fact 37 (f := .glo "NotBeneath") rfl)), (He.glo_ok X G (c.z.y.x.d.fact 38 (f := .glo "InvalidEntry") rfl)), (He.glo_ok X G (c.z.y.x.d.fact 39 (f := .glo "InvalidRule") rfl)), (He.glo_ok X G (c.z.y.x.d.fact 40 (f := .glo "InvalidProgram") rfl)), (He.glo_ok X G (c.z.y.x.d.fact 41 (f := .glo "InvalidName") rfl)), (DL.errTB_ok (c.z.y.x.b 6 rfl)), (He.glo_ok X G (c.z.y.x.d.fact 42 (f := .glo "OverPower") rfl)), (He.glo_ok X G (c.z.y.x.d.fact 43 (f := .glo "Stale") rfl)), (He.glo_ok X G (c.z.y.x.d.fact 44 (f := .glo "NotSharing") rfl)), (He.glo_ok X G (c.z.y.x.d.fact 45 (f := .glo "NotMendable") rfl)), (He.glo_ok X G (c.z.y.x.d.fact 46 (f := .glo "Unsound") rfl)), (He.glo_ok X G (c.z.y.x.d.fact 47 (f := .glo "TooMany") rfl)), ((fun C m => He.eqO_ok (List.all_eq_true.mp (c.z.y.x.b 7 rfl) C m))), (He.glo_ok X G (c.z.y.x.d.fact 48 (f := .glo "LentError") rfl)), (DL.isCB_ok (He.cls_ok (c.z.y.x.d.fact 32 (f := .cls "Promise") rfl)) (c.z.y.x.b 8 rfl)), (DL.cvtB_ok (c.z.y.x.b 9 rfl)), (DL.readB_ok (c.z.y.x.b 10 rfl))⟩
  obtain ⟨fd_l_begin, D_l_begin⟩ := c.z.y.x.d.def_ 0 (d := ⟨("_law_begin", none), "_law_begin", "_law_begin", defArgs (top 20), defBody (top 20), defScope (top 20), [], []⟩) rfl
  have g_l_begin : mg "_law_begin" = some (.ref (He.ga K "_law_begin")) := He.glo_ok X G (c.z.y.x.d.fact 0 (f := .glo "_law_begin") rfl)
  have b_l_begin : Binds K fd_l_begin ["_law_script"] [] := D_l_begin.bindsN (ps := ["_law_script"]) fun _ _ _ _ _ _ us hl => match us, hl with | [_], _ => rfl
  obtain ⟨fd_l_draw, D_l_draw⟩ := c.z.y.x.d.def_ 1 (d := ⟨("_law_draw", none), "_law_draw", "_law_draw", defArgs (top 21), defBody (top 21), defScope (top 21), [], []⟩) rfl
  have g_l_draw : mg "_law_draw" = some (.ref (He.ga K "_law_draw")) := He.glo_ok X G (c.z.y.x.d.fact 1 (f := .glo "_law_draw") rfl)
  have b_l_draw : Binds K fd_l_draw ["_law_source", "_law_size"] [] := D_l_draw.bindsN (ps := ["_law_source", "_law_size"]) fun _ _ _ _ _ _ us hl => match us, hl with | [_, _], _ => rfl
  obtain ⟨fd_l_pick, D_l_pick⟩ := c.z.y.x.d.def_ 2 (d := ⟨("_law_pick", none), "_law_pick", "_law_pick", defArgs (top 22), defBody (top 22), defScope (top 22), [], []⟩) rfl
  have g_l_pick : mg "_law_pick" = some (.ref (He.ga K "_law_pick")) := He.glo_ok X G (c.z.y.x.d.fact 2 (f := .glo "_law_pick") rfl)
  have b_l_pick : Binds K fd_l_pick ["_law_source", "_law_row"] [] := D_l_pick.bindsN (ps := ["_law_source", "_law_row"]) fun _ _ _ _ _ _ us hl => match us, hl with | [_, _], _ => rfl
  obtain ⟨fd_checked_word, D_checked_word⟩ := c.z.y.x.d.def_ 3 (d := ⟨("checked_word", none), "checked_word", "checked_word", defArgs (top 16), defBody (top 16), defScope (top 16), [], []⟩) rfl
  have g_checked_word : mg "checked_word" = some (.ref (He.ga K "checked_word")) := He.glo_ok X G (c.z.y.x.d.fact 3 (f := .glo "checked_word") rfl)
  have b_checked_word : Binds K fd_checked_word ["word"] [] := D_checked_word.bindsN (ps := ["word"]) fun _ _ _ _ _ _ us hl => match us, hl with | [_], _ => rfl
  obtain ⟨fd_Promise_init, D_Promise_init⟩ := c.z.y.x.d.def_ 4 (d := ⟨("Promise", some "__init__"), "__init__", "Promise.__init__", defArgs (mth 17 1), defBody (mth 17 1), defScope (mth 17 1), [], []⟩) rfl
  have M_Promise_init := He.meth_ok (c.z.y.x.d.fact 4 (f := .meth "Promise" "__init__") rfl)
  have b_Promise_init : Binds K fd_Promise_init ["self", "look", "reserved"] [] := D_Promise_init.bindsN (ps := ["self", "look", "reserved"]) fun _ _ _ _ _ _ us hl => match us, hl with | [_, _, _], _ => rfl
  obtain ⟨fd_l_sign, D_l_sign⟩ := c.z.y.x.d.def_ 5 (d := ⟨("_law_sign", none), "_law_sign", "_law_sign", defArgs (top 25), defBody (top 25), defScope (top 25), [], []⟩) rfl
  have g_l_sign : mg "_law_sign" = some (.ref (He.ga K "_law_sign")) := He.glo_ok X G (c.z.y.x.d.fact 5 (f := .glo "_law_sign") rfl)
  have b_l_sign : Binds K fd_l_sign ["_law_source"] [] := D_l_sign.bindsN (ps := ["_law_source"]) fun _ _ _ _ _ _ us hl => match us, hl with | [_], _ => rfl
  obtain ⟨fd_l_text, D_l_text⟩ := c.z.y.x.d.def_ 6 (d := ⟨("_law_text", none), "_law_text", "_law_text", defArgs (top 26), defBody (top 26), defScope (top 26), [], []⟩) rfl
  have g_l_text : mg "_law_text" = some (.ref (He.ga K "_law_text")) := He.glo_ok X G (c.z.y.x.d.fact 6 (f := .glo "_law_text") rfl)
  have b_l_text : Binds K fd_l_text ["_law_source", "_law_texts"] [] := D_l_text.bindsN (ps := ["_law_source", "_law_texts"]) fun _ _ _ _ _ _ us hl => match us, hl with | [_, _], _ => rfl
  obtain ⟨fd_l_same_row, D_l_same_row⟩ := c.z.y.x.d.def_ 7 (d := ⟨("_law_same_row", none), "_law_same_row", "_law_same_row", defArgs (top 23), defBody (top 23), defScope (top 23), [], []⟩) rfl
  have g_l_same_row : mg "_law_same_row" = some (.ref (He.ga K "_law_same_row")) := He.glo_ok X G (c.z.y.x.d.fact 7 (f := .glo "_law_same_row") rfl)
  have b_l_same_row : Binds K fd_l_same_row ["_law_actual", "_law_expected"] [] := D_l_same_row.bindsN (ps := ["_law_actual", "_law_expected"]) fun _ _ _ _ _ _ us hl => match us, hl with | [_, _], _ => rfl
  obtain ⟨fd_l_same, D_l_same⟩ := c.z.y.x.d.def_ 8 (d := ⟨("_law_same", none), "_law_same", "_law_same", defArgs (top 24), defBody (top 24), defScope (top 24), [], []⟩) rfl
  have g_l_same : mg "_law_same" = some (.ref (He.ga K "_law_same")) := He.glo_ok X G (c.z.y.x.d.fact 8 (f := .glo "_law_same") rfl)
  have b_l_same : Binds K fd_l_same ["_law_actual", "_law_expected"] [] := D_l_same.bindsN (ps := ["_law_actual", "_law_expected"]) fun _ _ _ _ _ _ us hl => match us, hl with | [_, _], _ => rfl
  obtain ⟨fd_Promise_look_setter, D_Promise_look_setter⟩ := c.z.def_ 0 (d := ⟨fun K => DL.psA K (He.ga K "Promise") "look", "look", "Promise.look", defArgs (mth 17 4), defBody (mth 17 4), defScope (mth 17 4), [], []⟩) rfl
  have b_Promise_look_setter : Binds K fd_Promise_look_setter ["self", "word"] [] := D_Promise_look_setter.bindsN (ps := ["self", "word"]) fun _ _ _ _ _ _ us hl => match us, hl with | [_, _], _ => rfl
  obtain ⟨fd_Promise_reserved_setter, D_Promise_reserved_setter⟩ := c.z.def_ 1 (d := ⟨fun K => DL.psA K (He.ga K "Promise") "reserved", "reserved", "Promise.reserved", defArgs (mth 17 6), defBody (mth 17 6), defScope (mth 17 6), [], []⟩) rfl
  have b_Promise_reserved_setter : Binds K fd_Promise_reserved_setter ["self", "word"] [] := D_Promise_reserved_setter.bindsN (ps := ["self", "word"]) fun _ _ _ _ _ _ us hl => match us, hl with | [_, _], _ => rfl
  obtain ⟨fd_Promise_change, D_Promise_change⟩ := c.z.y.x.d.def_ 9 (d := ⟨("Promise", some "change"), "change", "Promise.change", defArgs (mth 17 7), defBody (mth 17 7), defScope (mth 17 7), [], []⟩) rfl
  have M_Promise_change := He.meth_ok (c.z.y.x.d.fact 9 (f := .meth "Promise" "change") rfl)
  have b_Promise_change : Binds K fd_Promise_change ["self", "part", "word"] [] := D_Promise_change.bindsN (ps := ["self", "part", "word"]) fun _ _ _ _ _ _ us hl => match us, hl with | [_, _, _], _ => rfl
  obtain ⟨fd_l_changed, D_l_changed⟩ := c.z.y.x.d.def_ 10 (d := ⟨("_law_changed", none), "_law_changed", "_law_changed", defArgs (top 27), defBody (top 27), defScope (top 27), [], []⟩) rfl
  have g_l_changed : mg "_law_changed" = some (.ref (He.ga K "_law_changed")) := He.glo_ok X G (c.z.y.x.d.fact 10 (f := .glo "_law_changed") rfl)
  have b_l_changed : Binds K fd_l_changed ["_law_promise", "_law_part", "_law_word"] [] := D_l_changed.bindsN (ps := ["_law_promise", "_law_part", "_law_word"]) fun _ _ _ _ _ _ us hl => match us, hl with | [_, _, _], _ => rfl
  obtain ⟨fd_Promise_str, D_Promise_str⟩ := c.z.y.x.d.def_ 11 (d := ⟨("Promise", some "__str__"), "__str__", "Promise.__str__", defArgs (mth 17 8), defBody (mth 17 8), defScope (mth 17 8), [], []⟩) rfl
  have M_Promise_str := He.meth_ok (c.z.y.x.d.fact 11 (f := .meth "Promise" "__str__") rfl)
  have b_Promise_str : Binds K fd_Promise_str ["self"] [] := D_Promise_str.bindsN (ps := ["self"]) fun _ _ _ _ _ _ us hl => match us, hl with | [_], _ => rfl
  obtain ⟨fd_Promise_look, D_Promise_look⟩ := c.z.def_ 2 (d := ⟨fun K => DL.pgA K (He.ga K "Promise") "look", "look", "Promise.look", defArgs (mth 17 3), defBody (mth 17 3), defScope (mth 17 3), [], []⟩) rfl
  have b_Promise_look : Binds K fd_Promise_look ["self"] [] := D_Promise_look.bindsN (ps := ["self"]) fun _ _ _ _ _ _ us hl => match us, hl with | [_], _ => rfl
  obtain ⟨fd_Promise_reserved, D_Promise_reserved⟩ := c.z.def_ 3 (d := ⟨fun K => DL.pgA K (He.ga K "Promise") "reserved", "reserved", "Promise.reserved", defArgs (mth 17 5), defBody (mth 17 5), defScope (mth 17 5), [], []⟩) rfl
  have b_Promise_reserved : Binds K fd_Promise_reserved ["self"] [] := D_Promise_reserved.bindsN (ps := ["self"]) fun _ _ _ _ _ _ us hl => match us, hl with | [_], _ => rfl
  obtain ⟨fd_l_shows, D_l_shows⟩ := c.z.y.x.d.def_ 12 (d := ⟨("_law_shows", none), "_law_shows", "_law_shows", defArgs (top 28), defBody (top 28), defScope (top 28), [], []⟩) rfl
  have g_l_shows : mg "_law_shows" = some (.ref (He.ga K "_law_shows")) := He.glo_ok X G (c.z.y.x.d.fact 12 (f := .glo "_law_shows") rfl)
  have b_l_shows : Binds K fd_l_shows ["_law_promise", "_law_words"] [] := D_l_shows.bindsN (ps := ["_law_promise", "_law_words"]) fun _ _ _ _ _ _ us hl => match us, hl with | [_, _], _ => rfl
  obtain ⟨fd_Promise_le, D_Promise_le⟩ := c.z.y.x.d.def_ 13 (d := ⟨("Promise", some "__le__"), "__le__", "Promise.__le__", defArgs (mth 17 10), defBody (mth 17 10), defScope (mth 17 10), [], []⟩) rfl
  have M_Promise_le := He.meth_ok (c.z.y.x.d.fact 13 (f := .meth "Promise" "__le__") rfl)
  have b_Promise_le : Binds K fd_Promise_le ["self", "other"] [] := D_Promise_le.bindsN (ps := ["self", "other"]) fun _ _ _ _ _ _ us hl => match us, hl with | [_, _], _ => rfl
  obtain ⟨fd_Promise_eq, D_Promise_eq⟩ := c.z.y.x.d.def_ 14 (d := ⟨("Promise", some "__eq__"), "__eq__", "Promise.__eq__", defArgs (mth 17 9), defBody (mth 17 9), defScope (mth 17 9), [], []⟩) rfl
  have M_Promise_eq := He.meth_ok (c.z.y.x.d.fact 14 (f := .meth "Promise" "__eq__") rfl)
  have b_Promise_eq : Binds K fd_Promise_eq ["self", "other"] [] := D_Promise_eq.bindsN (ps := ["self", "other"]) fun _ _ _ _ _ _ us hl => match us, hl with | [_, _], _ => rfl
  obtain ⟨fd_l_compared, D_l_compared⟩ := c.z.y.x.d.def_ 15 (d := ⟨("_law_compared", none), "_law_compared", "_law_compared", defArgs (top 29), defBody (top 29), defScope (top 29), [], []⟩) rfl
  have g_l_compared : mg "_law_compared" = some (.ref (He.ga K "_law_compared")) := He.glo_ok X G (c.z.y.x.d.fact 15 (f := .glo "_law_compared") rfl)
  have b_l_compared : Binds K fd_l_compared ["_law_first", "_law_second", "_law_mine", "_law_theirs"] [] := D_l_compared.bindsN (ps := ["_law_first", "_law_second", "_law_mine", "_law_theirs"]) fun _ _ _ _ _ _ us hl => match us, hl with | [_, _, _, _], _ => rfl
  obtain ⟨fd_all_promises, D_all_promises⟩ := c.z.y.x.d.def_ 16 (d := ⟨("all_promises", none), "all_promises", "all_promises", defArgs (top 18), defBody (top 18), defScope (top 18), [], []⟩) rfl
  have g_all_promises : mg "all_promises" = some (.ref (He.ga K "all_promises")) := He.glo_ok X G (c.z.y.x.d.fact 16 (f := .glo "all_promises") rfl)
  have b_all_promises : Binds K fd_all_promises [] [] := D_all_promises.bindsN (ps := []) fun _ _ _ _ _ _ us hl => match us, hl with | [], _ => rfl
  obtain ⟨fd_l_four, D_l_four⟩ := c.z.y.x.d.def_ 17 (d := ⟨("_law_four", none), "_law_four", "_law_four", defArgs (top 30), defBody (top 30), defScope (top 30), [], []⟩) rfl
  have g_l_four : mg "_law_four" = some (.ref (He.ga K "_law_four")) := He.glo_ok X G (c.z.y.x.d.fact 17 (f := .glo "_law_four") rfl)
  have b_l_four : Binds K fd_l_four ["_law_part", "_law_word"] [] := D_l_four.bindsN (ps := ["_law_part", "_law_word"]) fun _ _ _ _ _ _ us hl => match us, hl with | [_, _], _ => rfl
  obtain ⟨fd_law, D_law⟩ := c.z.y.x.d.def_ 18 (d := ⟨("law", none), "law", "law", defArgs (top 31), defBody (top 31), defScope (top 31), [], []⟩) rfl
  have e := hfa.symm.trans (He.glo_ok X G (c.z.y.x.d.fact 18 (f := .glo "law") rfl))
  cases e
  refine ⟨fd_law, fun s v => FunD.bindsA (ps := ["_law_script"]) D_law (fun _ _ _ _ _ _ us hl => match us, hl with | [_], _ => rfl) s [v] rfl, fun base _ _ => ?_⟩
  have F_l_begin : FnM P w K mg base 1 "_law_begin" sp_l_begin := FnM.of (ok_l_begin D_l_begin B ) g_l_begin D_l_begin.kp b_l_begin
  have F_l_draw : FnM P w K mg base 1 "_law_draw" sp_l_draw := FnM.of (ok_l_draw D_l_draw B ) g_l_draw D_l_draw.kp b_l_draw
  have F_l_pick : FnM P w K mg base 2 "_law_pick" sp_l_pick := FnM.of (ok_l_pick D_l_pick B F_l_draw) g_l_pick D_l_pick.kp b_l_pick
  obtain ⟨cc_InvalidPromise_init, cda_InvalidPromise_init, fd_InvalidPromise_init, D_InvalidPromise_init⟩ := c.err_ 0 (d := ⟨"InvalidPromise", "InvalidPromise.__init__", defArgs (mth 6 0), defBody (mth 6 0), defScope (mth 6 0), PySem.Challenge.pw_lentahead_k18_promises_changed_and_order.main.file⟩) rfl
  have F_InvalidPromise_init : FnE P w K mg base 1 "InvalidPromise" "text" := ok_InvalidPromise_init D_InvalidPromise_init (c.z.y.x.b 4 rfl) B.k_InvalidPromise B.n_super hP1 hP2
  have F_checked_word : FnM P w K mg base 3 "checked_word" sp_checked_word := FnM.of (ok_checked_word D_checked_word B F_InvalidPromise_init) g_checked_word D_checked_word.kp b_checked_word
  have F_Promise_init : FnC P w K mg base 4 "Promise" "__init__" sp_Promise_init := FnC.of (ok_Promise_init D_Promise_init B F_checked_word) M_Promise_init b_Promise_init
  have F_l_sign : FnM P w K mg base 3 "_law_sign" sp_l_sign := FnM.of (ok_l_sign D_l_sign B F_l_draw F_l_pick) g_l_sign D_l_sign.kp b_l_sign
  have F_l_text : FnM P w K mg base 4 "_law_text" sp_l_text := FnM.of (ok_l_text D_l_text B F_l_draw F_l_sign F_l_pick) g_l_text D_l_text.kp b_l_text
  have F_l_same_all : ∀ n, FnM P w K mg base (2 * n + 1) "_law_same" (sp_l_same n) := by
    intro n
    induction n with
    | zero => exact FnM.of (ok_l_same (n := 0) (k := 0) D_l_same B (FnM.never no_row0 g_l_same_row D_l_same_row.kp b_l_same_row)) g_l_same D_l_same.kp b_l_same
    | succ n ih => exact FnM.of (ok_l_same (n := n + 1) (k := 2 * n + 2) D_l_same B (FnM.of (ok_l_same_row (n := n) (k := 2 * n + 1) D_l_same_row B ih) g_l_same_row D_l_same_row.kp b_l_same_row)) g_l_same D_l_same.kp b_l_same
  have F_l_same : FnM P w K mg base 17 "_law_same" (sp_l_same 8) := F_l_same_all 8
  have F_Promise_look_setter : FnPS P w K mg base 4 "Promise" "look" sp_Promise_look_setter := ⟨DL.psetB_ok (c.z.y.x.b 0 rfl), (ok_Promise_look_setter D_Promise_look_setter B F_checked_word).fnR b_Promise_look_setter⟩
  have F_Promise_reserved_setter : FnPS P w K mg base 4 "Promise" "reserved" sp_Promise_reserved_setter := ⟨DL.psetB_ok (c.z.y.x.b 1 rfl), (ok_Promise_reserved_setter D_Promise_reserved_setter B F_checked_word).fnR b_Promise_reserved_setter⟩
  have F_Promise_change : FnC P w K mg base 7 "Promise" "change" sp_Promise_change := FnC.of (ok_Promise_change D_Promise_change B F_Promise_look_setter F_Promise_reserved_setter F_InvalidPromise_init) M_Promise_change b_Promise_change
  have F_l_changed : FnM P w K mg base 8 "_law_changed" sp_l_changed := FnM.of (ok_l_changed D_l_changed B F_Promise_change) g_l_changed D_l_changed.kp b_l_changed
  have F_Promise_str : FnC P w K mg base 1 "Promise" "__str__" sp_Promise_str := FnC.of (ok_Promise_str D_Promise_str B ) M_Promise_str b_Promise_str
  have F_Promise_look : FnP P w K mg base 1 "Promise" "look" sp_Promise_look := ⟨DL.propB_ok (c.z.y.x.b 2 rfl), (ok_Promise_look D_Promise_look B ).fnR b_Promise_look⟩
  have F_Promise_reserved : FnP P w K mg base 1 "Promise" "reserved" sp_Promise_reserved := ⟨DL.propB_ok (c.z.y.x.b 3 rfl), (ok_Promise_reserved D_Promise_reserved B ).fnR b_Promise_reserved⟩
  have F_l_shows : FnM P w K mg base 18 "_law_shows" sp_l_shows := FnM.of (ok_l_shows D_l_shows B F_l_same F_Promise_str F_Promise_look F_Promise_reserved) g_l_shows D_l_shows.kp b_l_shows
  have F_Promise_le : FnC P w K mg base 1 "Promise" "__le__" sp_Promise_le := FnC.of (ok_Promise_le D_Promise_le B ) M_Promise_le b_Promise_le
  have F_Promise_eq : FnC P w K mg base 1 "Promise" "__eq__" sp_Promise_eq := FnC.of (ok_Promise_eq D_Promise_eq B ) M_Promise_eq b_Promise_eq
  have F_l_compared : FnM P w K mg base 18 "_law_compared" sp_l_compared := FnM.of (ok_l_compared D_l_compared B F_l_same F_Promise_le F_Promise_eq) g_l_compared D_l_compared.kp b_l_compared
  have F_all_promises : FnG P w K mg base 6 "all_promises" sp_all_promises := FnG.of (ok_all_promises D_all_promises B F_Promise_init) g_all_promises D_all_promises.kp b_all_promises
  have F_l_four : FnM P w K mg base 19 "_law_four" sp_l_four := FnM.of (ok_l_four D_l_four B F_all_promises F_l_shows F_l_changed) g_l_four D_l_four.kp b_l_four
  exact ok_law D_law B F_l_begin F_l_pick F_Promise_init F_l_draw F_l_text F_l_same F_l_changed F_l_shows F_l_compared F_l_four F_Promise_eq
end Lw
open PySem PySem.W PySem.Calls PyProof.Rows
set_option maxRecDepth 100000 in
set_option maxHeartbeats 0 in
theorem PySem.Challenge.cw_lentahead_k18_promises_changed_and_order_holds : PySem.Challenge.rw_lentahead_k18_promises_changed_and_order.Holds := by
  w_on; o_law
  refine HandSHeadRun.head_any (r := OpenLaw.row PySem.Challenge.rw_lentahead_k18_promises_changed_and_order) (q := view (OpenLaw.row PySem.Challenge.rw_lentahead_k18_promises_changed_and_order).prog [31]) (H := Lw.hk) (ob := Lw.ob) (M := 30000) (loose := Lw.names) (d := HandSHeadRun.topDef (OpenLaw.row PySem.Challenge.rw_lentahead_k18_promises_changed_and_order).prog 31) (kwd := []) Lw.ob_eq
    (by kernel_rfl) (fun s => by kernel_rfl) Lw.run (by kernel_rfl) (by kernel_rfl) (by kernel_rfl) (by rfl) (by first | assumption | decide +kernel) (by decide +kernel) ⟨rfl, rfl, rfl, rfl, rfl, by decide +kernel⟩ ?hw ?hc
  case hw => w_witness2
  case hc =>
    refine DL.law_walk (l := PySem.Challenge.rw_lentahead_k18_promises_changed_and_order) (sp := DL.sp_law) (k := 20) (x := "_law_script") rfl (by kernel_rfl) ⟨rfl, by decide, by decide⟩ (fun ns hl => by first | exact ⟨ns, rfl, fun _ => rfl⟩ | exact ⟨ns, rfl, hl, fun _ => rfl⟩) ?F
    intro w mg fa h Y G hmg0
    obtain ⟨K, KX, c⟩ := Y
    have hmg : mg ("law" : PySem.Str) = some (.ref fa) := by
      have e : (HandSHeadRun.topDef (OpenLaw.row PySem.Challenge.rw_lentahead_k18_promises_changed_and_order).prog 31).name = ("law" : PySem.Str) := by kernel_rfl
      rw [← e]
      exact hmg0
    obtain ⟨fd, hb, hF⟩ := Lw.facts (P := (PySem.Challenge.rw_lentahead_k18_promises_changed_and_order).prog) (w := w) KX G hmg (by kernel_rfl) (by kernel_rfl) c
    exact ⟨K, fd, KX, hb, hF⟩
