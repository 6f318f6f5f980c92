import PyProof.Rows.All
import PyProof.Rows.SortStr
import PyProof.Rows.SortShellAny
import Wide.All
import OpenK.AllK
import Wide.FinOn
import KE.KStateDown
import Lean
import HandS.ForMost
import HandS.ForExc
import HandS.HotCalls
import HandS.Defaults
import HandS.Steps
import HandS.IsInst
import HandS.Head0
import HandS.Head1
import HandS.Head2
import HandS.HeadEnd
import HandS.HeadHook1
import HandS.HeadHook2
import HandS.HeadHook3
import HandS.Small
import HandS.RaiseMore
import HandS.Star
import HandS.FStr
import KE.KOpsOwn
import KE.KOwnIter
import HandS.SlotsOwn
import HandS.ClsMeth
import HandS.HeadNt
import HandS.IterVal
import HandS.Property
import HandS.OwnIter
import HandS.DictComp
import HandS.TryMany
import HandS.Iter
import KE.KCallOwn
import HandS.ExcInit
import HandS.ExcField
import HandS.Nested
import KE.KExcSuper
import KE.KExcIs
import HandS.Text
import HandS.Strs
import HandS.TupLe
import HandS.Dict
import HandS.More
import HandS.GenList
import HandS.MakeKwOnly
import PySem.Challenge.RW_lentahead_k30_straight_programs
set_option Elab.async false
set_option linter.all false
set_option maxRecDepth 100000
set_option maxHeartbeats 4000000
/-! A layer of values over the abstract heap: data as trees, what may change at its address (Mu). -/
namespace DL
open PySem L2

abbrev Tx := List Nat
def sx (t : Tx) : Str := ⟨t.toArray⟩
def T (s : Str) : Tx := s.cps.toList
theorem sx_T (s : Str) : sx (T s) = s := by cases s; simp [sx, T]
theorem T_sx (t : Tx) : T (sx t) = t := by simp [sx, T]
theorem sx_inj {a b : Tx} (h : sx a = sx b) : a = b := by rw [← T_sx a, ← T_sx b, h]
theorem sx_len (t : Tx) : (sx t).length = t.length := by simp [sx, PySem.Str.length]
theorem sx_add (a b : Tx) : sx a ++ sx b = sx (a ++ b) := by
  show Str.mk _ = Str.mk _
  simp [sx]

/-- data -/
inductive D where
  | non | bl (b : Bool) | int (i : Int) | str (x : Tx) | ref (a : Addr) | ty (n : String)
  | lst (ds : List D) | tup (ds : List D) | scr (ns : List Int)
  /-- an own class, by its name in the module -/
  | cl (x : Str)
  /-- a caught exception of an own class: where it stands, where its dict stands, its class, its fields -/
  | exc (a dd : Addr) (C : Str) (ns : List Str) (ds : List D)

/-- a key: an int or a text -/
abbrev DKey := Sum Int Tx
def kO : DKey → Key
  | .inl i => .inl i
  | .inr x => .inr (sx x)
theorem kO_inj {a b : DKey} (h : kO a = kO b) : a = b := by
  cases a <;> cases b <;> simp only [kO, Sum.inl.injEq, Sum.inr.injEq, reduceCtorEq] at h
  · rw [h]
  · rw [sx_inj h]
def kD : DKey → D
  | .inl i => .int i
  | .inr x => .str x

/-- what may change -/
inductive MO where
  | lst (ds : List D)
  | dK (kvs : List (DKey × D))
  /-- a dict that is walked: read only -/
  | fK (kvs : List (DKey × D)) (u : HO)
  | ins (C : Str) (fs : List (Str × D))
abbrev Mu := Addr → Option MO
/-- the pairs of a dict -/
def dOf : MO → Option (List (DKey × D))
  | .dK kvs => some kvs
  | .fK kvs _ => some kvs
  | _ => none
def put (M : Mu) (a : Addr) (o : MO) : Mu := fun b => if b = a then some o else M b
def del (M : Mu) (a : Addr) : Mu := fun b => if b = a then none else M b
theorem put_same {M : Mu} {a : Addr} {o : MO} : put M a o a = some o := if_pos rfl
theorem put_ne {M : Mu} {a b : Addr} {o : MO} (h : b ≠ a) : put M a o b = M b := if_neg h
theorem del_same {M : Mu} {a : Addr} : del M a a = none := if_pos rfl
theorem del_ne {M : Mu} {a b : Addr} (h : b ≠ a) : del M a b = M b := if_neg h
theorem put_put {M : Mu} {a : Addr} {o p : MO} : put (put M a o) a p = put M a p := by
  funext b
  by_cases e : b = a
  · rw [e, put_same, put_same]
  · rw [put_ne e, put_ne e, put_ne e]
theorem del_put {M : Mu} {a : Addr} {o : MO} : del (put M a o) a = del M a := by
  funext b
  by_cases e : b = a
  · rw [e, del_same, del_same]
  · rw [del_ne e, del_ne e, put_ne e]
theorem del_new {M : Mu} {a : Addr} (h : M a = none) : del M a = M := by
  funext b
  by_cases e : b = a
  · rw [e, del_same, h]
  · rw [del_ne e]
theorem del_put_new {M : Mu} {a : Addr} {o : MO} (h : M a = none) : del (put M a o) a = M := by rw [del_put, del_new h]
theorem put_eq {M : Mu} {a : Addr} {o : MO} (h : M a = some o) : put M a o = M := by
  funext b
  by_cases e : b = a
  · rw [e, put_same, h]
  · rw [put_ne e]

section
variable (K : PySem.W.Frag) (M : Mu) (H : Hp)
/-- a tuple of the written part -/
def WrT (a : Addr) (vs : List V) : Prop := ∃ (o : Obj) (its : Array Value) (n : Nat), K.lookup a = some o ∧ o.cls = .type "tuple" ∧ o.data = .seq its n ∧ its.size ≤ sizeLine ∧ Vals vs its.toList
def WrL (a : Addr) (vs : List V) : Prop := ∃ (o : Obj) (its : Array Value) (n : Nat), K.lookup a = some o ∧ o.cls = .type "list" ∧ o.dict = none ∧ o.data = .seq its n ∧ its.size ≤ sizeLine ∧ Vals vs its.toList
mutual
/-- the value v is the data d -/
def Rep : D → V → Prop
  | .non, v => v = .non
  | .bl b, v => v = .bl b
  | .int i, v => v = .int i
  | .str x, v => v = .str (sx x)
  | .ref a, v => v = .ref a
  | .ty n, v => v = .ty n
  | .cl x, v => v = .ref (He.ga K x)
  | .scr ns, v => ∃ a, v = .ref a ∧ (((∃ o, H a = some (.frz o (.lst (ns.map V.int)))) ∧ M a = none) ∨ WrL K a (ns.map V.int))
  | .lst ds, v => ∃ a vs, v = .ref a ∧ H a = some (.lst vs) ∧ M a = none ∧ Reps ds vs
  | .tup ds, v => ∃ a vs, v = .ref a ∧ ((H a = some (.tup vs) ∧ M a = none) ∨ WrT K a vs) ∧ Reps ds vs
  | .exc a dd _ ns ds, v => v = .ref a ∧ ∃ gs : List (Str × V), H dd = some (.xd gs) ∧ M dd = none ∧ gs.map (·.1) = ns ∧ Reps ds (gs.map (·.2))
def Reps : List D → List V → Prop
  | [], vs => vs = []
  | d :: ds, vs => ∃ v r, vs = v :: r ∧ Rep d v ∧ Reps ds r
end
def RepO : MO → HO → Prop
  | .lst ds, o => ∃ vs, o = .lst vs ∧ Reps K M H ds vs
  | .dK kvs, o => ∃ ks, o = .dK ks ∧ ks.map (·.1) = kvs.map (fun q => kO q.1) ∧ Reps K M H (kvs.map (·.2)) (ks.map (·.2))
  | .fK kvs u, o => o = u ∧ ∃ od ks, u = .frz od (.dK ks) ∧ ks.map (·.1) = kvs.map (fun q => kO q.1) ∧ Reps K M H (kvs.map (·.2)) (ks.map (·.2))
  | .ins C fs, o => ∃ dx gs, o = .ins (He.ga K C) dx gs ∧ gs.map (·.1) = fs.map (·.1) ∧ Reps K M H (fs.map (·.2)) (gs.map (·.2))
def Cor : Prop := ∀ a mo, M a = some mo → ∃ o, H a = some o ∧ RepO K M H mo o
def RepS : List (Option D) → List (Option V) → Prop
  | [], vs => vs = []
  | none :: ds, vs => ∃ v r, vs = v :: r ∧ RepS ds r
  | some d :: ds, vs => ∃ v r, vs = some v :: r ∧ Rep K M H d v ∧ RepS ds r
end
/-- a step: what is not to change stays -/
def Stp (M : Mu) (H : Hp) (M' : Mu) (H' : Hp) : Prop := ∀ b o, H b = some o → M b = none → H' b = some o ∧ M' b = none
theorem Stp.refl (M : Mu) (H : Hp) : Stp M H M H := fun _ _ h m => ⟨h, m⟩
theorem Stp.trans {M M1 M2 : Mu} {H H1 H2 : Hp} (a : Stp M H M1 H1) (b : Stp M1 H1 M2 H2) : Stp M H M2 H2 := fun c o h m => b c o (a c o h m).1 (a c o h m).2

section
variable {K : PySem.W.Frag} {M M' : Mu} {H H' : Hp}
mutual
theorem Rep.stp (s : Stp M H M' H') : ∀ {d : D} {v : V}, Rep K M H d v → Rep K M' H' d v
  | .non, _, h => h
  | .bl _, _, h => h
  | .int _, _, h => h
  | .str _, _, h => h
  | .ref _, _, h => h
  | .ty _, _, h => h
  | .cl _, _, h => h
  | .scr ns, v, h => by
    unfold Rep at h ⊢
    obtain ⟨a, e, h⟩ := h
    refine ⟨a, e, ?_⟩
    rcases h with ⟨⟨o, h1⟩, h2⟩ | h
    · obtain ⟨h1, h2⟩ := s a _ h1 h2
      exact .inl ⟨⟨o, h1⟩, h2⟩
    · exact .inr h
  | .lst ds, v, h => by
    unfold Rep at h ⊢
    obtain ⟨a, vs, e, h1, h2, h3⟩ := h
    obtain ⟨h1, h2⟩ := s a _ h1 h2
    exact ⟨a, vs, e, h1, h2, Reps.stp s h3⟩
  | .tup ds, v, h => by
    unfold Rep at h ⊢
    obtain ⟨a, vs, e, h1, h3⟩ := h
    refine ⟨a, vs, e, ?_, Reps.stp s h3⟩
    rcases h1 with ⟨h1, h2⟩ | h1
    · exact .inl (s a _ h1 h2)
    · exact .inr h1
  | .exc a dd C ns ds, v, h => by
    unfold Rep at h ⊢
    obtain ⟨e, gs, h1, h2, h3, h4⟩ := h
    obtain ⟨h1, h2⟩ := s dd _ h1 h2
    exact ⟨e, gs, h1, h2, h3, Reps.stp s h4⟩
theorem Reps.stp (s : Stp M H M' H') : ∀ {ds : List D} {vs : List V}, Reps K M H ds vs → Reps K M' H' ds vs
  | [], _, h => h
  | d :: ds, vs, h => by
    unfold Reps at h ⊢
    obtain ⟨v, r, e, h1, h2⟩ := h
    exact ⟨v, r, e, Rep.stp s h1, Reps.stp s h2⟩
end
theorem RepO.stp (s : Stp M H M' H') : ∀ {m : MO} {o : HO}, RepO K M H m o → RepO K M' H' m o
  | .lst _, _, ⟨vs, e, r⟩ => ⟨vs, e, r.stp s⟩
  | .dK _, _, ⟨ks, e, e2, r⟩ => ⟨ks, e, e2, r.stp s⟩
  | .fK _ _, _, ⟨e0, od, ks, e, e2, r⟩ => ⟨e0, od, ks, e, e2, r.stp s⟩
  | .ins _ _, _, ⟨dx, gs, e, e2, r⟩ => ⟨dx, gs, e, e2, r.stp s⟩
theorem RepS.stp (s : Stp M H M' H') : ∀ {ds : List (Option D)} {vs : List (Option V)}, RepS K M H ds vs → RepS K M' H' ds vs
  | [], _, h => h
  | none :: ds, _, ⟨v, r, e, h⟩ => ⟨v, r, e, RepS.stp s h⟩
  | some d :: ds, _, ⟨v, r, e, h1, h⟩ => ⟨v, r, e, h1.stp s, RepS.stp s h⟩

/-! lists of data -/
theorem Reps.nil : Reps K M H [] [] := rfl
theorem Reps.cons {d : D} {v : V} {ds : List D} {vs : List V} (h : Rep K M H d v) (t : Reps K M H ds vs) : Reps K M H (d :: ds) (v :: vs) := ⟨v, vs, rfl, h, t⟩
theorem Reps.length : ∀ {ds : List D} {vs : List V}, Reps K M H ds vs → vs.length = ds.length
  | [], _, h => by cases (show _ = [] from h); rfl
  | d :: ds, _, h => by
    obtain ⟨v, r, rfl, _, h⟩ := (show ∃ v r, _ = v :: r ∧ Rep K M H d v ∧ Reps K M H ds r from h)
    rw [List.length_cons, List.length_cons, h.length]
theorem Reps.uncons {d : D} {ds : List D} {vs : List V} (h : Reps K M H (d :: ds) vs) : ∃ v r, vs = v :: r ∧ Rep K M H d v ∧ Reps K M H ds r := h
theorem Reps.unnil {vs : List V} (h : Reps K M H [] vs) : vs = [] := h
theorem Reps.get : ∀ {ds : List D} {vs : List V} {i : Nat} {d : D}, Reps K M H ds vs → ds[i]? = some d → ∃ v, vs[i]? = some v ∧ Rep K M H d v
  | [], _, _, _, _, e => by simp at e
  | d :: ds, _, 0, x, h, e => by
    obtain ⟨v, r, rfl, h1, _⟩ := h.uncons
    simp at e; subst e
    exact ⟨v, rfl, h1⟩
  | d :: ds, _, i + 1, x, h, e => by
    obtain ⟨v, r, rfl, _, h⟩ := h.uncons
    obtain ⟨u, h1, h2⟩ := Reps.get (i := i) h (by simpa using e)
    exact ⟨u, by simpa using h1, h2⟩
theorem Reps.get_none {ds : List D} {vs : List V} {i : Nat} (h : Reps K M H ds vs) (e : ds[i]? = none) : vs[i]? = none := by
  rw [List.getElem?_eq_none_iff] at e ⊢
  rw [h.length]; exact e
theorem Reps.set {d : D} {v : V} (r : Rep K M H d v) : ∀ {ds : List D} {vs : List V} (i : Nat), Reps K M H ds vs → Reps K M H (ds.set i d) (vs.set i v)
  | [], _, _, h => by cases h.unnil; exact .nil
  | x :: ds, _, 0, h => by
    obtain ⟨u, s, rfl, h1, h2⟩ := h.uncons
    exact .cons r h2
  | x :: ds, _, i + 1, h => by
    obtain ⟨u, s, rfl, h1, h2⟩ := h.uncons
    exact .cons h1 (Reps.set r i h2)
theorem Reps.append : ∀ {ds es : List D} {vs us : List V}, Reps K M H ds vs → Reps K M H es us → Reps K M H (ds ++ es) (vs ++ us)
  | [], _, _, _, h, h2 => by cases h.unnil; exact h2
  | d :: ds, _, _, _, h, h2 => by
    obtain ⟨v, r, rfl, h1, h⟩ := h.uncons
    exact .cons h1 (h.append h2)
theorem Reps.snoc {ds : List D} {vs : List V} {d : D} {v : V} (h : Reps K M H ds vs) (h1 : Rep K M H d v) : Reps K M H (ds ++ [d]) (vs ++ [v]) := h.append (.cons h1 .nil)
theorem Reps.take : ∀ {ds : List D} {vs : List V} (n : Nat), Reps K M H ds vs → Reps K M H (ds.take n) (vs.take n)
  | _, _, 0, _ => by simp only [List.take_zero]; exact .nil
  | [], _, _ + 1, h => by cases h.unnil; exact .nil
  | d :: ds, _, n + 1, h => by
    obtain ⟨v, r, rfl, h1, h⟩ := h.uncons
    exact .cons h1 (Reps.take n h)
theorem Reps.drop : ∀ {ds : List D} {vs : List V} (n : Nat), Reps K M H ds vs → Reps K M H (ds.drop n) (vs.drop n)
  | _, _, 0, h => h
  | [], _, _ + 1, h => by cases h.unnil; exact .nil
  | d :: ds, _, n + 1, h => by
    obtain ⟨v, r, rfl, h1, h⟩ := h.uncons
    exact Reps.drop n h
theorem Reps.erase : ∀ {ds : List D} {vs : List V} (n : Nat), Reps K M H ds vs → Reps K M H (ds.eraseIdx n) (vs.eraseIdx n)
  | [], _, _, h => by cases h.unnil; exact .nil
  | d :: ds, _, 0, h => by
    obtain ⟨v, r, rfl, h1, h⟩ := h.uncons
    exact h
  | d :: ds, _, n + 1, h => by
    obtain ⟨v, r, rfl, h1, h⟩ := h.uncons
    exact .cons h1 (Reps.erase n h)
theorem Reps.dropLast {ds : List D} {vs : List V} (h : Reps K M H ds vs) : Reps K M H ds.dropLast vs.dropLast := by
  rw [List.dropLast_eq_take, List.dropLast_eq_take, h.length]
  exact h.take _
theorem Reps.reverse : ∀ {ds : List D} {vs : List V}, Reps K M H ds vs → Reps K M H ds.reverse vs.reverse
  | [], _, h => by cases h.unnil; exact .nil
  | d :: ds, _, h => by
    obtain ⟨v, r, rfl, h1, h⟩ := h.uncons
    rw [List.reverse_cons, List.reverse_cons]
    exact h.reverse.snoc h1
theorem Reps.strs : ∀ {xs : List Tx} {vs : List V}, Reps K M H (xs.map D.str) vs → vs = (xs.map sx).map V.str
  | [], _, h => h.unnil
  | x :: xs, _, h => by
    obtain ⟨v, r, rfl, h1, h⟩ := h.uncons
    rw [(show v = _ from h1), h.strs]; rfl
theorem Reps.of_strs : ∀ (xs : List Tx), Reps K M H (xs.map D.str) ((xs.map sx).map V.str)
  | [] => .nil
  | _ :: xs => .cons rfl (Reps.of_strs xs)
theorem Reps.ints : ∀ {xs : List Int} {vs : List V}, Reps K M H (xs.map D.int) vs → vs = xs.map V.int
  | [], _, h => h.unnil
  | x :: xs, _, h => by
    obtain ⟨v, r, rfl, h1, h⟩ := h.uncons
    rw [(show v = _ from h1), h.ints]; rfl
theorem Reps.of_ints : ∀ (xs : List Int), Reps K M H (xs.map D.int) (xs.map V.int)
  | [] => .nil
  | _ :: xs => .cons rfl (Reps.of_ints xs)
theorem Reps.bls : ∀ {xs : List Bool} {vs : List V}, Reps K M H (xs.map D.bl) vs → vs = xs.map V.bl
  | [], _, h => h.unnil
  | x :: xs, _, h => by
    obtain ⟨v, r, rfl, h1, h⟩ := h.uncons
    rw [(show v = _ from h1), h.bls]; rfl

/-! slots -/
theorem RepS.get : ∀ {ds : List (Option D)} {vs : List (Option V)} {i : Nat} {d : D}, RepS K M H ds vs → ds[i]? = some (some d) → ∃ v, vs[i]? = some (some v) ∧ Rep K M H d v
  | [], _, _, _, _, e => by simp at e
  | none :: ds, _, 0, _, _, e => by simp at e
  | some d :: ds, _, 0, _, ⟨v, r, e1, h1, _⟩, e => by
    subst e1; simp at e; subst e
    exact ⟨v, rfl, h1⟩
  | none :: ds, _, i + 1, d, ⟨v, r, e1, h⟩, e => by
    subst e1
    obtain ⟨u, h1, h2⟩ := RepS.get (i := i) (d := d) h (by simpa using e)
    exact ⟨u, by simpa using h1, h2⟩
  | some _ :: ds, _, i + 1, d, ⟨v, r, e1, _, h⟩, e => by
    subst e1
    obtain ⟨u, h1, h2⟩ := RepS.get (i := i) (d := d) h (by simpa using e)
    exact ⟨u, by simpa using h1, h2⟩
theorem RepS.set {d : D} {v : V} (rp : Rep K M H d v) : ∀ {ds : List (Option D)} {vs : List (Option V)} (i : Nat), RepS K M H ds vs → RepS K M H (ds.set i (some d)) (vs.set i (some v))
  | [], _, _, h => by cases (show _ = [] from h); exact rfl
  | none :: ds, _, 0, ⟨u, r, e, h⟩ => by subst e; exact ⟨v, r, rfl, rp, h⟩
  | some _ :: ds, _, 0, ⟨u, r, e, _, h⟩ => by subst e; exact ⟨v, r, rfl, rp, h⟩
  | none :: ds, _, i + 1, ⟨u, r, e, h⟩ => by subst e; exact ⟨u, r.set i (some v), rfl, RepS.set rp i h⟩
  | some x :: ds, _, i + 1, ⟨u, r, e, h1, h⟩ => by subst e; exact ⟨u, r.set i (some v), rfl, h1, RepS.set rp i h⟩
theorem RepS.none : ∀ {ds : List (Option D)} {vs : List (Option V)} (i : Nat) (x : Option V), RepS K M H ds vs → RepS K M H (ds.set i none) (vs.set i x)
  | [], _, _, _, h => by cases (show _ = [] from h); exact rfl
  | .none :: ds, _, 0, x, ⟨u, r, e, h⟩ => by subst e; exact ⟨x, r, rfl, h⟩
  | some _ :: ds, _, 0, x, ⟨u, r, e, _, h⟩ => by subst e; exact ⟨x, r, rfl, h⟩
  | .none :: ds, _, i + 1, x, ⟨u, r, e, h⟩ => by subst e; exact ⟨u, r.set i x, rfl, RepS.none i x h⟩
  | some y :: ds, _, i + 1, x, ⟨u, r, e, h1, h⟩ => by subst e; exact ⟨u, r.set i x, rfl, h1, RepS.none i x h⟩
theorem RepS.start : ∀ {ds : List D} {vs : List V} (n : Nat), Reps K M H ds vs → RepS K M H (ds.map some ++ List.replicate n Option.none) (vs.map some ++ List.replicate n Option.none)
  | [], _, n, h => by
    cases h.unnil
    show RepS K M H (List.replicate n Option.none) (List.replicate n Option.none)
    induction n with
    | zero => exact rfl
    | succ n ih => exact ⟨.none, _, rfl, ih⟩
  | d :: ds, _, n, h => by
    obtain ⟨v, r, rfl, h1, h⟩ := h.uncons
    exact ⟨v, _, rfl, h1, RepS.start n h⟩

/-! steps -/
theorem Cor.free (c : Cor K M H) {p : Addr} (h : H p = none) : M p = none := by
  cases e : M p with
  | none => rfl
  | some mo => obtain ⟨o, h2, _⟩ := c p mo e; rw [h] at h2; cases h2
theorem Stp.new {p : Addr} {o : HO} (h : H p = none) : Stp M H M (upd H p o) := fun b u e m => ⟨by rw [upd_ne (ne_of_none e h)]; exact e, m⟩
theorem Stp.newM {p : Addr} {o : HO} {mo : MO} (h : H p = none) : Stp M H (put M p mo) (upd H p o) := fun b u e m =>
  have n := ne_of_none e h
  ⟨by rw [upd_ne n]; exact e, by rw [put_ne n]; exact m⟩
theorem Stp.write {a : Addr} {o : HO} {mo mo' : MO} (h : M a = some mo) : Stp M H (put M a mo') (upd H a o) := fun b u e m => by
  have n : b ≠ a := fun z => by rw [z, h] at m; cases m
  exact ⟨by rw [upd_ne n]; exact e, by rw [put_ne n]; exact m⟩
theorem Stp.frz {a : Addr} : Stp M H (del M a) H := fun b u e m => ⟨e, by
  by_cases z : b = a
  · rw [z, del_same]
  · rw [del_ne z]; exact m⟩
theorem Cor.new (c : Cor K M H) {p : Addr} {o : HO} (h : H p = none) : Cor K M (upd H p o) := fun a mo e => by
  obtain ⟨u, h1, r⟩ := c a mo e
  exact ⟨u, by rw [upd_ne (ne_of_none h1 h)]; exact h1, r.stp (Stp.new h)⟩
theorem Cor.newM (c : Cor K M H) {p : Addr} {o : HO} {mo : MO} (h : H p = none) (r0 : RepO K M H mo o) : Cor K (put M p mo) (upd H p o) := fun a m e => by
  by_cases z : a = p
  · subst z
    rw [put_same] at e; cases e
    exact ⟨o, upd_same, r0.stp (Stp.newM h)⟩
  · rw [put_ne z] at e
    obtain ⟨u, h1, r⟩ := c a m e
    exact ⟨u, by rw [upd_ne z]; exact h1, r.stp (Stp.newM h)⟩
theorem Cor.write (c : Cor K M H) {a : Addr} {o : HO} {mo mo' : MO} (h : M a = some mo) (r0 : RepO K M H mo' o) : Cor K (put M a mo') (upd H a o) := fun b m e => by
  by_cases z : b = a
  · subst z
    rw [put_same] at e; cases e
    exact ⟨o, upd_same, r0.stp (Stp.write h)⟩
  · rw [put_ne z] at e
    obtain ⟨u, h1, r⟩ := c b m e
    exact ⟨u, by rw [upd_ne z]; exact h1, r.stp (Stp.write h)⟩
theorem Cor.frz (c : Cor K M H) {a : Addr} : Cor K (del M a) H := fun b m e => by
  have z : b ≠ a := fun z => by rw [z, del_same] at e; cases e
  rw [del_ne z] at e
  obtain ⟨u, h1, r⟩ := c b m e
  exact ⟨u, h1, r.stp Stp.frz⟩
end
end DL

namespace DL
open PySem L2

abbrev DSt := List (Option D)
abbrev DK := D → Mu → Prop
/-- an exception: its class, its fields -/
structure XD where
  cls : Str
  fs : List (Str × D)
abbrev DX := XD → Mu → Prop
abbrev DR (α : Type) := DSt → Mu → (α → Mu → Prop) → DX → Prop
abbrev DTE := DR D
abbrev DTT := DR Bool
abbrev DTA := DR (List D)
def RepX (K : PySem.W.Frag) (M : Mu) (H : Hp) (x : XD) (c : Value) (d : Option Addr) : Prop :=
  c = .ref (He.ga K x.cls) ∧ match d with
    | none => x.fs = []
    | some a => ∃ gs, H a = some (.xd gs) ∧ M a = none ∧ gs.map (·.1) = x.fs.map (·.1) ∧ Reps K M H (x.fs.map (·.2)) (gs.map (·.2))
theorem RepX.stp {K : PySem.W.Frag} {M M' : Mu} {H H' : Hp} {x : XD} {c : Value} {d : Option Addr} (h : RepX K M H x c d) (s : Stp M H M' H') : RepX K M' H' x c d := by
  obtain ⟨e, h⟩ := h
  refine ⟨e, ?_⟩
  cases d with
  | none => exact h
  | some a =>
    obtain ⟨gs, h1, h2, h3, h4⟩ := h
    obtain ⟨h1, h2⟩ := s a _ h1 h2
    exact ⟨gs, h1, h2, h3, h4.stp s⟩

/-- where a reading stands: the values by trees, what is wanted behind it -/
structure Sit (K : PySem.W.Frag) (W : WX) {α β : Type} (R : Mu → Hp → α → β → Prop) (τ : DSt) (M : Mu) (σ : L2.St) (H : Hp) (Q0 : α → Mu → Prop) (E0 : DX) (Q : β → Hp → Prop) : Prop where
  rs : RepS K M H τ σ
  co : Cor K M H
  q : ∀ d M' v H', Q0 d M' → R M' H' d v → Cor K M' H' → Stp M H M' H' → Q v H'
  e : ∀ x M' c d H', E0 x M' → RepX K M' H' x c d → Cor K M' H' → Stp M H M' H' → W c d σ H'
/-- a reading over data, as a reading over the heap -/
def lif (K : PySem.W.Frag) (W : WX) {α β : Type} (R : Mu → Hp → α → β → Prop) (t : DR α) (σ : L2.St) (H : Hp) (Q : β → Hp → Prop) : Prop :=
  ∃ τ M Q0 E0, Sit K W R τ M σ H Q0 E0 Q ∧ t τ M Q0 E0
abbrev RD (K : PySem.W.Frag) : Mu → Hp → D → V → Prop := fun M H d v => Rep K M H d v
abbrev RB : Mu → Hp → Bool → Bool → Prop := fun _ _ a b => b = a
abbrev RA (K : PySem.W.Frag) : Mu → Hp → List D → List V → Prop := fun M H d v => Reps K M H d v
section
variable {K : PySem.W.Frag} {W : WX} {α β γ δ : Type} {R : Mu → Hp → α → β → Prop} {R1 : Mu → Hp → γ → δ → Prop} {τ : DSt} {M M1 : Mu} {σ : L2.St} {H H1 : Hp} {Q0 : α → Mu → Prop} {E0 : DX} {Q : β → Hp → Prop}
theorem Sit.go (S : Sit K W R τ M σ H Q0 E0 Q) (c : Cor K M1 H1) (s : Stp M H M1 H1) : Sit K W R τ M1 σ H1 Q0 E0 Q :=
  ⟨S.rs.stp s, c, fun d M' v H' h r c' s' => S.q d M' v H' h r c' (s.trans s'), fun x M' c d H' h r c' s' => S.e x M' c d H' h r c' (s.trans s')⟩
/-- a part is read, then the rest -/
theorem Sit.sub (S : Sit K W R τ M σ H Q0 E0 Q) {t : DR γ} {G : γ → Mu → Prop} {Q1 : δ → Hp → Prop} (h : t τ M G E0)
    (k : ∀ d M1 v H1, G d M1 → R1 M1 H1 d v → Sit K W R τ M1 σ H1 Q0 E0 Q → Stp M H M1 H1 → Q1 v H1) : lif K W R1 t σ H Q1 :=
  ⟨τ, M, G, E0, ⟨S.rs, S.co, fun d M' v H' g r c s => k d M' v H' g r (S.go c s) s, S.e⟩, h⟩
/-- the value is there -/
theorem Sit.end_ (S : Sit K W R τ M σ H Q0 E0 Q) {d : α} {v : β} (h : Q0 d M) (r : R M H d v) : Q v H := S.q d M v H h r S.co (Stp.refl _ _)
end

theorem PE.of {X : Cx} {e : Expr} {t t0 : TE} (h : PE X e t0) (k : ∀ σ H Q, t σ H Q → t0 σ H Q) : PE X e t := ⟨fun pins s σ H Q I q => h.run pins s σ H Q I (k σ H Q q)⟩
theorem PT.of {X : Cx} {e : Expr} {t t0 : TT} (h : PT X e t0) (k : ∀ σ H Q, t σ H Q → t0 σ H Q) : PT X e t := ⟨fun pins s σ H Q I q => h.run pins s σ H Q I (k σ H Q q)⟩
theorem PA.of {X : Cx} {e : List Expr} {t t0 : TA} (h : PA X e t0) (k : ∀ σ H Q, t σ H Q → t0 σ H Q) : PA X e t := ⟨fun pos pins s σ H Q I q => h.run pos pins s σ H Q I (k σ H Q q)⟩
theorem PS.of {X : Cx} {e : Stmt} {t t0 : TS} (h : PS X e t0) (k : ∀ D σ H, t D σ H → t0 D σ H) : PS X e t := ⟨fun pins s σ H D I q => h.run pins s σ H D I (k D σ H q)⟩
theorem PSs.of {X : Cx} {e : List Stmt} {t t0 : TS} (h : PSs X e t0) (k : ∀ D σ H, t D σ H → t0 D σ H) : PSs X e t := ⟨fun pins s σ H D I q => h.run pins s σ H D I (k D σ H q)⟩

/-- a context that is fit for us: W takes what is raised -/
structure Gd (X : Cx) (W : WX) : Prop where
  calm : X.calm = true
  tk : Takes X W
  hu : X.A.units + 64 < cLine
  own : PassesOwn (model X.prog X.w) X.A X.env X.xe
  nd : X.N.Nodup
theorem Gd.hu1 {X : Cx} {W : WX} (G : Gd X W) : X.A.units + 1 < cLine := Nat.lt_of_le_of_lt (Nat.add_le_add_left (by decide) _) G.hu

/-- an expression, a test, arguments over data -/
abbrev DE (X : Cx) (W : WX) (e : Expr) (t : DTE) : Prop := PE X e (lif X.K W (RD X.K) t)
abbrev DT (X : Cx) (W : WX) (e : Expr) (t : DTT) : Prop := PT X e (lif X.K W RB t)
abbrev DA (X : Cx) (W : WX) (es : List Expr) (t : DTA) : Prop := PA X es (lif X.K W (RA X.K) t)

/-! ### readings over data -/
def dVar (i : Nat) : DTE := fun τ M Q _ => match τ[i]? with
  | some (some d) => Q d M
  | _ => False
def dC (d : D) : DTE := fun _ M Q _ => Q d M
abbrev DOp := D → D → Mu → DK → Prop
def dOp (g : DOp) (ta tb : DTE) : DTE := fun τ M Q E => ta τ M (fun x M1 => tb τ M1 (fun y M2 => g x y M2 Q) E) E
abbrev DUn := D → Mu → DK → Prop
def dUn (g : DUn) (ta : DTE) : DTE := fun τ M Q E => ta τ M (fun x M1 => g x M1 Q) E

section
variable {X : Cx} {W : WX} {a b c e : Expr} {ta tb tc : DTE} {pos : Pos}
theorem de_var (i : Nat) {x : Str} (hN : X.N[i]? = some x := by rfl) (hv : Vis X.env.scope x := by first | exact Or.inl rfl | exact Or.inr (Or.inl rfl) | exact Or.inr (Or.inr rfl)) (hd : (x == ("__debug__" : Str)) = false := by decide)
    (hcd : (x == ("__classdict__" : Str)) = false := by decide) : DE X W (.Name x pos) (dVar i) := by
  refine PE.of (pe_var hN hv hd hcd) fun σ H Q ⟨τ, M, Q0, E0, S, h⟩ => ?_
  unfold dVar at h
  split at h
  · rename_i d e
    obtain ⟨v, e2, r⟩ := S.rs.get e
    exact ⟨v, e2, S.end_ h r⟩
  · exact h.elim
theorem de_c {t0 : TE} {d : D} {v : V} (h : PE X e (tC v)) (r : ∀ M H, Rep X.K M H d v) : DE X W e (dC d) := by
  refine PE.of h fun σ H Q ⟨τ, M, Q0, E0, S, h⟩ => ?_
  exact S.end_ h (r M H)
theorem de_int {i : Int} {j : Nat} : DE X W (.Constant (.int i) j pos) (dC (.int i)) := de_c (t0 := tC .non) pe_int fun _ _ => rfl
theorem de_bl {i : Bool} {j : Nat} : DE X W (.Constant (.bool i) j pos) (dC (.bl i)) := de_c (t0 := tC .non) pe_bl fun _ _ => rfl
theorem de_non {j : Nat} : DE X W (.Constant .none j pos) (dC .non) := de_c (t0 := tC .non) pe_non fun _ _ => rfl
theorem de_str {x : Str} {j : Nat} : DE X W (.Constant (.str x) j pos) (dC (.str (T x))) := de_c (t0 := tC .non) pe_str fun _ _ => by
  show V.str x = V.str (sx (T x))
  rw [sx_T]
/-- a module's constant -/
theorem de_glob {x : Str} {d : D} {v : V} {u : Value} (hg : Gl X x) (hm : X.mg x = some u) (r : RelV v u) (rd : ∀ M H, Rep X.K M H d v) (hd : (x == ("__debug__" : Str)) = false := by decide) : DE X W (.Name x pos) (dC d) :=
  de_c (t0 := tC .non) (pe_glob hg hm r hd) rd

/-- an operation over data against one over the heap -/
def OpD (K : PySem.W.Frag) (g : DOp) (r : R2) : Prop := ∀ (M : Mu) (H : Hp) (x y : D) (v u : V) (Q0 : DK) (Q : VK), Cor K M H → Rep K M H x v → Rep K M H y u → g x y M Q0 →
  (∀ d M' z H', Q0 d M' → Rep K M' H' d z → Cor K M' H' → Stp M H M' H' → Q z H') → r v u H Q
def UnD (K : PySem.W.Frag) (g : DUn) (r : V → Hp → VK → Prop) : Prop := ∀ (M : Mu) (H : Hp) (x : D) (v : V) (Q0 : DK) (Q : VK), Cor K M H → Rep K M H x v → g x M Q0 →
  (∀ d M' z H', Q0 d M' → Rep K M' H' d z → Cor K M' H' → Stp M H M' H' → Q z H') → r v H Q
theorem lif_op {g : DOp} {r : R2} (o : OpD X.K g r) {σ : L2.St} {H : Hp} {Q : VK} (h : lif X.K W (RD X.K) (dOp g ta tb) σ H Q) : tOp r (lif X.K W (RD X.K) ta) (lif X.K W (RD X.K) tb) σ H Q := by
  obtain ⟨τ, M, Q0, E0, S, h⟩ := h
  refine S.sub h fun d M1 v H1 h1 r1 S1 s1 => ?_
  refine S1.sub h1 fun d2 M2 v2 H2 h2 r2 S2 s2 => ?_
  exact o M2 H2 d d2 v v2 Q0 Q S2.co (r1.stp s2) r2 h2 S2.q
theorem de_op {op : Operator} {g : DOp} {r : R2} (ho : OpR X (binaryOp op) r) (o : OpD X.K g r) (ha : DE X W a ta) (hb : DE X W b tb) : DE X W (.BinOp a op b pos) (dOp g ta tb) :=
  PE.of (pe_op ho ha hb) fun _ _ _ h => lif_op o h
theorem de_un {op : UnaryOp} {g : DUn} {r : V → Hp → VK → Prop} (ho : UnR X (unaryOp op) r) (o : UnD X.K g r) (ha : DE X W a ta) : DE X W (.UnaryOp op a pos) (dUn g ta) := by
  refine PE.of (pe_un ho ha) fun σ H Q ⟨τ, M, Q0, E0, S, h⟩ => ?_
  refine S.sub h fun d M1 v H1 h1 r1 S1 s1 => ?_
  exact o M1 H1 d v Q0 Q S1.co r1 h1 S1.q
theorem de_cmp {op : CmpOp} {g : DOp} {r : R2} (ho : OpR X (compareOp op) r) (o : OpD X.K g r) (ha : DE X W a ta) (hb : DE X W b tb) (hm : behindInMarks op b = false) : DE X W (.Compare a [op] [b] pos) (dOp g ta tb) :=
  PE.of (pe_cmpR ho ha hb hm) fun _ _ _ h => lif_op o h
end
end DL

namespace DL
open PySem L2

theorem line24 : (sizeLine : Nat) = 16777216 := sizeLine_eq
/-! ### tests -/
def dTest (t : DTE) : DTT := fun τ M Q E => t τ M (fun d M1 => match d with
  | .bl b => Q b M1
  | _ => False) E
def dAnd (t u : DTT) : DTT := fun τ M Q E => t τ M (fun b M1 => if b = true then u τ M1 Q E else Q false M1) E
def dOr (t u : DTT) : DTT := fun τ M Q E => t τ M (fun b M1 => if b = true then Q true M1 else u τ M1 Q E) E
def dNot (t : DTT) : DTT := fun τ M Q E => t τ M (fun b M1 => Q (!b) M1) E
def dAndV (t u : DTE) : DTE := fun τ M Q E => t τ M (fun d M1 => match d with
  | .bl b => if b = true then u τ M1 Q E else Q (.bl false) M1
  | _ => False) E
def dOrV (t u : DTE) : DTE := fun τ M Q E => t τ M (fun d M1 => match d with
  | .bl b => if b = true then Q (.bl true) M1 else u τ M1 Q E
  | _ => False) E
def dNotV (t : DTE) : DTE := fun τ M Q E => t τ M (fun d M1 => match d with
  | .bl b => Q (.bl (!b)) M1
  | _ => False) E
def dIf (t : DTT) (ta tb : DTE) : DTE := fun τ M Q E => t τ M (fun b M1 => if b = true then ta τ M1 Q E else tb τ M1 Q E) E
/-- a value's truth -/
def truD (M : Mu) : D → Option Bool
  | .non => some false
  | .bl b => some b
  | .int i => some (i != 0)
  | .str x => some !x.isEmpty
  | .lst ds => some !ds.isEmpty
  | .tup ds => some !ds.isEmpty
  | .ref a => match M a with
    | some (.lst ds) => some !ds.isEmpty
    | some (.dK kvs) => some !kvs.isEmpty
    | _ => none
  | .ty _ => none
  | .scr _ => none
  | .cl _ => none
  | .exc _ _ _ _ _ => none
def dTru (t : DTE) : DTT := fun τ M Q E => t τ M (fun d M1 => match d with
  | .str x => x.length ≤ 16777216 ∧ Q (!x.isEmpty) M1
  | d => match truD M1 d with
    | some b => Q b M1
    | none => False) E
abbrev DW (X : Cx) (W : WX) (e : Expr) (t : DTT) : Prop := PW X e (lif X.K W RB t)
theorem PW.of {X : Cx} {e : Expr} {t t0 : TT} (h : PW X e t0) (k : ∀ σ H Q, t σ H Q → t0 σ H Q) : PW X e t := ⟨fun w pins s σ H Q I q => h.run w pins s σ H Q I (k σ H Q q)⟩
theorem isE_len {α β : Type} {a : List α} {b : List β} (h : a.length = b.length) : a.isEmpty = b.isEmpty := by
  cases a <;> cases b <;> simp at h ⊢
section
variable {X : Cx} {W : WX} {a b c e o : Expr} {rest es : List Expr} {ta tb tc te to : DTE} {t u v : DTT} {pos apos cpos : Pos}
theorem lif_test {σ : L2.St} {H : Hp} {Q : Bool → Hp → Prop} (h : lif X.K W RB (dTest ta) σ H Q) : lif X.K W (RD X.K) ta σ H (fun x H' => ∃ k, x = .bl k ∧ Q k H') := by
  obtain ⟨τ, M, Q0, E0, S, h⟩ := h
  refine S.sub h fun d M1 v H1 h1 r1 S1 s1 => ?_
  cases d with
  | bl b => exact ⟨b, r1, S1.end_ h1 rfl⟩
  | _ => exact h1.elim
theorem dt_cmp {op : CmpOp} {g : DOp} {r : R2} (ho : OpR X (compareOp op) r) (oo : OpD X.K g r) (ha : DE X W a ta) (hb : DE X W b tb) (hm : behindInMarks op b = false) : DT X W (.Compare a [op] [b] pos) (dTest (dOp g ta tb)) :=
  PT.of (pt_cmpR ho ha hb hm) fun _ _ _ h => lif_op oo (lif_test h)
theorem dt_bl (ha : DE X W a ta) (he : ∀ whole, isTrue a X.env whole = (do let v ← whole; standAt a.pos; holding [v] (truthy v)) := by intro _; rfl) : DT X W a (dTest ta) :=
  PT.of (pt_val ha he) fun _ _ _ h => lif_test h
theorem dt_tru (ha : DE X W a ta) (he : ∀ whole, isTrue a X.env whole = (do let v ← whole; standAt a.pos; holding [v] (truthy v)) := by intro _; rfl) : DT X W a (dTru ta) := by
  refine PT.of (pt_truth ha he) fun σ H Q ⟨τ, M, Q0, E0, S, h⟩ => ?_
  refine S.sub h fun d M1 v H1 h1 r1 S1 s1 => ?_
  have z : ∀ k, TruV X.K v H1 k → Q0 k M1 → ∃ k, TruV X.K v H1 k ∧ Q k H1 := fun k h q => ⟨k, h, S1.end_ q rfl⟩
  cases d with
  | non => cases r1; exact z false rfl h1
  | bl b => cases r1; exact z b rfl h1
  | int i => cases r1; exact z _ rfl h1
  | str x =>
    cases r1
    refine z (!x.isEmpty) ⟨by rw [sx_len, line24]; exact h1.1, ?_⟩ h1.2
    rw [sx_len]
    cases x with
    | nil => rfl
    | cons a l =>
      show true = _
      have : ((List.length (a :: l) : Int) != 0) = true := by
        rw [bne_iff_ne]
        simp only [List.length_cons]
        omega
      exact this.symm
  | ty n => exact h1.elim
  | scr n => exact h1.elim
  | cl n => exact h1.elim
  | exc _ _ _ _ _ => exact h1.elim
  | lst ds =>
    obtain ⟨a, vs, e, hh, hm, hr⟩ := (show ∃ a vs, _ from r1)
    subst e
    exact z (!ds.isEmpty) (.inl ⟨vs, .inl (.inl hh), by rw [isE_len hr.length]⟩) h1
  | tup ds =>
    obtain ⟨a, vs, e, hh, hr⟩ := (show ∃ a vs, _ from r1)
    subst e
    exact z (!ds.isEmpty) (.inr (.inl ⟨vs, hh.elim (fun q => .inl (.inl q.1)) .inr, by rw [isE_len hr.length]⟩)) h1
  | ref a =>
    cases r1
    have h2 : (match (match M1 a with
      | some (.lst ds) => some !ds.isEmpty
      | some (.dK kvs) => some !kvs.isEmpty
      | _ => none) with
      | some b => Q0 b M1
      | none => False) := h1
    cases q : M1 a with
    | none => rw [q] at h2; exact h2.elim
    | some mo =>
      rw [q] at h2
      obtain ⟨ho, e1, e2⟩ := S1.co a mo q
      cases mo with
      | lst ds =>
        obtain ⟨vs, e, hr⟩ := e2
        subst e
        exact z (!ds.isEmpty) (.inl ⟨vs, .inl (.inl e1), by rw [isE_len hr.length]⟩) h2
      | dK kvs =>
        obtain ⟨ks, e, e3, hr⟩ := e2
        subst e
        refine z (!kvs.isEmpty) (.inr (.inr ⟨ks, e1, ?_⟩)) h2
        have := congrArg List.length e3
        rw [List.length_map, List.length_map] at this
        rw [isE_len this]
      | _ => exact h2.elim
theorem dt_not (h : DT X W a t) : DT X W (.UnaryOp .Not a pos) (dNot t) := PT.of (pt_not h) fun σ H Q ⟨τ, M, Q0, E0, S, h⟩ =>
  S.sub h fun d M1 v H1 h1 r1 S1 s1 => by cases r1; exact S1.end_ h1 rfl
theorem dw_and1 (h : DT X W a t) : DW X W (.BoolOp .And [a] pos) t := pw_and1 h
theorem dw_or1 (h : DT X W a t) : DW X W (.BoolOp .Or [a] pos) t := pw_or1 h
theorem dw_and (ha : DT X W a t) (hb : DW X W (.BoolOp .And (b :: rest) pos) u) : DW X W (.BoolOp .And (a :: b :: rest) pos) (dAnd t u) :=
  PW.of (pw_and ha hb) fun σ H Q ⟨τ, M, Q0, E0, S, h⟩ => S.sub h fun d M1 v H1 h1 r1 S1 s1 => by
    cases r1
    cases d with
    | true => exact S1.sub h1 fun d M2 v H2 h2 r2 S2 s2 => by cases r2; exact S2.end_ h2 rfl
    | false => exact S1.end_ h1 rfl
theorem dw_or (ha : DT X W a t) (hb : DW X W (.BoolOp .Or (b :: rest) pos) u) : DW X W (.BoolOp .Or (a :: b :: rest) pos) (dOr t u) :=
  PW.of (pw_or ha hb) fun σ H Q ⟨τ, M, Q0, E0, S, h⟩ => S.sub h fun d M1 v H1 h1 r1 S1 s1 => by
    cases r1
    cases d with
    | false => exact S1.sub h1 fun d M2 v H2 h2 r2 S2 s2 => by cases r2; exact S2.end_ h2 rfl
    | true => exact S1.end_ h1 rfl
theorem dt_w (h : DW X W a t) : DT X W a t := PW.pt h
theorem de_one {op : BoolOp} (h : DE X W a ta) : DE X W (.BoolOp op [a] pos) ta := pe_one h
theorem de_and (ha : DE X W a ta) (hb : DE X W (.BoolOp .And (b :: rest) pos) tb) : DE X W (.BoolOp .And (a :: b :: rest) pos) (dAndV ta tb) :=
  PE.of (pe_and ha hb) fun σ H Q ⟨τ, M, Q0, E0, S, h⟩ => S.sub h fun d M1 v H1 h1 r1 S1 s1 => by
    cases d with
    | bl c =>
      refine ⟨c, r1, ?_⟩
      cases c with
      | true => exact S1.sub h1 fun d M2 v H2 h2 r2 S2 s2 => S2.end_ h2 r2
      | false => exact S1.end_ h1 rfl
    | _ => exact h1.elim
theorem de_or (ha : DE X W a ta) (hb : DE X W (.BoolOp .Or (b :: rest) pos) tb) : DE X W (.BoolOp .Or (a :: b :: rest) pos) (dOrV ta tb) :=
  PE.of (pe_or ha hb) fun σ H Q ⟨τ, M, Q0, E0, S, h⟩ => S.sub h fun d M1 v H1 h1 r1 S1 s1 => by
    cases d with
    | bl c =>
      refine ⟨c, r1, ?_⟩
      cases c with
      | false => exact S1.sub h1 fun d M2 v H2 h2 r2 S2 s2 => S2.end_ h2 r2
      | true => exact S1.end_ h1 rfl
    | _ => exact h1.elim
theorem de_not (ha : DE X W a ta) : DE X W (.UnaryOp .Not a pos) (dNotV ta) :=
  PE.of (pe_not ha) fun σ H Q ⟨τ, M, Q0, E0, S, h⟩ => S.sub h fun d M1 v H1 h1 r1 S1 s1 => by
    cases d with
    | bl c => exact ⟨c, r1, S1.end_ h1 rfl⟩
    | _ => exact h1.elim
theorem de_if (hc : DT X W c t) (ha : DE X W a ta) (hb : DE X W b tb) : DE X W (.IfExp c a b pos) (dIf t ta tb) :=
  PE.of (pe_ifExp hc ha hb) fun σ H Q ⟨τ, M, Q0, E0, S, h⟩ => S.sub h fun d M1 v H1 h1 r1 S1 s1 => by
    cases r1
    cases d with
    | true => exact S1.sub h1 fun d M2 v H2 h2 r2 S2 s2 => S2.end_ h2 r2
    | false => exact S1.sub h1 fun d M2 v H2 h2 r2 S2 s2 => S2.end_ h2 r2

/-! ### arguments, displays -/
def daNil : DTA := fun _ M Q _ => Q [] M
def daCons (te : DTE) (ta : DTA) : DTA := fun τ M Q E => te τ M (fun d M1 => ta τ M1 (fun ds M2 => Q (d :: ds) M2) E) E
def dLst (ta : DTA) : DTE := fun τ M Q E => ta τ M (fun ds M1 => ds.length ≤ 16777216 ∧ Q (.lst ds) M1) E
def dLstM (ta : DTA) : DTE := fun τ M Q E => ta τ M (fun ds M1 => ds.length ≤ 16777216 ∧ ∀ p, M1 p = none → Q (.ref p) (put M1 p (.lst ds))) E
def dTup (ta : DTA) : DTE := fun τ M Q E => ta τ M (fun ds M1 => ds.length ≤ 16777216 ∧ Q (.tup ds) M1) E
variable {tl : DTA}
theorem da_nil : DA X W [] daNil := PA.of pa_nil fun σ H Q ⟨τ, M, Q0, E0, S, h⟩ => S.end_ h Reps.nil
theorem da_cons (ha : DE X W e te) (hr : DA X W es tl) (hs : starEach (e :: es) X.env = (false, eval e X.env) :: starEach es X.env := by rfl) : DA X W (e :: es) (daCons te tl) :=
  PA.of (pa_cons ha hr hs) fun σ H Q ⟨τ, M, Q0, E0, S, h⟩ => S.sub h fun d M1 v H1 h1 r1 S1 s1 => S1.sub h1 fun ds M2 vs H2 h2 r2 S2 s2 => S2.end_ h2 (.cons (r1.stp s2) r2)
theorem rep_lst {K : PySem.W.Frag} {M : Mu} {H : Hp} {p : Addr} {ds : List D} {vs : List V} (h : H p = some (.lst vs)) (m : M p = none) (r : Reps K M H ds vs) : Rep K M H (.lst ds) (.ref p) := by
  unfold Rep
  exact ⟨p, vs, rfl, h, m, r⟩
theorem rep_tup {K : PySem.W.Frag} {M : Mu} {H : Hp} {p : Addr} {ds : List D} {vs : List V} (h : H p = some (.tup vs)) (m : M p = none) (r : Reps K M H ds vs) : Rep K M H (.tup ds) (.ref p) := by
  unfold Rep
  exact ⟨p, vs, rfl, .inl ⟨h, m⟩, r⟩
/-- a new list, not to be changed -/
theorem new_lst {K : PySem.W.Frag} {M : Mu} {H : Hp} {ds : List D} {vs : List V} {Q0 : DK} {Q : VK} (c : Cor K M H) (r : Reps K M H ds vs) (h : Q0 (.lst ds) M)
    (q : ∀ d M' z H', Q0 d M' → Rep K M' H' d z → Cor K M' H' → Stp M H M' H' → Q z H') (p : Addr) (hp : H p = none) : Q (.ref p) (upd H p (.lst vs)) :=
  q _ M _ _ h (rep_lst upd_same (c.free hp) (r.stp (Stp.new hp))) (c.new hp) (Stp.new hp)
theorem new_tup {K : PySem.W.Frag} {M : Mu} {H : Hp} {ds : List D} {vs : List V} {Q0 : DK} {Q : VK} (c : Cor K M H) (r : Reps K M H ds vs) (h : Q0 (.tup ds) M)
    (q : ∀ d M' z H', Q0 d M' → Rep K M' H' d z → Cor K M' H' → Stp M H M' H' → Q z H') (p : Addr) (hp : H p = none) : Q (.ref p) (upd H p (.tup vs)) :=
  q _ M _ _ h (rep_tup upd_same (c.free hp) (r.stp (Stp.new hp))) (c.new hp) (Stp.new hp)
theorem new_lstM {K : PySem.W.Frag} {M : Mu} {H : Hp} {ds : List D} {vs : List V} {Q0 : DK} {Q : VK} (c : Cor K M H) (r : Reps K M H ds vs) (h : ∀ p, M p = none → Q0 (.ref p) (put M p (.lst ds)))
    (q : ∀ d M' z H', Q0 d M' → Rep K M' H' d z → Cor K M' H' → Stp M H M' H' → Q z H') (p : Addr) (hp : H p = none) : Q (.ref p) (upd H p (.lst vs)) :=
  q _ _ _ _ (h p (c.free hp)) rfl (c.newM hp ⟨vs, rfl, r⟩) (Stp.newM hp)
theorem de_lst (h : DA X W es tl) : DE X W (.List es pos) (dLst tl) := PE.of (pe_lst h) fun σ H Q ⟨τ, M, Q0, E0, S, h⟩ => S.sub h fun ds M1 vs H1 h1 r1 S1 s1 =>
  ⟨by rw [r1.length, line24]; exact h1.1, new_lst S1.co r1 h1.2 S1.q⟩
theorem de_lstM (h : DA X W es tl) : DE X W (.List es pos) (dLstM tl) := PE.of (pe_lst h) fun σ H Q ⟨τ, M, Q0, E0, S, h⟩ => S.sub h fun ds M1 vs H1 h1 r1 S1 s1 =>
  ⟨by rw [r1.length, line24]; exact h1.1, new_lstM S1.co r1 h1.2 S1.q⟩
theorem de_tup {x1 : Nat} (h : DA X W es tl) : DE X W (.Tuple es x1 pos) (dTup tl) := PE.of (pe_tup h) fun σ H Q ⟨τ, M, Q0, E0, S, h⟩ => S.sub h fun ds M1 vs H1 h1 r1 S1 s1 =>
  ⟨by rw [r1.length, line24]; exact h1.1, new_tup S1.co r1 h1.2 S1.q⟩
/-- what may change is to change no more (nothing is done) -/
def dFrz (te : DTE) : DTE := fun τ M Q E => te τ M (fun d M1 => match d with
  | .ref a => (match M1 a with
    | some (.lst ds) => Q (.lst ds) (del M1 a)
    | _ => False)
  | _ => False) E
theorem de_frz (h : DE X W e te) : DE X W e (dFrz te) := PE.of h fun σ H Q ⟨τ, M, Q0, E0, S, h⟩ => S.sub h fun d M1 v H1 h1 r1 S1 s1 => by
  cases d with
  | ref a =>
    cases r1
    have h2 : (match M1 a with
      | some (.lst ds) => Q0 (.lst ds) (del M1 a)
      | _ => False) := h1
    cases q : M1 a with
    | none => rw [q] at h2; exact h2.elim
    | some mo =>
      rw [q] at h2
      cases mo with
      | lst ds =>
        obtain ⟨o, e1, vs, e2, r⟩ := S1.co a _ q
        subst e2
        exact S1.q _ _ _ _ h2 (rep_lst e1 del_same (r.stp Stp.frz)) S1.co.frz Stp.frz
      | _ => exact h2.elim
  | _ => exact h1.elim

/-! ### calls -/
abbrev DSp := List D → Mu → DK → DX → Prop
def lsp (K : PySem.W.Frag) (sp : DSp) : Sp := fun vs H Q E => ∃ ds M Q0 E0, Reps K M H ds vs ∧ Cor K M H ∧ sp ds M Q0 E0 ∧ (∀ d M' v H', Q0 d M' → Rep K M' H' d v → Cor K M' H' → Stp M H M' H' → Q v H') ∧
  ∀ x M' c d H', E0 x M' → RepX K M' H' x c d → Cor K M' H' → Stp M H M' H' → E c d H'
/-- the module's name x is a def that keeps sp -/
structure FnM (P : Program) (w : World) (K : PySem.W.Frag) (mg : Str → Option Value) (base : Heap) (k : Nat) (x : Str) (sp : DSp) : Prop where
  ex : ∃ f fd ps, FnOk P w K mg base (L2.CX P w) k f fd ps (lsp K sp) ∧ mg x = some (.ref f) ∧ PySem.W.keepIn K (.ref f) = true ∧ Binds K fd ps []
def dCall (sp : DSp) (ta : DTA) : DTE := fun τ M Q E => ta τ M (fun ds M1 => sp ds M1 Q E) E
theorem de_call {k : Nat} {x : Str} {sp : DSp} {p : Pos} (F : FnM X.prog X.w X.K X.mg X.base k x sp) (G : Gd X W) (hr : Room k X.A) (ha : DA X W (e :: es) tl) (hg : Gl X x := by rfl) (hdb : (x == ("__debug__" : Str)) = false := by decide)
    (he : starEach (e :: es) X.env = (false, eval e X.env) :: starEach es X.env := by rfl) (hpl : (backTo pos (starEach es X.env)).any (·.1) = false := by rfl) : DE X W (.Call (.Name x p) (e :: es) [] pos) (dCall sp tl) := by
  obtain ⟨f, fd, ps, Fk, hm, hk, hb⟩ := F.ex
  exact PE.of (pe_callS Fk hr hg hm hk hb (E := WE W) (passAt G.tk) ha hdb he hpl) fun σ H Q ⟨τ, M, Q0, E0, S, h⟩ => S.sub h fun ds M1 vs H1 h1 r1 S1 s1 =>
    ⟨ds, M1, Q0, E0, r1, S1.co, h1, S1.q, S1.e⟩

/-! ### subscripts, slices -/
def cut {α : Type} (xs : List α) (lo hi : Option Int) : List α := (xs.drop (HT.sIx xs.length 0 lo)).take (HT.sIx xs.length xs.length hi - HT.sIx xs.length 0 lo)
abbrev DTO := DR (Option Int)
abbrev RO : Mu → Hp → Option Int → Option Int → Prop := fun _ _ a b => b = a
abbrev DO (X : Cx) (W : WX) (e : Option Expr) (t : DTO) : Prop := PO X e (lif X.K W RO t)
theorem PO.of {X : Cx} {e : Option Expr} {t t0 : TO} (h : PO X e t0) (k : ∀ σ H Q, t σ H Q → t0 σ H Q) : PO X e t := ⟨fun pins s σ H Q I q => h.run pins s σ H Q I (k σ H Q q)⟩
def doNone : DTO := fun _ M Q _ => Q none M
def doSome (te : DTE) : DTO := fun τ M Q E => te τ M (fun d M1 => match d with
  | .int i => Q (some i) M1
  | _ => False) E
theorem do_none : DO X W none doNone := PO.of po_none fun σ H Q ⟨τ, M, Q0, E0, S, h⟩ => S.end_ h rfl
theorem do_some (h : DE X W e te) : DO X W (some e) (doSome te) := PO.of (po_some h) fun σ H Q ⟨τ, M, Q0, E0, S, h⟩ => S.sub h fun d M1 v H1 h1 r1 S1 s1 => by
  cases d with
  | int i => exact ⟨i, r1, S1.end_ h1 rfl⟩
  | _ => exact h1.elim
def gSl (d : D) (lo hi : Option Int) (M : Mu) (Q : DK) : Prop := match d with
  | .str x => x.length ≤ 16777216 ∧ Q (.str (cut x lo hi)) M
  | .lst ds => Q (.lst (cut ds lo hi)) M
  | .tup ds => ¬ (HT.sIx ds.length 0 lo = 0 ∧ HT.sIx ds.length ds.length hi = ds.length) ∧ Q (.tup (cut ds lo hi)) M
  | .ref a => (match M a with
    | some (.lst ds) => Q (.lst (cut ds lo hi)) M
    | _ => False)
  | _ => False
def dSl (te : DTE) (tl th : DTO) : DTE := fun τ M Q E => te τ M (fun d M1 => tl τ M1 (fun lo M2 => th τ M2 (fun hi M3 => gSl d lo hi M3 Q) E) E) E
theorem cut_rep {K : PySem.W.Frag} {M : Mu} {H : Hp} {ds : List D} {vs : List V} (lo hi : Option Int) (r : Reps K M H ds vs) : Reps K M H (cut ds lo hi) (cutV vs lo hi) := by
  unfold cut cutV
  rw [r.length]
  exact (r.drop _).take _
theorem de_sl {lo hi : Option Expr} {tl th : DTO} {p2 : Pos} (he : DE X W e te) (hl : DO X W lo tl) (hu : DO X W hi th) : DE X W (.Subscript e (.Slice lo hi none p2) pos) (dSl te tl th) :=
  PE.of (pe_slice (sl_list.or (sl_str.or sl_tup)) he hl hu) fun σ H Q ⟨τ, M, Q0, E0, S, h⟩ => S.sub h fun d M1 v H1 h1 r1 S1 s1 => S1.sub h1 fun l M2 v2 H2 h2 r2 S2 s2 => S2.sub h2 fun u M3 v3 H3 h3 r3 S3 s3 => by
    cases r2
    cases r3
    have r := r1.stp (s2.trans s3)
    cases d with
    | str x =>
      cases r
      refine .inr (.inl ⟨sx x, rfl, by rw [sx_len, line24]; exact h3.1, S3.end_ h3.2 ?_⟩)
      show V.str (cutS (sx x) l u) = V.str (sx (cut x l u))
      unfold cutS cut
      rw [sx_len]
      rfl
    | lst ds =>
      obtain ⟨a, vs, e, hh, hm, hr⟩ := (show ∃ a vs, _ from r)
      exact .inl ⟨a, vs, e, .inl (.inl hh), new_lst S3.co (cut_rep l u hr) h3 S3.q⟩
    | tup ds =>
      obtain ⟨a, vs, e, hh, hr⟩ := (show ∃ a vs, _ from r)
      exact .inr (.inr ⟨a, vs, e, hh.elim (fun q => .inl (.inl q.1)) .inr, by rw [hr.length]; exact h3.1, new_tup S3.co (cut_rep l u hr) h3.2 S3.q⟩)
    | ref a =>
      cases r
      have h2 : (match M3 a with
        | some (.lst ds) => Q0 (.lst (cut ds l u)) M3
        | _ => False) := h3
      cases q : M3 a with
      | none => rw [q] at h2; exact h2.elim
      | some mo =>
        rw [q] at h2
        cases mo with
        | lst ds =>
          obtain ⟨o, e1, vs, e2, hr⟩ := S3.co a _ q
          subst e2
          exact .inl ⟨a, vs, rfl, .inl (.inl e1), new_lst S3.co (cut_rep l u hr) h2 S3.q⟩
        | _ => exact h2.elim
    | _ => exact h3.elim
end
end DL

namespace DL
open PySem L2

/-! ### operators -/
def gAdd : DOp := fun x y M Q => match x, y with
  | .int i, .int j => Q (.int (i + j)) M
  | .str a, .str b => a.length + b.length ≤ 16777216 ∧ Q (.str (a ++ b)) M
  | .lst a, .lst b => a.length + b.length ≤ 16777216 ∧ Q (.lst (a ++ b)) M
  | .tup a, .tup b => a ≠ [] ∧ a.length + b.length ≤ 16777216 ∧ Q (.tup (a ++ b)) M
  | .ref p, .lst b => (match M p with
    | some (.lst a) => a.length + b.length ≤ 16777216 ∧ Q (.lst (a ++ b)) M
    | _ => False)
  | .lst a, .ref p => (match M p with
    | some (.lst b) => a.length + b.length ≤ 16777216 ∧ Q (.lst (a ++ b)) M
    | _ => False)
  | _, _ => False
def gSub : DOp := fun x y M Q => match x, y with
  | .int i, .int j => Q (.int (i - j)) M
  | _, _ => False
def gMul : DOp := fun x y M Q => match x, y with
  | .int i, .int j => CMul i j ∧ Q (.int (i * j)) M
  | _, _ => False
def gDiv : DOp := fun x y M Q => match x, y with
  | .int i, .int j => CDiv i j ∧ Q (.int (i / j)) M
  | _, _ => False
def gMod : DOp := fun x y M Q => match x, y with
  | .int i, .int j => 0 < j ∧ Q (.int (i % j)) M
  | _, _ => False
def gPow : DOp := fun x y M Q => match x, y with
  | .int i, .int j => CPow i j ∧ Q (.int (i ^ j.toNat)) M
  | _, _ => False
def gNeg : DUn := fun x M Q => match x with
  | .int i => Q (.int (-i)) M
  | _ => False
def gInt (p : Int → Int → Bool) : DOp := fun x y M Q => match x, y with
  | .int i, .int j => Q (.bl (p i j)) M
  | _, _ => False
abbrev gLt : DOp := gInt fun i j => decide (i < j)
abbrev gLe : DOp := gInt fun i j => decide (i ≤ j)
abbrev gGt : DOp := gInt fun i j => decide (j < i)
abbrev gGe : DOp := gInt fun i j => decide (j ≤ i)
section
variable {K : PySem.W.Frag}
theorem od_int {g : Int → Int → V} {gd : Int → Int → D} (hg : ∀ i j M H, Rep K M H (gd i j) (g i j)) {f : DOp} (hf : ∀ x y M Q, f x y M Q → ∃ i j, x = .int i ∧ y = .int j ∧ Q (gd i j) M) : OpD K f (rI0 g) :=
  fun M H x y v u Q0 Q c rx ry h q => by
    obtain ⟨i, j, rfl, rfl, h'⟩ := hf x y M Q0 h
    cases rx; cases ry
    exact ⟨i, j, rfl, rfl, q _ M _ H h' (hg i j M H) c (Stp.refl M H)⟩
theorem od_intC {C : Int → Int → Prop} {g : Int → Int → V} {gd : Int → Int → D} (hg : ∀ i j M H, Rep K M H (gd i j) (g i j)) {f : DOp} (hf : ∀ x y M Q, f x y M Q → ∃ i j, x = .int i ∧ y = .int j ∧ C i j ∧ Q (gd i j) M) : OpD K f (rI C g) :=
  fun M H x y v u Q0 Q c rx ry h q => by
    obtain ⟨i, j, rfl, rfl, hc, h'⟩ := hf x y M Q0 h
    cases rx; cases ry
    exact ⟨i, j, rfl, rfl, hc, q _ M _ H h' (hg i j M H) c (Stp.refl M H)⟩
theorem od_sub : OpD K gSub (rI0 fun i j => .int (i - j)) := od_int (gd := fun i j => .int (i - j)) (fun _ _ _ _ => rfl) fun x y M Q h => by
  cases x <;> cases y <;> first | exact ⟨_, _, rfl, rfl, h⟩ | exact h.elim
theorem od_mul : OpD K gMul (rI CMul fun i j => .int (i * j)) := od_intC (gd := fun i j => .int (i * j)) (fun _ _ _ _ => rfl) fun x y M Q h => by
  cases x <;> cases y <;> first | exact ⟨_, _, rfl, rfl, h⟩ | exact h.elim
theorem od_div : OpD K gDiv (rI CDiv fun i j => .int (i / j)) := od_intC (gd := fun i j => .int (i / j)) (fun _ _ _ _ => rfl) fun x y M Q h => by
  cases x <;> cases y <;> first | exact ⟨_, _, rfl, rfl, h⟩ | exact h.elim
theorem od_mod : OpD K gMod (rI (fun _ j => 0 < j) fun i j => .int (i % j)) := od_intC (gd := fun i j => .int (i % j)) (fun _ _ _ _ => rfl) fun x y M Q h => by
  cases x <;> cases y <;> first | exact ⟨_, _, rfl, rfl, h⟩ | exact h.elim
theorem od_pow : OpD K gPow (rI CPow fun i j => .int (i ^ j.toNat)) := od_intC (gd := fun i j => .int (i ^ j.toNat)) (fun _ _ _ _ => rfl) fun x y M Q h => by
  cases x <;> cases y <;> first | exact ⟨_, _, rfl, rfl, h⟩ | exact h.elim
theorem od_b {p : Int → Int → Bool} : OpD K (gInt p) (rI0 fun i j => .bl (p i j)) := od_int (gd := fun i j => .bl (p i j)) (fun _ _ _ _ => rfl) fun x y M Q h => by
  cases x <;> cases y <;> first | exact ⟨_, _, rfl, rfl, h⟩ | exact h.elim
theorem ud_neg : UnD K gNeg (rU fun i => .int (-i)) := fun M H x v Q0 Q c r h q => by
  cases x with
  | int i => cases r; exact ⟨i, rfl, q _ M _ H h rfl c (Stp.refl M H)⟩
  | _ => exact h.elim
def rAddA (K : PySem.W.Frag) : R2 := fun x y H Q => (rI0 (fun i j => .int (i + j)) x y H Q ∨ (∃ i j, x = .str i ∧ y = .str j ∧ i.length + j.length ≤ sizeLine ∧ Q (.str (i ++ j)) H)) ∨ (rCat x y H Q ∨ rCatT K x y H Q)
theorem op_addA {X : Cx} : OpR X (binaryOp .Add) (rAddA X.K) := (op_add.or op_add_str).or (op_cat.or op_catT)
theorem rep_of_lst {M : Mu} {H : Hp} {ds : List D} {v : V} (r : Rep K M H (.lst ds) v) : ∃ a vs, v = .ref a ∧ H a = some (.lst vs) ∧ M a = none ∧ Reps K M H ds vs := r
theorem rep_of_tup {M : Mu} {H : Hp} {ds : List D} {v : V} (r : Rep K M H (.tup ds) v) : ∃ a vs, v = .ref a ∧ ((H a = some (.tup vs) ∧ M a = none) ∨ WrT K a vs) ∧ Reps K M H ds vs := r
theorem sqT_of {H : Hp} {M : Mu} {a : Addr} {vs : List V} (h : (H a = some (.tup vs) ∧ M a = none) ∨ WrT K a vs) : SqT K H a vs := h.elim (fun q => .inl (.inl q.1)) .inr
theorem mu_lst {M : Mu} {H : Hp} {a : Addr} {ds : List D} (c : Cor K M H) (h : M a = some (.lst ds)) : ∃ vs, H a = some (.lst vs) ∧ Reps K M H ds vs := by
  obtain ⟨o, e1, vs, e2, hr⟩ := c a _ h
  exact ⟨vs, by rw [e1, e2], hr⟩
theorem mu_dK {M : Mu} {H : Hp} {a : Addr} {kvs : List (DKey × D)} (c : Cor K M H) (h : M a = some (.dK kvs)) : ∃ ks, H a = some (.dK ks) ∧ ks.map (·.1) = kvs.map (fun q => kO q.1) ∧ Reps K M H (kvs.map (·.2)) (ks.map (·.2)) := by
  obtain ⟨o, e1, ks, e2, e3, hr⟩ := c a _ h
  exact ⟨ks, by rw [e1, e2], e3, hr⟩
theorem mu_fK {M : Mu} {H : Hp} {a : Addr} {kvs : List (DKey × D)} {u : HO} (c : Cor K M H) (h : M a = some (.fK kvs u)) : ∃ od ks, H a = some (.frz od (.dK ks)) ∧ u = .frz od (.dK ks) ∧ ks.map (·.1) = kvs.map (fun q => kO q.1) ∧ Reps K M H (kvs.map (·.2)) (ks.map (·.2)) := by
  obtain ⟨o, e1, e0, od, ks, e2, e3, hr⟩ := c a _ h
  exact ⟨od, ks, by rw [e1, e0, e2], e2, e3, hr⟩
/-- either of the two -/
theorem mu_dR {M : Mu} {H : Hp} {a : Addr} {mo : MO} {kvs : List (DKey × D)} (c : Cor K M H) (h : M a = some mo) (hk : dOf mo = some kvs) : ∃ ks, Rd H a (.dK ks) ∧ ks.map (·.1) = kvs.map (fun q => kO q.1) ∧ Reps K M H (kvs.map (·.2)) (ks.map (·.2)) := by
  cases mo with
  | dK l =>
    cases hk
    obtain ⟨ks, h1, h2, h3⟩ := mu_dK c h
    exact ⟨ks, .inl h1, h2, h3⟩
  | fK l u =>
    cases hk
    obtain ⟨od, ks, h1, _, h2, h3⟩ := mu_fK c h
    exact ⟨ks, .inr ⟨od, h1⟩, h2, h3⟩
  | _ => cases hk
theorem od_add : OpD K gAdd (rAddA K) := fun M H x y v u Q0 Q c rx ry h q => by
  cases x with
  | int i =>
    cases y with
    | int j =>
      cases rx; cases ry
      exact .inl (.inl ⟨i, j, rfl, rfl, q _ M _ H h rfl c (Stp.refl M H)⟩)
    | _ => exact h.elim
  | str i =>
    cases y with
    | str j =>
      cases rx; cases ry
      refine .inl (.inr ⟨sx i, sx j, rfl, rfl, by rw [sx_len, sx_len, line24]; exact h.1, ?_⟩)
      rw [sx_add]
      exact q _ M _ H h.2 rfl c (Stp.refl M H)
    | _ => exact h.elim
  | lst xs =>
    obtain ⟨a, vs, rfl, ha, ma, ra⟩ := rep_of_lst rx
    cases y with
    | lst ys =>
      obtain ⟨b, us, rfl, hb, mb, rb⟩ := rep_of_lst ry
      exact .inr (.inl ⟨a, b, vs, us, rfl, rfl, ha, hb, by rw [ra.length, rb.length, line24]; exact h.1, new_lst c (ra.append rb) h.2 q⟩)
    | ref b =>
      cases ry
      have h2 : (match M b with
        | some (.lst ys) => xs.length + ys.length ≤ 16777216 ∧ Q0 (.lst (xs ++ ys)) M
        | _ => False) := h
      cases e : M b with
      | none => rw [e] at h2; exact h2.elim
      | some mo =>
        rw [e] at h2
        cases mo with
        | lst ys =>
          obtain ⟨us, hb, rb⟩ := mu_lst c e
          exact .inr (.inl ⟨a, b, vs, us, rfl, rfl, ha, hb, by rw [ra.length, rb.length, line24]; exact h2.1, new_lst c (ra.append rb) h2.2 q⟩)
        | _ => exact h2.elim
    | _ => exact h.elim
  | tup xs =>
    obtain ⟨a, vs, rfl, ha, ra⟩ := rep_of_tup rx
    cases y with
    | tup ys =>
      obtain ⟨b, us, rfl, hb, rb⟩ := rep_of_tup ry
      refine .inr (.inr ⟨a, b, vs, us, rfl, rfl, sqT_of ha, sqT_of hb, ?_, by rw [ra.length, rb.length, line24]; exact h.2.1, fun z => ?_, fun _ => new_tup c (ra.append rb) h.2.2 q⟩)
      rotate_left
      · have l := rb.length
        rw [z] at l
        have e : ys = [] := List.eq_nil_of_length_eq_zero l.symm
        subst e
        have h3 := h.2.2
        rw [List.append_nil] at h3
        exact q _ M _ H h3 rx c (Stp.refl M H)
      intro z
      have := ra.length
      rw [z] at this
      exact h.1 (List.eq_nil_of_length_eq_zero this.symm)
    | _ => exact h.elim
  | ref a =>
    cases rx
    cases y with
    | lst ys =>
      obtain ⟨b, us, rfl, hb, mb, rb⟩ := rep_of_lst ry
      have h2 : (match M a with
        | some (.lst xs) => xs.length + ys.length ≤ 16777216 ∧ Q0 (.lst (xs ++ ys)) M
        | _ => False) := h
      cases e : M a with
      | none => rw [e] at h2; exact h2.elim
      | some mo =>
        rw [e] at h2
        cases mo with
        | lst xs =>
          obtain ⟨vs, ha, ra⟩ := mu_lst c e
          exact .inr (.inl ⟨a, b, vs, us, rfl, rfl, ha, hb, by rw [ra.length, rb.length, line24]; exact h2.1, new_lst c (ra.append rb) h2.2 q⟩)
        | _ => exact h2.elim
    | _ => exact h.elim
  | _ => exact h.elim

/-! ### == -/
mutual
def pd : D → PyData
  | .non => .none
  | .bl b => .bool b
  | .int i => .int i
  | .str x => .str (sx x)
  | .ref _ => .dict []
  | .ty _ => .dict []
  | .scr _ => .dict []
  | .cl _ => .dict []
  | .exc _ _ _ _ _ => .dict []
  | .lst ds => .list (pds ds)
  | .tup ds => .tuple (pds ds)
def pds : List D → List PyData
  | [] => []
  | d :: ds => pd d :: pds ds
end
mutual
/-- plain data: no object but lists and tuples -/
def plain : D → Bool
  | .ref _ => false
  | .ty _ => false
  | .scr _ => false
  | .cl _ => false
  | .exc _ _ _ _ _ => false
  | .lst ds => plains ds
  | .tup ds => plains ds
  | _ => true
def plains : List D → Bool
  | [] => true
  | d :: ds => plain d && plains ds
end
mutual
theorem dp_of {M : Mu} {H : Hp} : ∀ {d : D} {v : V}, plain d = true → Rep K M H d v → Dp K H v (pd d)
  | .non, v, _, r => by cases (show v = _ from r); exact .non
  | .bl _, v, _, r => by cases (show v = _ from r); exact .bl _
  | .int _, v, _, r => by cases (show v = _ from r); exact .int _
  | .str _, v, _, r => by cases (show v = _ from r); exact .str _
  | .ref _, _, h, _ => by cases h
  | .ty _, _, h, _ => by cases h
  | .scr _, _, h, _ => by cases h
  | .cl _, _, h, _ => by cases h
  | .exc _ _ _ _ _, _, h, _ => by cases h
  | .lst ds, v, h, r => by
    obtain ⟨a, vs, rfl, ha, _, ra⟩ := rep_of_lst r
    unfold pd
    exact .lst (.inl (.inl ha)) (dps_of h ra)
  | .tup ds, v, h, r => by
    obtain ⟨a, vs, rfl, ha, ra⟩ := rep_of_tup r
    unfold pd
    exact .tup (sqT_of ha) (dps_of h ra)
theorem dps_of {M : Mu} {H : Hp} : ∀ {ds : List D} {vs : List V}, plains ds = true → Reps K M H ds vs → DpAll K H vs (pds ds)
  | [], vs, _, r => by cases (show vs = [] from r); exact .nil
  | d :: ds, vs, h, r => by
    obtain ⟨v, u, rfl, r1, r2⟩ := r.uncons
    have h2 : plain d = true ∧ plains ds = true := by
      have : (plain d && plains ds) = true := h
      rwa [Bool.and_eq_true] at this
    exact .cons (dp_of h2.1 r1) (dps_of h2.2 r2)
end
/-- fit for == -/
def eqOk (d : D) : Bool := plain d && SeqAt.shaped (pd d)
/-- scalars of unlike kinds that are never equal -/
def unlike : D → D → Bool
  | .non, .int _ => true | .int _, .non => true | .non, .bl _ => true | .bl _, .non => true | .non, .str _ => true | .str _, .non => true
  | .int _, .str _ => true | .str _, .int _ => true | .bl _, .str _ => true | .str _, .bl _ => true
  | _, _ => false
def gEqN (nb : Bool → Bool) : DOp := fun x y M Q => match x, y with
  | .int i, .int j => Q (.bl (nb (decide (i = j)))) M
  | .str a, .str b => Q (.bl (nb (decide (a = b)))) M
  | .bl a, .bl b => Q (.bl (nb (decide (a = b)))) M
  | .non, .non => Q (.bl (nb true)) M
  | .lst a, .lst b => eqOk (.lst a) = true ∧ eqOk (.lst b) = true ∧ Q (.bl (nb (PyData.eqv (.list (pds a)) (.list (pds b))))) M
  | .tup a, .tup b => eqOk (.tup a) = true ∧ eqOk (.tup b) = true ∧ Q (.bl (nb (PyData.eqv (.tuple (pds a)) (.tuple (pds b))))) M
  | .ref p, .lst b => (match M p with
    | some (.lst a) => eqOk (.lst a) = true ∧ eqOk (.lst b) = true ∧ Q (.bl (nb (PyData.eqv (.list (pds a)) (.list (pds b))))) M
    | _ => False)
  | .lst a, .ref p => (match M p with
    | some (.lst b) => eqOk (.lst a) = true ∧ eqOk (.lst b) = true ∧ Q (.bl (nb (PyData.eqv (.list (pds a)) (.list (pds b))))) M
    | _ => False)
  | x, y => unlike x y = true ∧ Q (.bl (nb false)) M
abbrev gEq : DOp := gEqN id
abbrev gNe : DOp := gEqN not
def rEqN (nb : Bool → Bool) (K : PySem.W.Frag) : R2 := fun x y H Q => (scal x y = true ∧ Q (.bl (nb (decide (x = y)))) H) ∨ ∃ d e, Dp K H x d ∧ Dp K H y e ∧ SeqAt.shaped d = true ∧ SeqAt.shaped e = true ∧ Q (.bl (nb (PyData.eqv d e))) H
theorem op_eqN {X : Cx} {W : WX} (G : Gd X W) : OpR X (compareOp .Eq) (rEqN id X.K) := op_eq.or (op_eqD G.hu)
theorem op_neN {X : Cx} {W : WX} (G : Gd X W) : OpR X (compareOp .NotEq) (rEqN not X.K) := op_ne.or (op_neD G.hu)
theorem ba {a b : Bool} (h : (a && b) = true) : a = true ∧ b = true := Bool.and_eq_true_iff.mp h
theorem dp_mu {M : Mu} {H : Hp} {a : Addr} {ds : List D} (c : Cor K M H) (h : M a = some (.lst ds)) (p : plain (.lst ds) = true) : Dp K H (.ref a) (pd (.lst ds)) := by
  obtain ⟨vs, ha, ra⟩ := mu_lst c h
  unfold pd
  exact .lst (.inl (.inl ha)) (dps_of p ra)
theorem od_eq {nb : Bool → Bool} : OpD K (gEqN nb) (rEqN nb K) := fun M H x y v u Q0 Q c rx ry h q => by
  have fin : ∀ b, Q0 (.bl b) M → Q (.bl b) H := fun b z => q _ M _ H z rfl c (Stp.refl M H)
  have deep : ∀ {x y : D} {v u : V}, Dp K H v (pd x) → Dp K H u (pd y) → eqOk x = true → eqOk y = true → Q0 (.bl (nb (PyData.eqv (pd x) (pd y)))) M → rEqN nb K v u H Q := fun {x y v u} d1 d2 ex ey z =>
    .inr ⟨_, _, d1, d2, (ba ex).2, (ba ey).2, fin _ z⟩
  have un : ∀ b, unlike x y = true → b = false → Q0 (.bl (nb b)) M → scal v u = true → decide (v = u) = false → rEqN nb K v u H Q := fun b _ eb z s e => .inl ⟨s, by rw [e, ← eb]; exact fin _ z⟩
  cases x with
  | non => cases y <;> first
    | (cases rx; cases ry; exact .inl ⟨rfl, fin _ h⟩)
    | (cases rx; cases ry; exact .inl ⟨rfl, fin _ h.2⟩)
    | exact absurd h.1 Bool.false_ne_true
  | bl a => cases y <;> first
    | (cases rx; cases ry; refine .inl ⟨rfl, ?_⟩; rename_i b; rw [show decide (V.bl a = V.bl b) = decide (a = b) by simp]; exact fin _ h)
    | (cases rx; cases ry; exact .inl ⟨rfl, fin _ h.2⟩)
    | exact absurd h.1 Bool.false_ne_true
  | int a => cases y <;> first
    | (cases rx; cases ry; refine .inl ⟨rfl, ?_⟩; rename_i b; rw [show decide (V.int a = V.int b) = decide (a = b) by simp]; exact fin _ h)
    | (cases rx; cases ry; exact .inl ⟨rfl, fin _ h.2⟩)
    | exact absurd h.1 Bool.false_ne_true
  | str a => cases y <;> first
    | (cases rx; cases ry; refine .inl ⟨rfl, ?_⟩; rename_i b; rw [show decide (V.str (sx a) = V.str (sx b)) = decide (a = b) by
          rw [decide_eq_decide]; exact ⟨fun z => sx_inj (V.str.inj z), fun z => by rw [z]⟩]; exact fin _ h)
    | (cases rx; cases ry; exact .inl ⟨rfl, fin _ h.2⟩)
    | exact absurd h.1 Bool.false_ne_true
  | lst a => cases y with
    | lst b => exact deep (x := .lst a) (y := .lst b) (dp_of (ba h.1).1 rx) (dp_of (ba h.2.1).1 ry) h.1 h.2.1 (by unfold pd; exact h.2.2)
    | ref p =>
      cases ry
      have h2 : (match M p with
        | some (.lst b) => eqOk (.lst a) = true ∧ eqOk (.lst b) = true ∧ Q0 (.bl (nb (PyData.eqv (.list (pds a)) (.list (pds b))))) M
        | _ => False) := h
      cases e : M p with
      | none => rw [e] at h2; exact h2.elim
      | some mo =>
        rw [e] at h2
        cases mo with
        | lst b => exact deep (x := .lst a) (y := .lst b) (dp_of (ba h2.1).1 rx) (dp_mu c e (ba h2.2.1).1) h2.1 h2.2.1 (by unfold pd; exact h2.2.2)
        | _ => exact h2.elim
    | _ => exact absurd h.1 Bool.false_ne_true
  | tup a => cases y with
    | tup b => exact deep (x := .tup a) (y := .tup b) (dp_of (ba h.1).1 rx) (dp_of (ba h.2.1).1 ry) h.1 h.2.1 (by unfold pd; exact h.2.2)
    | _ => exact absurd h.1 Bool.false_ne_true
  | ref p => cases y with
    | lst b =>
      cases rx
      have h2 : (match M p with
        | some (.lst a) => eqOk (.lst a) = true ∧ eqOk (.lst b) = true ∧ Q0 (.bl (nb (PyData.eqv (.list (pds a)) (.list (pds b))))) M
        | _ => False) := h
      cases e : M p with
      | none => rw [e] at h2; exact h2.elim
      | some mo =>
        rw [e] at h2
        cases mo with
        | lst a => exact deep (x := .lst a) (y := .lst b) (dp_mu c e (ba h2.1).1) (dp_of (ba h2.2.1).1 ry) h2.1 h2.2.1 (by unfold pd; exact h2.2.2)
        | _ => exact h2.elim
    | _ => exact absurd h.1 Bool.false_ne_true
  | ty _ => cases y <;> exact absurd h.1 Bool.false_ne_true
  | scr _ => cases y <;> exact absurd h.1 Bool.false_ne_true
  | cl _ => cases y <;> exact absurd h.1 Bool.false_ne_true
  | exc _ _ _ _ _ => cases y <;> exact absurd h.1 Bool.false_ne_true
end
end DL

namespace DL
open PySem L2

/-! ### a[i] -/
def lookK (kvs : List (DKey × D)) (k : DKey) : Option D := (kvs.find? fun q => decide (q.1 = k)).map (·.2)
def gIx : DOp := fun x y M Q => match x, y with
  | .lst ds, .int i => (match atI ds i with
    | some d => Q d M
    | none => False)
  | .tup ds, .int i => (match atI ds i with
    | some d => Q d M
    | none => False)
  | .str x, .int i => x.length ≤ 16777216 ∧ (match atI x i with
    | some c => Q (.str [c]) M
    | none => False)
  | .ref a, .int i => (match M a with
    | some (.lst ds) => (match atI ds i with
      | some d => Q d M
      | none => False)
    | some (.dK kvs) => (match lookK kvs (.inl i) with
      | some d => Q d M
      | none => False)
    | some (.fK kvs _) => (match lookK kvs (.inl i) with
      | some d => Q d M
      | none => False)
    | _ => False)
  | .ref a, .str x => (match M a with
    | some (.dK kvs) => (match lookK kvs (.inr x) with
      | some d => Q d M
      | none => False)
    | some (.fK kvs _) => (match lookK kvs (.inr x) with
      | some d => Q d M
      | none => False)
    | _ => False)
  | _, _ => False
section
variable {K : PySem.W.Frag} {M : Mu} {H : Hp}
theorem atI_rep {ds : List D} {vs : List V} {i : Int} {d : D} (r : Reps K M H ds vs) (h : atI ds i = some d) : ∃ v, atI vs i = some v ∧ Rep K M H d v := by
  unfold atI at h ⊢
  rw [r.length]
  cases e : ixN ds.length i with
  | none => rw [e] at h; cases h
  | some j =>
    rw [e] at h
    exact r.get h
theorem kO_dec (a b : DKey) : decide (kO a = kO b) = decide (a = b) := decide_eq_decide.mpr ⟨kO_inj, fun e => by rw [e]⟩
theorem look_rep {k : DKey} : ∀ {kvs : List (DKey × D)} {ks : List (Key × V)}, ks.map (·.1) = kvs.map (fun q => kO q.1) → Reps K M H (kvs.map (·.2)) (ks.map (·.2)) →
    match lookK kvs k with
    | some d => ∃ v, valV ks (kO k) = some v ∧ Rep K M H d v
    | none => valV ks (kO k) = none
  | [], [], _, _ => rfl
  | [], _ :: _, h, _ => by cases h
  | _ :: _, [], h, _ => by cases h
  | (a, d) :: kvs, (b, v) :: ks, h, r => by
    have h1 : b = kO a ∧ ks.map (·.1) = kvs.map (fun q => kO q.1) := by
      simp only [List.map_cons, List.cons.injEq] at h
      exact h
    obtain ⟨v', u', e, r1, r2⟩ := r.uncons
    have e2 : v = v' ∧ ks.map (·.2) = u' := by
      simp only [List.map_cons, List.cons.injEq] at e
      exact e
    have ih := look_rep (k := k) h1.2 (by rw [e2.2]; exact r2)
    unfold lookK valV
    rw [List.find?_cons, List.find?_cons]
    show match Option.map (fun z : DKey × D => z.2) (match decide (a = k) with | true => some (a, d) | false => kvs.find? fun q => decide (q.1 = k)) with
      | some d => ∃ w, Option.map (fun z : Key × V => z.2) (match decide (b = kO k) with | true => some (b, v) | false => ks.find? fun q => decide (q.1 = kO k)) = some w ∧ Rep K M H d w
      | none => _
    rw [h1.1, kO_dec]
    cases q : decide (a = k) with
    | true => exact ⟨v, rfl, by rw [e2.1]; exact r1⟩
    | false => exact ih
end
def rIxA (K : PySem.W.Frag) : R2 := fun x y H Q => (rIx K x y H Q) ∨ ∃ a v, x = .ref a ∧ DGet H a y (some v) ∧ Q v H
theorem ix_dict {X : Cx} {W : WX} (G : Gd X W) : IxR X (fun x y H Q => ∃ a v, x = .ref a ∧ DGet H a y (some v) ∧ Q v H) := by
  intro value slice pins s σ H x y v u Q I rx ry h hs
  obtain ⟨a, w, rfl, g, q⟩ := h
  cases rx
  exact PyProof.Rows.tail_any (dict_typeIs I g) PySem.F.slot_dict_getitem.lookup (d_getItem G.hu1 I g ry fun w' s3 I3 rw' => ⟨w, H, I3, rw', q⟩) hs
section
variable {K : PySem.W.Frag}
theorem od_ix : OpD K gIx (rIxA K) := fun M H x y v u Q0 Q c rx ry h q => by
  have fin : ∀ d w, Q0 d M → Rep K M H d w → Q w H := fun d w z r => q _ M _ H z r c (Stp.refl M H)
  cases x with
  | lst ds =>
    cases y with
    | int i =>
      obtain ⟨a, vs, rfl, ha, ma, ra⟩ := rep_of_lst rx
      cases ry
      have h2 : (match atI ds i with
        | some d => Q0 d M
        | none => False) := h
      cases e : atI ds i with
      | none => rw [e] at h2; exact h2.elim
      | some d =>
        rw [e] at h2
        obtain ⟨w, e2, r2⟩ := atI_rep ra e
        exact .inl (.inl ⟨a, vs, i, w, rfl, rfl, .inl (.inl ha), e2, fin d w h2 r2⟩)
    | _ => exact h.elim
  | tup ds =>
    cases y with
    | int i =>
      obtain ⟨a, vs, rfl, ha, ra⟩ := rep_of_tup rx
      cases ry
      have h2 : (match atI ds i with
        | some d => Q0 d M
        | none => False) := h
      cases e : atI ds i with
      | none => rw [e] at h2; exact h2.elim
      | some d =>
        rw [e] at h2
        obtain ⟨w, e2, r2⟩ := atI_rep ra e
        exact .inl (.inr (.inl ⟨a, vs, i, w, rfl, rfl, sqT_of ha, e2, fin d w h2 r2⟩))
    | _ => exact h.elim
  | str x =>
    cases y with
    | int i =>
      cases rx; cases ry
      obtain ⟨h1, h2⟩ : x.length ≤ 16777216 ∧ (match atI x i with
        | some c => Q0 (.str [c]) M
        | none => False) := h
      cases e : atI x i with
      | none => rw [e] at h2; exact h2.elim
      | some d =>
        rw [e] at h2
        exact .inl (.inr (.inr ⟨sx x, i, d, rfl, rfl, by rw [sx_len, line24]; exact h1, e, fin _ _ h2 rfl⟩))
    | _ => exact h.elim
  | ref a =>
    cases rx
    cases y with
    | int i =>
      cases ry
      have h2 : (match M a with
        | some (.lst ds) => (match atI ds i with
          | some d => Q0 d M
          | none => False)
        | some (.dK kvs) => (match lookK kvs (.inl i) with
          | some d => Q0 d M
          | none => False)
        | some (.fK kvs _) => (match lookK kvs (.inl i) with
          | some d => Q0 d M
          | none => False)
        | _ => False) := h
      cases e : M a with
      | none => rw [e] at h2; exact h2.elim
      | some mo =>
        rw [e] at h2
        cases mo with
        | lst ds =>
          obtain ⟨vs, ha, ra⟩ := mu_lst c e
          have h3 : (match atI ds i with
            | some d => Q0 d M
            | none => False) := h2
          cases e : atI ds i with
          | none => rw [e] at h3; exact h3.elim
          | some d =>
            rw [e] at h3
            obtain ⟨w, e2, r2⟩ := atI_rep ra e
            exact .inl (.inl ⟨a, vs, i, w, rfl, rfl, .inl (.inl ha), e2, fin d w h3 r2⟩)
        | dK kvs =>
          obtain ⟨ks, ha, ek, ra⟩ := mu_dK c e
          have h3 : (match lookK kvs (.inl i) with
            | some d => Q0 d M
            | none => False) := h2
          have l := look_rep (k := .inl i) ek ra
          cases e : lookK kvs (.inl i) with
          | none => rw [e] at h3; exact h3.elim
          | some d =>
            rw [e] at h3 l
            obtain ⟨w, e2, r2⟩ := l
            exact .inr ⟨a, w, rfl, .inl ⟨ks, .inl i, .inl ha, rfl, e2.symm⟩, fin d w h3 r2⟩
        | fK kvs fu =>
          obtain ⟨od, ks, ha, _, ek, ra⟩ := mu_fK c e
          have h3 : (match lookK kvs (.inl i) with
            | some d => Q0 d M
            | none => False) := h2
          have l := look_rep (k := .inl i) ek ra
          cases e : lookK kvs (.inl i) with
          | none => rw [e] at h3; exact h3.elim
          | some d =>
            rw [e] at h3 l
            obtain ⟨w, e2, r2⟩ := l
            exact .inr ⟨a, w, rfl, .inl ⟨ks, .inl i, .inr ⟨od, ha⟩, rfl, e2.symm⟩, fin d w h3 r2⟩
        | _ => exact h2.elim
    | str x =>
      cases ry
      have h2 : (match M a with
        | some (.dK kvs) => (match lookK kvs (.inr x) with
          | some d => Q0 d M
          | none => False)
        | some (.fK kvs _) => (match lookK kvs (.inr x) with
          | some d => Q0 d M
          | none => False)
        | _ => False) := h
      cases e : M a with
      | none => rw [e] at h2; exact h2.elim
      | some mo =>
        rw [e] at h2
        cases mo with
        | dK kvs =>
          obtain ⟨ks, ha, ek, ra⟩ := mu_dK c e
          have h3 : (match lookK kvs (.inr x) with
            | some d => Q0 d M
            | none => False) := h2
          have l := look_rep (k := .inr x) ek ra
          cases e : lookK kvs (.inr x) with
          | none => rw [e] at h3; exact h3.elim
          | some d =>
            rw [e] at h3 l
            obtain ⟨w, e2, r2⟩ := l
            exact .inr ⟨a, w, rfl, .inl ⟨ks, .inr (sx x), .inl ha, rfl, e2.symm⟩, fin d w h3 r2⟩
        | fK kvs fu =>
          obtain ⟨od, ks, ha, _, ek, ra⟩ := mu_fK c e
          have h3 : (match lookK kvs (.inr x) with
            | some d => Q0 d M
            | none => False) := h2
          have l := look_rep (k := .inr x) ek ra
          cases e : lookK kvs (.inr x) with
          | none => rw [e] at h3; exact h3.elim
          | some d =>
            rw [e] at h3 l
            obtain ⟨w, e2, r2⟩ := l
            exact .inr ⟨a, w, rfl, .inl ⟨ks, .inr (sx x), .inr ⟨od, ha⟩, rfl, e2.symm⟩, fin d w h3 r2⟩
        | _ => exact h2.elim
    | _ => exact h.elim
  | _ => exact h.elim
end
section
variable {X : Cx} {W : WX} {a b c e o : Expr} {rest es : List Expr} {ta tb tc te to : DTE} {tl : DTA} {pos apos cpos p : Pos}
theorem de_ix (G : Gd X W) (ha : DE X W a ta) (hb : DE X W b tb) (hs : PlainIx b := by intro _ _; rfl) : DE X W (.Subscript a b pos) (dOp gIx ta tb) :=
  PE.of (pe_ix ((ix_seq).or (ix_dict G)) ha hb hs) fun _ _ _ h => lif_op od_ix h

/-! ### in -/
def flatD : D → Bool
  | .non => true
  | .bl _ => true
  | .int _ => true
  | .str _ => true
  | _ => false
def eqF : D → D → Bool
  | .non, .non => true
  | .bl a, .bl b => a == b
  | .bl a, .int b => (if a then 1 else 0) == b
  | .int a, .bl b => a == (if b then 1 else 0)
  | .int a, .int b => a == b
  | .str a, .str b => a == b
  | _, _ => false
def inD (x : D) (ys : List D) : Bool := ys.any fun y => eqF y x
def gInN (nb : Bool → Bool) : DOp := fun x y M Q => match x, y with
  | .str [c], .str z => Q (.bl (nb (decide (c ∈ z)))) M
  | x, .lst ys => flatD x = true ∧ ys.all flatD = true ∧ Q (.bl (nb (inD x ys))) M
  | x, .tup ys => flatD x = true ∧ ys.all flatD = true ∧ Q (.bl (nb (inD x ys))) M
  | .int i, .ref a => (match M a with
    | some (.lst ys) => ys.all flatD = true ∧ Q (.bl (nb (inD (.int i) ys))) M
    | some (.dK kvs) => Q (.bl (nb (lookK kvs (.inl i)).isSome)) M
    | some (.fK kvs _) => Q (.bl (nb (lookK kvs (.inl i)).isSome)) M
    | _ => False)
  | .str x, .ref a => (match M a with
    | some (.lst ys) => ys.all flatD = true ∧ Q (.bl (nb (inD (.str x) ys))) M
    | some (.dK kvs) => Q (.bl (nb (lookK kvs (.inr x)).isSome)) M
    | some (.fK kvs _) => Q (.bl (nb (lookK kvs (.inr x)).isSome)) M
    | _ => False)
  | _, _ => False
abbrev gIn : DOp := gInN id
abbrev gNotIn : DOp := gInN not
def rInN (nb : Bool → Bool) (K : PySem.W.Frag) : R2 := fun x y H Q => (∃ (c : Nat) (z : Str), x = .str ⟨#[c]⟩ ∧ y = .str z ∧ Q (.bl (nb (decide (c ∈ z.cps.toList)))) H) ∨
  (∃ p xs, y = .ref p ∧ (SqL K H p xs ∨ SqT K H p xs) ∧ flatV x = true ∧ xs.all flatV = true ∧ Q (.bl (nb (inV x xs))) H) ∨ ∃ a o, y = .ref a ∧ DGet H a x o ∧ Q (.bl (nb o.isSome)) H
theorem op_inN (G : Gd X W) : OpR X (compareOp .In) (rInN id X.K) := by
  intro pins s σ H x y v u Q I rx ry h
  rcases h with h | ⟨p, xs, e1, e2, e3, e4, h⟩ | ⟨a, o, e, g, h⟩
  · exact op_in_sign pins s σ H x y v u Q I rx ry h
  · exact op_in_seq pins s σ H x y v u Q I rx ry ⟨p, xs, e1, e2, e3, e4, h⟩
  · subst e
    cases ry
    exact d_in G.hu1 I g rx fun s3 I3 => ⟨.bl o.isSome, H, I3, rfl, h⟩
theorem op_notInN (G : Gd X W) : OpR X (compareOp .NotIn) (rInN not X.K) := by
  intro pins s σ H x y v u Q I rx ry h
  rcases h with h | ⟨p, xs, e1, e2, e3, e4, h⟩ | ⟨a, o, e, g, h⟩
  · exact op_notInS pins s σ H x y v u Q I rx ry h
  · exact op_notIn_seq pins s σ H x y v u Q I rx ry ⟨p, xs, e1, e2, e3, e4, h⟩
  · subst e
    cases ry
    exact d_notIn G.hu1 I g rx fun s3 I3 => ⟨.bl (!o.isSome), H, I3, rfl, h⟩
end
section
variable {K : PySem.W.Frag} {M : Mu} {H : Hp}
theorem flat_rep {d : D} {v : V} (f : flatD d = true) (r : Rep K M H d v) : flatV v = true := by
  cases d with
  | non => cases (show v = _ from r); rfl
  | bl _ => cases (show v = _ from r); rfl
  | int _ => cases (show v = _ from r); rfl
  | str _ => cases (show v = _ from r); rfl
  | _ => cases f
theorem eqF_rep {d e : D} {v u : V} (f : flatD d = true) (g : flatD e = true) (r : Rep K M H d v) (s : Rep K M H e u) : eqV v u = eqF d e := by
  cases d <;> first
    | (cases f; done)
    | (cases r; cases e <;> first
      | (cases g; done)
      | (cases s; rfl)
      | (cases s; rename_i a b; show (sx a == sx b) = (a == b); rw [Bool.eq_iff_iff, beq_iff_eq, beq_iff_eq]; exact ⟨sx_inj, fun z => by rw [z]⟩))
theorem in_rep {d : D} {v : V} (f : flatD d = true) (r : Rep K M H d v) : ∀ {ds : List D} {vs : List V}, ds.all flatD = true → Reps K M H ds vs → vs.all flatV = true ∧ inV v vs = inD d ds
  | [], vs, _, h => by cases h.unnil; exact ⟨rfl, rfl⟩
  | e :: ds, vs, g, h => by
    obtain ⟨u, us, rfl, h1, h2⟩ := h.uncons
    rw [List.all_cons, Bool.and_eq_true] at g
    obtain ⟨i1, i2⟩ := in_rep f r g.2 h2
    refine ⟨by rw [List.all_cons, Bool.and_eq_true]; exact ⟨flat_rep g.1 h1, i1⟩, ?_⟩
    show (eqV u v || inV v us) = (eqF e d || inD d ds)
    rw [eqF_rep g.1 f h1 r, i2]
theorem od_in {nb : Bool → Bool} : OpD K (gInN nb) (rInN nb K) := fun M H x y v u Q0 Q c rx ry h q => by
  have fin : ∀ b, Q0 (.bl b) M → Q (.bl b) H := fun b z => q _ M _ H z rfl c (Stp.refl M H)
  have seq : ∀ {x : D} {v : V} {ys : List D} {p : Addr} {us : List V}, Rep K M H x v → (SqL K H p us ∨ SqT K H p us) → Reps K M H ys us → flatD x = true → ys.all flatD = true → Q0 (.bl (nb (inD x ys))) M → rInN nb K v (.ref p) H Q :=
    fun {x v ys p us} r1 s r2 f g z => by
      obtain ⟨i1, i2⟩ := in_rep f r1 g r2
      exact .inr (.inl ⟨p, us, rfl, s, flat_rep f r1, i1, by rw [i2]; exact fin _ z⟩)
  have dic : ∀ {k : DKey} {kvs : List (DKey × D)} {p : Addr} {mo : MO}, M p = some mo → dOf mo = some kvs → Q0 (.bl (nb (lookK kvs k).isSome)) M → rInN nb K (kV (kO k)) (.ref p) H Q := fun {k kvs p mo} e ed z => by
    obtain ⟨ks, ha, ek, ra⟩ := mu_dR c e ed
    have l := look_rep (k := k) ek ra
    refine .inr (.inr ⟨p, valV ks (kO k), rfl, .inl ⟨ks, kO k, ha, rfl, rfl⟩, ?_⟩)
    cases e2 : lookK kvs k with
    | none => rw [e2] at l z; rw [l]; exact fin _ z
    | some d =>
      rw [e2] at l z
      obtain ⟨w, e3, _⟩ := l
      rw [e3]
      exact fin _ z
  have lstC : ∀ {ys : List D}, y = .lst ys → flatD x = true ∧ ys.all flatD = true ∧ Q0 (.bl (nb (inD x ys))) M → rInN nb K v u H Q := fun {ys} e z => by
    subst e
    obtain ⟨b, us, rfl, hb, mb, rb⟩ := rep_of_lst ry
    exact seq rx (.inl (.inl (.inl hb))) rb z.1 z.2.1 z.2.2
  have tupC : ∀ {ys : List D}, y = .tup ys → flatD x = true ∧ ys.all flatD = true ∧ Q0 (.bl (nb (inD x ys))) M → rInN nb K v u H Q := fun {ys} e z => by
    subst e
    obtain ⟨b, us, rfl, hb, rb⟩ := rep_of_tup ry
    exact seq rx (.inr (sqT_of hb)) rb z.1 z.2.1 z.2.2
  cases y with
  | str z =>
    cases x with
    | str w =>
      cases w with
      | nil => exact h.elim
      | cons a l => cases l with
        | nil =>
          cases rx; cases ry
          exact .inl ⟨a, sx z, rfl, rfl, fin _ h⟩
        | cons _ _ => exact h.elim
    | _ => exact h.elim
  | lst ys => cases x <;> first
    | exact lstC rfl h
    | (rename_i w; cases w with
      | nil => exact lstC rfl h
      | cons a l => cases l <;> exact lstC rfl h)
  | tup ys => cases x <;> first
    | exact tupC rfl h
    | (rename_i w; cases w with
      | nil => exact tupC rfl h
      | cons a l => cases l <;> exact tupC rfl h)
  | ref p =>
    cases ry
    cases x with
    | int i =>
      cases rx
      have h2 : (match M p with
        | some (.lst ys) => ys.all flatD = true ∧ Q0 (.bl (nb (inD (.int i) ys))) M
        | some (.dK kvs) => Q0 (.bl (nb (lookK kvs (.inl i)).isSome)) M
        | some (.fK kvs _) => Q0 (.bl (nb (lookK kvs (.inl i)).isSome)) M
        | _ => False) := h
      cases e : M p with
      | none => rw [e] at h2; exact h2.elim
      | some mo =>
        rw [e] at h2
        cases mo with
        | lst ys =>
          obtain ⟨vs, ha, ra⟩ := mu_lst c e
          exact seq (x := .int i) rfl (.inl (.inl (.inl ha))) ra rfl h2.1 h2.2
        | dK kvs => exact dic (k := .inl i) e rfl h2
        | fK kvs fu => exact dic (k := .inl i) e rfl h2
        | _ => exact h2.elim
    | str x =>
      cases rx
      have h2 : (match M p with
        | some (.lst ys) => ys.all flatD = true ∧ Q0 (.bl (nb (inD (.str x) ys))) M
        | some (.dK kvs) => Q0 (.bl (nb (lookK kvs (.inr x)).isSome)) M
        | some (.fK kvs _) => Q0 (.bl (nb (lookK kvs (.inr x)).isSome)) M
        | _ => False) := by
        cases x with
        | nil => exact h
        | cons a l => cases l <;> exact h
      cases e : M p with
      | none => rw [e] at h2; exact h2.elim
      | some mo =>
        rw [e] at h2
        cases mo with
        | lst ys =>
          obtain ⟨vs, ha, ra⟩ := mu_lst c e
          exact seq (x := .str x) rfl (.inl (.inl (.inl ha))) ra rfl h2.1 h2.2
        | dK kvs => exact dic (k := .inr x) e rfl h2
        | fK kvs fu => exact dic (k := .inr x) e rfl h2
        | _ => exact h2.elim
    | _ => exact h.elim
  | _ => cases x <;> first
    | exact h.elim
    | (rename_i w; cases w with
      | nil => exact h.elim
      | cons a l => cases l <;> exact h.elim)
end
end DL

namespace DL
open PySem L2

/-! ### built-in functions -/
abbrev DCb := List D → Mu → DK → Prop
def dCB (g : DCb) (ta : DTA) : DTE := fun τ M Q E => ta τ M (fun ds M1 => g ds M1 Q) E
def CbD (K : PySem.W.Frag) (g : DCb) (r : List V → Hp → VK → Prop) : Prop := ∀ (M : Mu) (H : Hp) (xs : List D) (vs : List V) (Q0 : DK) (Q : VK), Cor K M H → Reps K M H xs vs → g xs M Q0 →
  (∀ d M' z H', Q0 d M' → Rep K M' H' d z → Cor K M' H' → Stp M H M' H' → Q z H') → r vs H Q
section
variable {X : Cx} {W : WX} {a b c e o : Expr} {rest es : List Expr} {ta tb tc te to : DTE} {tl : DTA} {pos apos cpos p : Pos} {x : Str} {id T : String} {g : DCb} {r : List V → Hp → VK → Prop}
theorem lif_cb (k : CbD X.K g r) {σ : L2.St} {H : Hp} {Q : VK} (h : lif X.K W (RD X.K) (dCB g tl) σ H Q) : tCB r (lif X.K W (RA X.K) tl) σ H Q := by
  obtain ⟨τ, M, Q0, E0, S, h⟩ := h
  exact S.sub h fun ds M1 vs H1 h1 r1 S1 s1 => k M1 H1 ds vs Q0 Q S1.co r1 h1 S1.q
theorem de_callB (k : CbD X.K g r) (hc : CallR X (.builtin id) r) (hm : X.mg x = none) (hv : bootBuiltins x = some (.builtin id)) (ha : DA X W (e :: es) tl) (hg : Gl X x := by rfl) (hn : x ≠ "__name__" := by decide) (hdb : (x == ("__debug__" : Str)) = false := by decide)
    (he : starEach (e :: es) X.env = (false, eval e X.env) :: starEach es X.env := by rfl) (hpl : (backTo pos (starEach es X.env)).any (·.1) = false := by rfl) : DE X W (.Call (.Name x p) (e :: es) [] pos) (dCB g tl) :=
  PE.of (pe_callB hc hg hm hv ha hn hdb he hpl) fun _ _ _ h => lif_cb k h
theorem de_callTy (k : CbD X.K g r) (hc : CallR X (.type T) r) (hm : X.mg x = none) (hv : bootBuiltins x = some (.type T)) (ha : DA X W (e :: es) tl) (hg : Gl X x := by rfl) (hn : x ≠ "__name__" := by decide) (hdb : (x == ("__debug__" : Str)) = false := by decide)
    (he : starEach (e :: es) X.env = (false, eval e X.env) :: starEach es X.env := by rfl) (hpl : (backTo pos (starEach es X.env)).any (·.1) = false := by rfl) : DE X W (.Call (.Name x p) (e :: es) [] pos) (dCB g tl) :=
  PE.of (pe_callTy hc hg hm hv ha hn hdb he hpl) fun _ _ _ h => lif_cb k h
/-- the name of a built-in class -/
theorem de_ty (hm : X.mg x = none) (hv : bootBuiltins x = some (.type T)) (hg : Gl X x := by rfl) (hn : x ≠ "__name__" := by decide) (hdb : (x == ("__debug__" : Str)) = false := by decide) : DE X W (.Name x pos) (dC (.ty T)) :=
  de_c (t0 := tC .non) (pe_bltn (v := .ty T) hg hm hv rfl hn hdb) fun _ _ => rfl
end
def gLen : DCb := fun xs M Q => match xs with
  | [.str x] => x.length ≤ 16777216 ∧ Q (.int x.length) M
  | [.lst ds] => Q (.int ds.length) M
  | [.tup ds] => Q (.int ds.length) M
  | [.scr ns] => Q (.int ns.length) M
  | [.ref a] => (match M a with
    | some (.lst ds) => Q (.int ds.length) M
    | some (.dK kvs) => Q (.int kvs.length) M
    | _ => False)
  | _ => False
def gInt1 : DCb := fun xs M Q => match xs with
  | [.int i] => Q (.int i) M
  | [.bl b] => Q (.int (if b then 1 else 0)) M
  | _ => False
def gMin2 : DCb := fun xs M Q => match xs with
  | [.int i, .int j] => Q (.int (if j < i then j else i)) M
  | _ => False
def gMax2 : DCb := fun xs M Q => match xs with
  | [.int i, .int j] => Q (.int (if j > i then j else i)) M
  | _ => False
def gList : DCb := fun xs M Q => match xs with
  | [.lst ds] => Q (.lst ds) M
  | [.tup ds] => Q (.lst ds) M
  | [.scr ns] => Q (.lst (ns.map D.int)) M
  | [.ref a] => (match M a with
    | some (.lst ds) => Q (.lst ds) M
    | _ => False)
  | _ => False
def gListM : DCb := fun xs M Q => match xs with
  | [.lst ds] => ∀ p, M p = none → Q (.ref p) (put M p (.lst ds))
  | [.tup ds] => ∀ p, M p = none → Q (.ref p) (put M p (.lst ds))
  | [.scr ns] => ∀ p, M p = none → Q (.ref p) (put M p (.lst (ns.map D.int)))
  | [.ref a] => (match M a with
    | some (.lst ds) => ∀ p, M p = none → Q (.ref p) (put M p (.lst ds))
    | _ => False)
  | _ => False
def tyD (M : Mu) : D → Option String
  | .non => some "NoneType"
  | .bl _ => some "bool"
  | .int _ => some "int"
  | .str _ => some "str"
  | .lst _ => some "list"
  | .tup _ => some "tuple"
  | .ref a => (match M a with
    | some (.lst _) => some "list"
    | some (.dK _) => some "dict"
    | _ => none)
  | .ty _ => none
  | .scr _ => none
  | .cl _ => none
  | .exc _ _ _ _ _ => none
def isaB (a b : String) : Bool := a == b || (a == "bool" && b == "int")
def gIsi : DCb := fun xs M Q => match xs with
  | [d, .ty T] => (match tyD M d with
    | some n => ["bool", "int", "str", "list", "tuple", "dict"].contains T = true ∧ Q (.bl (isaB n T)) M
    | none => False)
  | _ => False
theorem kit_isa : (["NoneType", "bool", "int", "str", "list", "tuple", "dict"].all fun a => ["bool", "int", "str", "list", "tuple", "dict"].all fun b => decide (kitB a b = some (isaB a b))) = true := by decide +kernel
theorem kit_is {a b : String} (ha : a ∈ ["NoneType", "bool", "int", "str", "list", "tuple", "dict"]) (hb : ["bool", "int", "str", "list", "tuple", "dict"].contains b = true) : kitB a b = some (isaB a b) :=
  of_decide_eq_true (List.all_eq_true.mp (List.all_eq_true.mp kit_isa a ha) b (by simpa using hb))
def rLenA (K : PySem.W.Frag) : List V → Hp → VK → Prop := fun xs H Q => (∃ p ys, xs = [.ref p] ∧ (SqL K H p ys ∨ SqT K H p ys) ∧ Q (.int ys.length) H) ∨ ((∃ z, xs = [.str z] ∧ z.length ≤ sizeLine ∧ Q (.int z.length) H) ∨ ∃ p kvs, xs = [.ref p] ∧ H p = some (.dK kvs) ∧ Q (.int kvs.length) H)
section
variable {K : PySem.W.Frag}
theorem scr_sq {M : Mu} {H : Hp} {a : Addr} {vs : List V} (h : ((∃ o, H a = some (.frz o (.lst vs))) ∧ M a = none) ∨ WrL K a vs) : SqL K H a vs := h.elim (fun q => .inl (.inr q.1)) .inr
theorem cb_len : CbD K gLen (rLenA K) := fun M H xs vs Q0 Q c r h q => by
  have fin : ∀ i : Int, Q0 (.int i) M → Q (.int i) H := fun b z => q _ M _ H z rfl c (Stp.refl M H)
  match xs, h with
  | [.str x], h =>
    obtain ⟨v, u, rfl, r1, r2⟩ := r.uncons
    cases r2.unnil; cases r1
    refine .inr (.inl ⟨sx x, rfl, by rw [sx_len, line24]; exact h.1, ?_⟩)
    rw [sx_len]
    exact fin _ h.2
  | [.lst ds], h =>
    obtain ⟨v, u, rfl, r1, r2⟩ := r.uncons
    cases r2.unnil
    obtain ⟨a, vs, rfl, ha, ma, ra⟩ := rep_of_lst r1
    exact .inl ⟨a, vs, rfl, .inl (.inl (.inl ha)), by rw [ra.length]; exact fin _ h⟩
  | [.tup ds], h =>
    obtain ⟨v, u, rfl, r1, r2⟩ := r.uncons
    cases r2.unnil
    obtain ⟨a, vs, rfl, ha, ra⟩ := rep_of_tup r1
    exact .inl ⟨a, vs, rfl, .inr (sqT_of ha), by rw [ra.length]; exact fin _ h⟩
  | [.scr ns], h =>
    obtain ⟨v, u, rfl, r1, r2⟩ := r.uncons
    cases r2.unnil
    obtain ⟨a, rfl, ha⟩ := (show ∃ a, v = .ref a ∧ _ from r1)
    exact .inl ⟨a, _, rfl, .inl (scr_sq ha), by rw [List.length_map]; exact fin _ h⟩
  | [.ref a], h =>
    obtain ⟨v, u, rfl, r1, r2⟩ := r.uncons
    cases r2.unnil; cases r1
    have h2 : (match M a with
      | some (.lst ds) => Q0 (.int ds.length) M
      | some (.dK kvs) => Q0 (.int kvs.length) M
      | _ => False) := h
    cases e : M a with
    | none => rw [e] at h2; exact h2.elim
    | some mo =>
      rw [e] at h2
      cases mo with
      | lst ds =>
        obtain ⟨vs, ha, ra⟩ := mu_lst c e
        exact .inl ⟨a, vs, rfl, .inl (.inl (.inl ha)), by rw [ra.length]; exact fin _ h2⟩
      | dK kvs =>
        obtain ⟨ks, ha, ek, ra⟩ := mu_dK c e
        have l := congrArg List.length ek
        rw [List.length_map, List.length_map] at l
        exact .inr (.inr ⟨a, ks, rfl, ha, by rw [l]; exact fin _ h2⟩)
      | _ => exact h2.elim
theorem cb_int : CbD K gInt1 (fun xs H Q => (∃ i, xs = [.int i] ∧ Q (.int i) H) ∨ ∃ k, xs = [.bl k] ∧ Q (.int (if k then 1 else 0)) H) := fun M H xs vs Q0 Q c r h q => by
  match xs, h with
  | [.int i], h =>
    obtain ⟨v, u, rfl, r1, r2⟩ := r.uncons
    cases r2.unnil; cases r1
    exact .inl ⟨i, rfl, q _ M _ H h rfl c (Stp.refl M H)⟩
  | [.bl i], h =>
    obtain ⟨v, u, rfl, r1, r2⟩ := r.uncons
    cases r2.unnil; cases r1
    exact .inr ⟨i, rfl, q _ M _ H h rfl c (Stp.refl M H)⟩
theorem cb_min : CbD K gMin2 (fun xs H Q => ∃ i j, xs = [.int i, .int j] ∧ Q (.int (if j < i then j else i)) H) := fun M H xs vs Q0 Q c r h q => by
  match xs, h with
  | [.int i, .int j], h =>
    obtain ⟨v, u, rfl, r1, r2⟩ := r.uncons
    obtain ⟨v, u, rfl, r3, r4⟩ := r2.uncons
    cases r4.unnil; cases r1; cases r3
    exact ⟨i, j, rfl, q _ M _ H h rfl c (Stp.refl M H)⟩
theorem cb_max : CbD K gMax2 (fun xs H Q => ∃ i j, xs = [.int i, .int j] ∧ Q (.int (if j > i then j else i)) H) := fun M H xs vs Q0 Q c r h q => by
  match xs, h with
  | [.int i, .int j], h =>
    obtain ⟨v, u, rfl, r1, r2⟩ := r.uncons
    obtain ⟨v, u, rfl, r3, r4⟩ := r2.uncons
    cases r4.unnil; cases r1; cases r3
    exact ⟨i, j, rfl, q _ M _ H h rfl c (Stp.refl M H)⟩
abbrev rListA (K : PySem.W.Frag) : List V → Hp → VK → Prop := fun xs H Q => ∃ p ys, xs = [.ref p] ∧ (SqL K H p ys ∨ SqT K H p ys) ∧ ∀ l, H l = none → Q (.ref l) (upd H l (.lst ys))
theorem cb_list : CbD K gList (rListA K) := fun M H xs vs Q0 Q c r h q => by
  match xs, h with
  | [.lst ds], h =>
    obtain ⟨v, u, rfl, r1, r2⟩ := r.uncons
    cases r2.unnil
    obtain ⟨a, vs, rfl, ha, ma, ra⟩ := rep_of_lst r1
    exact ⟨a, vs, rfl, .inl (.inl (.inl ha)), new_lst c ra h q⟩
  | [.tup ds], h =>
    obtain ⟨v, u, rfl, r1, r2⟩ := r.uncons
    cases r2.unnil
    obtain ⟨a, vs, rfl, ha, ra⟩ := rep_of_tup r1
    exact ⟨a, vs, rfl, .inr (sqT_of ha), new_lst c ra h q⟩
  | [.scr ns], h =>
    obtain ⟨v, u, rfl, r1, r2⟩ := r.uncons
    cases r2.unnil
    obtain ⟨a, rfl, ha⟩ := (show ∃ a, v = .ref a ∧ _ from r1)
    exact ⟨a, _, rfl, .inl (scr_sq ha), new_lst c (Reps.of_ints ns) h q⟩
  | [.ref a], h =>
    obtain ⟨v, u, rfl, r1, r2⟩ := r.uncons
    cases r2.unnil; cases r1
    have h2 : (match M a with
      | some (.lst ds) => Q0 (.lst ds) M
      | _ => False) := h
    cases e : M a with
    | none => rw [e] at h2; exact h2.elim
    | some mo =>
      rw [e] at h2
      cases mo with
      | lst ds =>
        obtain ⟨vs, ha, ra⟩ := mu_lst c e
        exact ⟨a, vs, rfl, .inl (.inl (.inl ha)), new_lst c ra h2 q⟩
      | _ => exact h2.elim
theorem cb_listM : CbD K gListM (rListA K) := fun M H xs vs Q0 Q c r h q => by
  match xs, h with
  | [.lst ds], h =>
    obtain ⟨v, u, rfl, r1, r2⟩ := r.uncons
    cases r2.unnil
    obtain ⟨a, vs, rfl, ha, ma, ra⟩ := rep_of_lst r1
    exact ⟨a, vs, rfl, .inl (.inl (.inl ha)), new_lstM c ra h q⟩
  | [.tup ds], h =>
    obtain ⟨v, u, rfl, r1, r2⟩ := r.uncons
    cases r2.unnil
    obtain ⟨a, vs, rfl, ha, ra⟩ := rep_of_tup r1
    exact ⟨a, vs, rfl, .inr (sqT_of ha), new_lstM c ra h q⟩
  | [.scr ns], h =>
    obtain ⟨v, u, rfl, r1, r2⟩ := r.uncons
    cases r2.unnil
    obtain ⟨a, rfl, ha⟩ := (show ∃ a, v = .ref a ∧ _ from r1)
    exact ⟨a, _, rfl, .inl (scr_sq ha), new_lstM c (Reps.of_ints ns) h q⟩
  | [.ref a], h =>
    obtain ⟨v, u, rfl, r1, r2⟩ := r.uncons
    cases r2.unnil; cases r1
    have h2 : (match M a with
      | some (.lst ds) => ∀ p, M p = none → Q0 (.ref p) (put M p (.lst ds))
      | _ => False) := h
    cases e : M a with
    | none => rw [e] at h2; exact h2.elim
    | some mo =>
      rw [e] at h2
      cases mo with
      | lst ds =>
        obtain ⟨vs, ha, ra⟩ := mu_lst c e
        exact ⟨a, vs, rfl, .inl (.inl (.inl ha)), new_lstM c ra h2 q⟩
      | _ => exact h2.elim
theorem ty_rep {M : Mu} {H : Hp} {d : D} {v : V} {n : String} (c : Cor K M H) (r : Rep K M H d v) (h : tyD M d = some n) : TyX K H v (.type n) ∧ n ∈ ["NoneType", "bool", "int", "str", "list", "tuple", "dict"] := by
  cases d with
  | non => cases r; cases h; exact ⟨.base .non, by decide⟩
  | bl _ => cases r; cases h; exact ⟨.base (.bl _), by decide⟩
  | int _ => cases r; cases h; exact ⟨.base (.int _), by decide⟩
  | str _ => cases r; cases h; exact ⟨.base (.str _), by decide⟩
  | lst ds =>
    cases h
    obtain ⟨a, vs, rfl, ha, ma, ra⟩ := rep_of_lst r
    exact ⟨.base (.lst ha), by decide⟩
  | tup ds =>
    cases h
    obtain ⟨a, vs, rfl, ha, ra⟩ := rep_of_tup r
    refine ⟨?_, by decide⟩
    rcases ha with ha | ⟨o, its, n, e1, e2, _⟩
    · exact .base (.tup ha.1)
    · exact .kTuple e1 e2
  | ref a =>
    cases r
    have h2 : (match M a with
      | some (.lst _) => some "list"
      | some (.dK _) => some "dict"
      | _ => none) = some n := h
    cases e : M a with
    | none => rw [e] at h2; cases h2
    | some mo =>
      rw [e] at h2
      cases mo with
      | lst ds =>
        cases h2
        obtain ⟨vs, ha, ra⟩ := mu_lst c e
        exact ⟨.base (.lst ha), by decide⟩
      | dK kvs =>
        cases h2
        obtain ⟨vs, ha, _, ra⟩ := mu_dK c e
        exact ⟨.base (.dK ha), by decide⟩
      | _ => cases h2
  | ty _ => cases h
  | scr _ => cases h
  | cl _ => cases h
  | exc _ _ _ _ _ => cases h
theorem cb_isi : CbD K gIsi (rIsi K) := fun M H xs vs Q0 Q c r h q => by
  match xs, h with
  | [d, .ty T], h =>
    obtain ⟨v, u, rfl, r1, r2⟩ := r.uncons
    obtain ⟨w, u, rfl, r3, r4⟩ := r2.uncons
    cases r4.unnil; cases r3
    have h2 : (match tyD M d with
      | some n => ["bool", "int", "str", "list", "tuple", "dict"].contains T = true ∧ Q0 (.bl (isaB n T)) M
      | none => False) := h
    cases e : tyD M d with
    | none => rw [e] at h2; exact h2.elim
    | some n =>
      rw [e] at h2
      obtain ⟨t1, t2⟩ := ty_rep c r1 e
      exact ⟨v, .ty T, .type n, .type T, _, rfl, .ty T, t1, kit_ty (kit_is t2 h2.1), q _ M _ H h2.2 rfl c (Stp.refl M H)⟩
end
theorem call_lenA {X : Cx} : CallR X (.builtin "len") (rLenA X.K) := call_len_seq.or (call_len_str.or call_lenD)
end DL

namespace DL
open PySem L2

/-! ### methods of built-in types -/
abbrev DMt := D → List D → Mu → DK → Prop
/-- is the value of that built-in type? -/
def isTy (T : String) (M : Mu) : D → Prop
  | .str _ => T = "str"
  | .lst _ => T = "list"
  | .ref a => match M a with
    | some (.lst _) => T = "list"
    | some (.dK _) => T = "dict"
    | _ => False
  | _ => False
def dMt (T : String) (g : DMt) (to : DTE) (ta : DTA) : DTE := fun τ M Q E => to τ M (fun d M1 => isTy T M1 d ∧ ta τ M1 (fun ds M2 => g d ds M2 Q) E) E
def dMt0 (T : String) (g : DMt) (to : DTE) : DTE := fun τ M Q E => to τ M (fun d M1 => isTy T M1 d ∧ g d [] M1 Q) E
def MtD (K : PySem.W.Frag) (g : DMt) (r : V → List V → Hp → VK → Prop) : Prop := ∀ (M : Mu) (H : Hp) (x : D) (v : V) (xs : List D) (vs : List V) (Q0 : DK) (Q : VK), Cor K M H → Rep K M H x v → Reps K M H xs vs → g x xs M Q0 →
  (∀ d M' z H', Q0 d M' → Rep K M' H' d z → Cor K M' H' → Stp M H M' H' → Q z H') → r v vs H Q
theorem isTy_rep {K : PySem.W.Frag} {M : Mu} {H : Hp} {T : String} {d : D} {v : V} (c : Cor K M H) (r : Rep K M H d v) (h : isTy T M d) : tyV K T v H := by
  cases d with
  | str x => cases r; exact h
  | lst ds =>
    obtain ⟨a, vs, rfl, ha, ma, ra⟩ := rep_of_lst r
    exact .inl ⟨h, vs, .inl (.inl ha)⟩
  | ref a =>
    cases r
    have h2 : (match M a with
      | some (.lst _) => T = "list"
      | some (.dK _) => T = "dict"
      | _ => False) := h
    cases e : M a with
    | none => rw [e] at h2; exact h2.elim
    | some mo =>
      rw [e] at h2
      cases mo with
      | lst ds =>
        obtain ⟨vs, ha, ra⟩ := mu_lst c e
        exact .inl ⟨h2, vs, .inl (.inl ha)⟩
      | dK kvs =>
        obtain ⟨ks, ha, _, ra⟩ := mu_dK c e
        exact .inr (.inr (.inl ⟨h2, .inl ⟨ks, ha⟩⟩))
      | _ => exact h2.elim
  | _ => exact h.elim
section
variable {X : Cx} {W : WX} {a b c e o : Expr} {rest es : List Expr} {ta tb tc te to : DTE} {tl : DTA} {pos apos cpos p : Pos} {name : Str} {id T : String} {g : DMt} {r : V → List V → Hp → VK → Prop}
theorem de_mt (pa : PlainAttrs T) (slot : Slot T name id) (hty : typeOf (.builtin id) = pure (.type "method_descriptor")) (k : MtD X.K g r) (hm : MtR X id r) (ho : DE X W o to) (ha : DA X W (e :: es) tl)
    (hbase : attributeBase o name X.env (eval o X.env) = eval o X.env := by rfl)
    (hfew : ((backTo cpos (starEach (e :: es) X.env)).all (fun x => !x.1) && (backToKw cpos (keywordEach [] X.env)).all (fun x => x.1.isSome)
      && decide ((e :: es).length + ([] : List Keyword).length + (if ([] : List Keyword).isEmpty then 0 else 1) < 30)) = true := by rfl)
    (hline : (apos.endLine == cpos.line) = true := by rfl) (hs : starEach (e :: es) X.env = (false, eval e X.env) :: starEach es X.env := by rfl) (hplain : (backTo cpos (starEach es X.env)).any (·.1) = false := by rfl) :
    DE X W (.Call (.Attribute o name apos) (e :: es) [] cpos) (dMt T g to tl) :=
  PE.of (pe_bm pa slot hty hm ho ha hbase hfew hline hs hplain) fun σ H Q ⟨τ, M, Q0, E0, S, h⟩ => S.sub h fun d M1 v H1 h1 r1 S1 s1 =>
    ⟨isTy_rep S1.co r1 h1.1, S1.sub h1.2 fun ds M2 vs H2 h2 r2 S2 s2 => k M2 H2 d v ds vs Q0 Q S2.co (r1.stp s2) r2 h2 S2.q⟩
theorem de_mt0 (pa : PlainAttrs T) (slot : Slot T name id) (hty : typeOf (.builtin id) = pure (.type "method_descriptor")) (k : MtD X.K g r) (hm : MtR X id r) (ho : DE X W o to)
    (hbase : attributeBase o name X.env (eval o X.env) = eval o X.env := by rfl) (hline : (apos.endLine == cpos.line) = true := by rfl) : DE X W (.Call (.Attribute o name apos) [] [] cpos) (dMt0 T g to) :=
  PE.of (pe_bm0 pa slot hty hm ho hbase hline) fun σ H Q ⟨τ, M, Q0, E0, S, h⟩ => S.sub h fun d M1 v H1 h1 r1 S1 s1 =>
    ⟨isTy_rep S1.co r1 h1.1, k M1 H1 d v [] [] Q0 Q S1.co r1 .nil h1.2 S1.q⟩
end
def gAppend : DMt := fun x xs M Q => match x, xs with
  | .ref a, [y] => (match M a with
    | some (.lst ds) => ds.length < 16777216 ∧ Q .non (put M a (.lst (ds ++ [y])))
    | _ => False)
  | _, _ => False
/-- the texts, one behind another -/
def joinT (s : Tx) : List Tx → Tx := TL.joinL s
def gJoin : DMt := fun x xs M Q => match x, xs with
  | .str s, [.lst ds] => ∃ ys : List Tx, ds = ys.map D.str ∧ (ys.map (·.length)).sum + ys.length * s.length ≤ 16777216 ∧ Q (.str (joinT s ys)) M
  | .str s, [.tup ds] => ∃ ys : List Tx, ds = ys.map D.str ∧ (ys.map (·.length)).sum + ys.length * s.length ≤ 16777216 ∧ Q (.str (joinT s ys)) M
  | .str s, [.ref a] => (match M a with
    | some (.lst ds) => ∃ ys : List Tx, ds = ys.map D.str ∧ (ys.map (·.length)).sum + ys.length * s.length ≤ 16777216 ∧ Q (.str (joinT s ys)) M
    | _ => False)
  | _, _ => False
def gStarts : DMt := fun x xs M Q => match x, xs with
  | .str a, [.str b] => Q (.bl (b.isPrefixOf a)) M
  | _, _ => False
section
variable {K : PySem.W.Frag}
theorem md_append : MtD K gAppend rAppend := fun M H x v xs vs Q0 Q c rx r h q => by
  match x, xs, h with
  | .ref a, [y], h =>
    obtain ⟨u, us, rfl, r1, r2⟩ := r.uncons
    cases r2.unnil; cases rx
    have h2 : (match M a with
      | some (.lst ds) => ds.length < 16777216 ∧ Q0 .non (put M a (.lst (ds ++ [y])))
      | _ => False) := h
    cases e : M a with
    | none => rw [e] at h2; exact h2.elim
    | some mo =>
      rw [e] at h2
      cases mo with
      | lst ds =>
        obtain ⟨vs, ha, ra⟩ := mu_lst c e
        exact ⟨a, vs, u, rfl, rfl, ha, by rw [ra.length, line24]; exact h2.1, q _ _ _ _ h2.2 rfl (c.write e ⟨_, rfl, ra.snoc r1⟩) (Stp.write e)⟩
      | _ => exact h2.elim
theorem tl_sx (t : Tx) : TL.tl (sx t) = t := T_sx t
theorem join_sx (s : Tx) (ys : List Tx) : PySem.Txt.join (sx s) (ys.map sx) = sx (joinT s ys) := by
  refine TL.ext_tl ?_
  rw [tl_sx, TL.join_eq]
  refine (TL.tl_join (sx s) (ys.map sx)).trans ?_
  rw [tl_sx, List.map_map]
  have : (TL.tl ∘ sx) = (id : Tx → Tx) := funext fun t => tl_sx t
  rw [this, List.map_id]
  rfl
theorem md_join : MtD K gJoin (fun x xs H Q => ∃ a p, ∃ ys : List Str, x = .str a ∧ xs = [.ref p] ∧ (SqL K H p (ys.map V.str) ∨ SqT K H p (ys.map V.str)) ∧
    (ys.map (·.length)).sum + ys.length * a.length ≤ 16777216 ∧ Q (.str (PySem.Txt.join a ys)) H) := fun M H x v xs vs Q0 Q c rx r h q => by
  have fin : ∀ {s : Tx} {p : Addr} {ds : List D} {vs : List V}, (SqL K H p vs ∨ SqT K H p vs) → Reps K M H ds vs → (∃ ys : List Tx, ds = ys.map D.str ∧ (ys.map (·.length)).sum + ys.length * s.length ≤ 16777216 ∧ Q0 (.str (joinT s ys)) M) →
      ∃ a p', ∃ ys : List Str, V.str (sx s) = .str a ∧ [V.ref p] = [.ref p'] ∧ (SqL K H p' (ys.map V.str) ∨ SqT K H p' (ys.map V.str)) ∧ (ys.map (·.length)).sum + ys.length * a.length ≤ 16777216 ∧ Q (.str (PySem.Txt.join a ys)) H :=
    fun {s p ds vs} sq ra ⟨ys, e, hz, z⟩ => by
      subst e
      have e := ra.strs
      subst e
      refine ⟨sx s, p, ys.map sx, rfl, rfl, sq, ?_, ?_⟩
      · rw [List.map_map, List.length_map, sx_len]
        have : ((fun x : Str => x.length) ∘ sx) = fun t : Tx => t.length := funext fun t => sx_len t
        rw [this]
        exact hz
      · rw [join_sx]
        exact q _ M _ H z rfl c (Stp.refl M H)
  match x, xs, h with
  | .str s, [.lst ds], h =>
    obtain ⟨u, us, rfl, r1, r2⟩ := r.uncons
    cases r2.unnil; cases rx
    obtain ⟨a, vs, rfl, ha, ma, ra⟩ := rep_of_lst r1
    exact fin (.inl (.inl (.inl ha))) ra h
  | .str s, [.tup ds], h =>
    obtain ⟨u, us, rfl, r1, r2⟩ := r.uncons
    cases r2.unnil; cases rx
    obtain ⟨a, vs, rfl, ha, ra⟩ := rep_of_tup r1
    exact fin (.inr (sqT_of ha)) ra h
  | .str s, [.ref a], h =>
    obtain ⟨u, us, rfl, r1, r2⟩ := r.uncons
    cases r2.unnil; cases rx; cases r1
    have h2 : (match M a with
      | some (.lst ds) => ∃ ys : List Tx, ds = ys.map D.str ∧ (ys.map (·.length)).sum + ys.length * s.length ≤ 16777216 ∧ Q0 (.str (joinT s ys)) M
      | _ => False) := h
    cases e : M a with
    | none => rw [e] at h2; exact h2.elim
    | some mo =>
      rw [e] at h2
      cases mo with
      | lst ds =>
        obtain ⟨vs, ha, ra⟩ := mu_lst c e
        exact fin (.inl (.inl (.inl ha))) ra h2
      | _ => exact h2.elim
theorem starts_sx (a b : Tx) : PySem.Txt.startswith (sx a) (sx b) = b.isPrefixOf a := by
  show (decide (0 + (sx b).length ≤ (sx a).length) && Builtin.Str.subAt (sx a) (sx b) 0) = _
  rw [PySem.StrLaws.subAt_eq]
  rw [Bool.eq_iff_iff, Bool.and_eq_true, decide_eq_true_iff, List.isPrefixOf_iff_prefix, sx_len, sx_len]
  show (0 + b.length ≤ a.length ∧ ((a.drop 0).take b.length == b) = true) ↔ _
  rw [List.drop_zero, beq_iff_eq, List.prefix_iff_eq_take]
  constructor
  · intro z; exact z.2.symm
  · intro z
    refine ⟨?_, z.symm⟩
    have := congrArg List.length z
    rw [List.length_take] at this
    omega
theorem md_starts : MtD K gStarts (fun x xs H Q => ∃ a b, x = .str a ∧ xs = [.str b] ∧ Q (.bl (PySem.Txt.startswith a b)) H) := fun M H x v xs vs Q0 Q c rx r h q => by
  match x, xs, h with
  | .str a, [.str b], h =>
    obtain ⟨u, us, rfl, r1, r2⟩ := r.uncons
    cases r2.unnil; cases rx; cases r1
    refine ⟨sx a, sx b, rfl, rfl, ?_⟩
    rw [starts_sx]
    exact q _ M _ H h rfl c (Stp.refl M H)
end
end DL

namespace DL
open PySem L2

/-! ### statements -/
structure DEnds where
  nx : DSt → Mu → Prop
  rt : DK
  bk : DSt → Mu → Prop := fun _ _ => False
  ct : DSt → Mu → Prop := fun _ _ => False
  xc : XD → DSt → Mu → Prop := fun _ _ _ => False
abbrev DTS := DEnds → DSt → Mu → Prop
structure SitS (K : PySem.W.Frag) (W : WX) (τ : DSt) (M : Mu) (σ : L2.St) (H : Hp) (D0 : DEnds) (D1 : Ends) : Prop where
  rs : RepS K M H τ σ
  co : Cor K M H
  nx : ∀ τ' M' σ' H', D0.nx τ' M' → RepS K M' H' τ' σ' → Cor K M' H' → Stp M H M' H' → D1.nx σ' H'
  rt : ∀ d M' v H', D0.rt d M' → Rep K M' H' d v → Cor K M' H' → Stp M H M' H' → D1.rt v H'
  bk : ∀ τ' M' σ' H', D0.bk τ' M' → RepS K M' H' τ' σ' → Cor K M' H' → Stp M H M' H' → D1.bk σ' H'
  ct : ∀ τ' M' σ' H', D0.ct τ' M' → RepS K M' H' τ' σ' → Cor K M' H' → Stp M H M' H' → D1.ct σ' H'
  xc : ∀ x τ' M' c d σ' H', D0.xc x τ' M' → RepX K M' H' x c d → RepS K M' H' τ' σ' → Cor K M' H' → Stp M H M' H' → W c d σ' H'
def lifS (K : PySem.W.Frag) (W : WX) (t : DTS) : TS := fun D1 σ H => ∃ τ M D0, SitS K W τ M σ H D0 D1 ∧ t D0 τ M
abbrev DS (X : Cx) (W : WX) (st : Stmt) (t : DTS) : Prop := PS X st (lifS X.K W t)
abbrev DSs (X : Cx) (W : WX) (st : List Stmt) (t : DTS) : Prop := PSs X st (lifS X.K W t)
section
variable {K : PySem.W.Frag} {W : WX} {τ : DSt} {M M1 : Mu} {σ σ1 : L2.St} {H H1 : Hp} {D0 : DEnds} {D1 : Ends}
theorem SitS.go (S : SitS K W τ M σ H D0 D1) {τ1 : DSt} (r : RepS K M1 H1 τ1 σ1) (c : Cor K M1 H1) (s : Stp M H M1 H1) : SitS K W τ1 M1 σ1 H1 D0 D1 :=
  ⟨r, c, fun a b c d h r' c' s' => S.nx a b c d h r' c' (s.trans s'), fun a b c d h r' c' s' => S.rt a b c d h r' c' (s.trans s'), fun a b c d h r' c' s' => S.bk a b c d h r' c' (s.trans s'),
    fun a b c d h r' c' s' => S.ct a b c d h r' c' (s.trans s'), fun x a b c d e f h r' r2 c' s' => S.xc x a b c d e f h r' r2 c' (s.trans s')⟩
abbrev DEnds.ex (D0 : DEnds) (τ : DSt) : DX := fun x M => D0.xc x τ M
/-- an expression in a statement -/
theorem SitS.sub (S : SitS K W τ M σ H D0 D1) {γ δ : Type} {R1 : Mu → Hp → γ → δ → Prop} {t : DR γ} {G : γ → Mu → Prop} {Q1 : δ → Hp → Prop} (h : t τ M G (D0.ex τ))
    (k : ∀ d M1 v H1, G d M1 → R1 M1 H1 d v → SitS K W τ M1 σ H1 D0 D1 → Stp M H M1 H1 → Q1 v H1) : lif K W R1 t σ H Q1 :=
  ⟨τ, M, G, D0.ex τ, ⟨S.rs, S.co, fun d M' v H' g r c s => k d M' v H' g r (S.go (S.rs.stp s) c s) s, fun x M' c d H' h r c' s => S.xc x τ M' c d σ H' h r (S.rs.stp s) c' s⟩, h⟩
theorem SitS.next (S : SitS K W τ M σ H D0 D1) (h : D0.nx τ M) : D1.nx σ H := S.nx τ M σ H h S.rs S.co (Stp.refl M H)
end

/-- what a target does -/
abbrev DTG := D → DSt → Mu → (DSt → Mu → Prop) → DX → Prop
abbrev DTGs := List D → DSt → Mu → (DSt → Mu → Prop) → DX → Prop
structure SitG (K : PySem.W.Frag) (W : WX) (τ : DSt) (M : Mu) (σ : L2.St) (H : Hp) (Q0 : DSt → Mu → Prop) (E0 : DX) (Q : L2.St → Hp → Prop) : Prop where
  rs : RepS K M H τ σ
  co : Cor K M H
  q : ∀ τ' M' σ' H', Q0 τ' M' → RepS K M' H' τ' σ' → Cor K M' H' → Stp M H M' H' → Q σ' H'
  e : ∀ x M' c d H', E0 x M' → RepX K M' H' x c d → Cor K M' H' → Stp M H M' H' → W c d σ H'
def lifG (K : PySem.W.Frag) (W : WX) (g : DTG) : TG := fun v σ H Q => ∃ d τ M Q0 E0, Rep K M H d v ∧ SitG K W τ M σ H Q0 E0 Q ∧ g d τ M Q0 E0
def lifGs (K : PySem.W.Frag) (W : WX) (g : DTGs) : TGs := fun vs σ H Q => ∃ ds τ M Q0, Reps K M H ds vs ∧ SitG K W τ M σ H Q0 (fun _ _ => False) Q ∧ g ds τ M Q0 (fun _ _ => False)
abbrev DG (X : Cx) (W : WX) (tg : Expr) (g : DTG) : Prop := PG X tg (lifG X.K W g)
abbrev DGs (X : Cx) (W : WX) (tg : List Expr) (g : DTGs) : Prop := PGs X tg (lifGs X.K W g)
theorem PG.of {X : Cx} {e : Expr} {t t0 : TG} (h : PG X e t0) (k : ∀ v σ H Q, t v σ H Q → t0 v σ H Q) : PG X e t := ⟨fun pins s σ H v u Q I r q => h.run pins s σ H v u Q I r (k v σ H Q q)⟩
theorem PGs.of {X : Cx} {e : List Expr} {t t0 : TGs} (h : PGs X e t0) (k : ∀ v σ H Q, t v σ H Q → t0 v σ H Q) : PGs X e t := ⟨fun pins s σ H v u Q I r q => h.run pins s σ H v u Q I r (k v σ H Q q)⟩
def dgName (i : Nat) : DTG := fun d τ M Q _ => Q (τ.set i (some d)) M
def dgNil : DTGs := fun ds τ M Q _ => match ds with
  | [] => Q τ M
  | _ => False
/-- only names may stand in a tuple of targets: E is not asked -/
def dgCons (i : Nat) (u : DTGs) : DTGs := fun ds τ M Q E => match ds with
  | d :: r => u r (τ.set i (some d)) M Q E
  | _ => False
def dgTup (n : Nat) (u : DTGs) : DTG := fun d τ M Q _ => match d with
  | .tup ds => ds.length = n ∧ u ds τ M Q (fun _ _ => False)
  | _ => False
def dgLst (n : Nat) (u : DTGs) : DTG := fun d τ M Q _ => match d with
  | .lst ds => ds.length = n ∧ u ds τ M Q (fun _ _ => False)
  | _ => False
/-- o[i] = d -/
abbrev DSet := D → D → D → Mu → (Mu → Prop) → Prop
def gSet : DSet := fun o i d M Q => match o, i with
  | .ref a, .int k => (match M a with
    | some (.lst ds) => (match ixN ds.length k with
      | some j => Q (put M a (.lst (ds.set j d)))
      | none => False)
    | _ => False)
  | _, _ => False
def dgSub (to ti : DTE) (g : DSet) : DTG := fun d τ M Q E => to τ M (fun o M1 => ti τ M1 (fun i M2 => g o i d M2 (fun M3 => Q τ M3)) E) E
section
variable {X : Cx} {W : WX} {a b c e o i : Expr} {rest es : List Expr} {ta tb tc te to ti : DTE} {tl : DTA} {tt : DTT} {pos apos cpos p : Pos} {x : Str}
theorem SitG.sub {K : PySem.W.Frag} {τ : DSt} {M : Mu} {σ : L2.St} {H : Hp} {Q0 : DSt → Mu → Prop} {E0 : DX} {Q : L2.St → Hp → Prop} (S : SitG K W τ M σ H Q0 E0 Q) {γ δ : Type} {R1 : Mu → Hp → γ → δ → Prop} {t : DR γ} {G : γ → Mu → Prop} {Q1 : δ → Hp → Prop} (h : t τ M G E0)
    (k : ∀ d M1 v H1, G d M1 → R1 M1 H1 d v → SitG K W τ M1 σ H1 Q0 E0 Q → Stp M H M1 H1 → Q1 v H1) : lif K W R1 t σ H Q1 :=
  ⟨τ, M, G, E0, ⟨S.rs, S.co, fun d M' v H' g r c s => k d M' v H' g r ⟨S.rs.stp s, c, fun a b c d h r' c' s' => S.q a b c d h r' c' (s.trans s'), fun x M' c d H' h r c' s' => S.e x M' c d H' h r c' (s.trans s')⟩ s, S.e⟩, h⟩
theorem dg_name (j : Nat) (hN : X.N.Nodup) (hi : X.N[j]? = some x := by rfl) (hx : Loc X.env.scope x := by first | exact .inl rfl | exact .inr rfl) (hf : X.fn x = true ∨ X.env.scope.names.lookup x = some .local := by first | exact .inl rfl | exact .inr rfl) : DG X W (.Name x pos) (dgName j) :=
  PG.of (pg_name hN hi hx hf) fun v σ H Q ⟨d, τ, M, Q0, E0, r, S, h⟩ => S.q _ M _ H h (S.rs.set r j) S.co (Stp.refl M H)
theorem dgs_nil : DGs X W [] dgNil := PGs.of pgs_nil fun vs σ H Q ⟨ds, τ, M, Q0, r, S, h⟩ => by
  cases ds with
  | nil => exact ⟨r.unnil, S.q _ M _ H h S.rs S.co (Stp.refl M H)⟩
  | cons d r => exact h.elim
theorem dgs_cons (j : Nat) {u : DTGs} (hN : X.N.Nodup) (h2 : DGs X W es u) (hi : X.N[j]? = some x := by rfl) (hx : Loc X.env.scope x := by first | exact .inl rfl | exact .inr rfl) (hf : X.fn x = true ∨ X.env.scope.names.lookup x = some .local := by first | exact .inl rfl | exact .inr rfl)
    (hs : (assignEach (.Name x pos :: es) X.env).map (·.2) = assign (.Name x pos) X.env :: (assignEach es X.env).map (·.2) := by rfl) : DGs X W (.Name x pos :: es) (dgCons j u) :=
  PGs.of (pgs_cons (pg_name hN hi hx hf) h2 hs) fun vs σ H Q ⟨ds, τ, M, Q0, r, S, h⟩ => by
    cases ds with
    | nil => exact h.elim
    | cons d ds =>
      obtain ⟨v, us, rfl, r1, r2⟩ := r.uncons
      exact ⟨v, us, rfl, ds, τ.set j (some d), M, Q0, r2, ⟨S.rs.set r1 j, S.co, S.q, fun _ _ _ _ _ h => h.elim⟩, h⟩
theorem dg_tup {k n : Nat} {u : DTGs} (G : Gd X W) (h : DGs X W es u) (hn : (assignEach es X.env).length = n := by rfl) (hst : (assignEach es X.env).findIdx? (·.1) = none := by rfl) : DG X W (.Tuple es k pos) (dgTup n u) :=
  PG.of (pg_tup G.calm h hn hst) fun v σ H Q ⟨d, τ, M, Q0, E0, r, S, h⟩ => by
    cases d with
    | tup ds =>
      obtain ⟨a, vs, rfl, ha, ra⟩ := rep_of_tup r
      exact ⟨a, vs, rfl, sqT_of ha, by rw [ra.length]; exact h.1, ds, τ, M, Q0, ra, ⟨S.rs, S.co, S.q, fun _ _ _ _ _ h => h.elim⟩, h.2⟩
    | _ => exact h.elim
theorem dg_lst {k n : Nat} {u : DTGs} (G : Gd X W) (h : DGs X W es u) (hn : (assignEach es X.env).length = n := by rfl) (hst : (assignEach es X.env).findIdx? (·.1) = none := by rfl) : DG X W (.Tuple es k pos) (dgLst n u) :=
  PG.of (pg_lst G.calm h hn hst) fun v σ H Q ⟨d, τ, M, Q0, E0, r, S, h⟩ => by
    cases d with
    | lst ds =>
      obtain ⟨a, vs, rfl, ha, _, ra⟩ := rep_of_lst r
      exact ⟨a, vs, rfl, .inl (.inl ha), by rw [ra.length]; exact h.1, ds, τ, M, Q0, ra, ⟨S.rs, S.co, S.q, fun _ _ _ _ _ h => h.elim⟩, h.2⟩
    | _ => exact h.elim
theorem dg_set (ho : DE X W o to) (hi : DE X W i ti) (ha : ∀ v, assign (.Subscript o i pos) X.env v = (do
      let ov ← holding [v] (eval o X.env)
      let iv ← holding [v, ov] (eval i X.env)
      standAt pos
      holding [v, ov, iv] (setItem ov iv v)
      release [v, ov, iv] []) := by intro _; rfl) : DG X W (.Subscript o i pos) (dgSub to ti gSet) :=
  PG.of (pg_sub ho hi set_list ha) fun v σ H Q ⟨d, τ, M, Q0, E0, r, S, h⟩ => S.sub h fun x M1 v1 H1 h1 r1 S1 s1 => S1.sub h1 fun y M2 v2 H2 h2 r2 S2 s2 => by
    match x, y, h2 with
    | .ref a, .int k, h2 =>
      cases r1; cases r2
      have h3 : (match M2 a with
        | some (.lst ds) => (match ixN ds.length k with
          | some j => Q0 τ (put M2 a (.lst (ds.set j d)))
          | none => False)
        | _ => False) := h2
      cases e : M2 a with
      | none => rw [e] at h3; exact h3.elim
      | some mo =>
        rw [e] at h3
        cases mo with
        | lst ds =>
          obtain ⟨vs, hv, ra⟩ := mu_lst S2.co e
          have h4 : (match ixN ds.length k with
            | some j => Q0 τ (put M2 a (.lst (ds.set j d)))
            | none => False) := h3
          cases e2 : ixN ds.length k with
          | none => rw [e2] at h4; exact h4.elim
          | some j =>
            rw [e2] at h4
            refine ⟨a, vs, k, j, rfl, rfl, hv, by rw [ra.length]; exact e2, ?_⟩
            have st := Stp.write (H := H2) (o := .lst (vs.set j v)) (mo' := .lst (ds.set j d)) e
            exact S2.q _ _ _ _ h4 (S2.rs.stp st) (S2.co.write e ⟨_, rfl, ra.set ((r.stp s1).stp s2) j⟩) st
        | _ => exact h3.elim

/-! statements -/
def dPass : DTS := fun D τ M => D.nx τ M
def dSeq (t u : DTS) : DTS := fun D τ M => t { D with nx := u D } τ M
def dSet (i : Nat) (te : DTE) : DTS := fun D τ M => te τ M (fun d M1 => D.nx (τ.set i (some d)) M1) (D.ex τ)
def dAsg (te : DTE) (g : DTG) : DTS := fun D τ M => te τ M (fun d M1 => g d τ M1 D.nx (D.ex τ)) (D.ex τ)
def dDrop (te : DTE) : DTS := fun D τ M => te τ M (fun _ M1 => D.nx τ M1) (D.ex τ)
def dRet (te : DTE) : DTS := fun D τ M => te τ M D.rt (D.ex τ)
def dRetN : DTS := fun D _ M => D.rt .non M
def dIfS (c : DTT) (t u : DTS) : DTS := fun D τ M => c τ M (fun b M1 => if b = true then t D τ M1 else u D τ M1) (D.ex τ)
def dBrk : DTS := fun D τ M => D.bk τ M
def dCnt : DTS := fun D τ M => D.ct τ M
variable {st : Stmt} {sts : List Stmt} {t u : DTS}
theorem dss_nil : DSs X W [] dPass := PSs.of pss_nil fun D1 σ H ⟨τ, M, D0, S, h⟩ => S.next h
theorem dss_cons (h1 : DS X W st t) (h2 : DSs X W sts u) : DSs X W (st :: sts) (dSeq t u) := PSs.of (pss_cons h1 h2) fun D1 σ H ⟨τ, M, D0, S, h⟩ =>
  ⟨τ, M, { D0 with nx := u D0 }, ⟨S.rs, S.co, fun τ' M' σ' H' h r c s => ⟨τ', M', D0, S.go r c s, h⟩, S.rt, S.bk, S.ct, S.xc⟩, h⟩
theorem dss_one (h1 : DS X W st t) : DSs X W [st] t := pss_one h1
theorem ds_pass : DS X W (.Pass pos) dPass := PS.of ps_pass fun D1 σ H ⟨τ, M, D0, S, h⟩ => S.next h
theorem ds_break : DS X W (.Break pos) dBrk := PS.of ps_break fun D1 σ H ⟨τ, M, D0, S, h⟩ => S.bk τ M σ H h S.rs S.co (Stp.refl M H)
theorem ds_cont : DS X W (.Continue pos) dCnt := PS.of ps_continue fun D1 σ H ⟨τ, M, D0, S, h⟩ => S.ct τ M σ H h S.rs S.co (Stp.refl M H)
theorem ds_expr (he : DE X W e te) (hs : swapsWith e none pos.line X.env = pure false := by rfl) : DS X W (.Expr e pos) (dDrop te) := PS.of (ps_expr he hs) fun D1 σ H ⟨τ, M, D0, S, h⟩ =>
  S.sub h fun d M1 v H1 h1 r1 S1 s1 => S1.next h1
theorem ds_ret (he : DE X W e te) : DS X W (.Return (some e) pos) (dRet te) := PS.of (ps_ret he) fun D1 σ H ⟨τ, M, D0, S, h⟩ => S.sub h fun d M1 v H1 h1 r1 S1 s1 => S1.rt d M1 v H1 h1 r1 S1.co (Stp.refl M1 H1)
theorem ds_retN : DS X W (.Return none pos) dRetN := PS.of ps_retN fun D1 σ H ⟨τ, M, D0, S, h⟩ => S.rt .non M .non H h rfl S.co (Stp.refl M H)
theorem ds_set (j : Nat) {pos' : Pos} (G : Gd X W) (he : DE X W e te) (hi : X.N[j]? = some x := by rfl) (hx : Loc X.env.scope x := by first | exact .inl rfl | exact .inr rfl)
    (hs : swapsWith e (some (.Name x pos')) pos.line X.env = pure false := by rfl) (hf : X.fn x = true ∨ X.env.scope.names.lookup x = some .local := by first | exact .inl rfl | exact .inr rfl) : DS X W (.Assign [.Name x pos'] e pos) (dSet j te) :=
  PS.of (ps_set G.nd hi hx he hs hf) fun D1 σ H ⟨τ, M, D0, S, h⟩ => S.sub h fun d M1 v H1 h1 r1 S1 s1 => S1.nx _ M1 _ H1 h1 (S1.rs.set r1 j) S1.co (Stp.refl M1 H1)
theorem ds_asg {tg : Expr} {g : DTG} (he : DE X W e te) (hg : DG X W tg g) (hs : swapsWithSole [tg] e pos.line X.env = pure false := by rfl) (hw : swappedStores [tg] e X.env = pure none := by rfl)
    (h1 : (assignEach [tg] X.env).map (·.2) = [assign tg X.env] := by rfl) : DS X W (.Assign [tg] e pos) (dAsg te g) :=
  PS.of (ps_asg he hg hs hw h1) fun D1 σ H ⟨τ, M, D0, S, h⟩ => S.sub h fun d M1 v H1 h1 r1 S1 s1 =>
    ⟨d, τ, M1, D0.nx, D0.ex τ, r1, ⟨S1.rs, S1.co, S1.nx, fun x M' c d H' h r c' s' => S1.xc x τ M' c d σ H' h r (S1.rs.stp s') c' s'⟩, h1⟩
theorem ds_if {sa sb : List Stmt} (hc : DT X W c tt) (ha : DSs X W sa t) (hb : DSs X W sb u) : DS X W (.If c sa sb pos) (dIfS tt t u) :=
  PS.of (ps_if hc ha hb) fun D1 σ H ⟨τ, M, D0, S, h⟩ => S.sub h fun d M1 v H1 h1 r1 S1 s1 => by
    cases r1
    cases d with
    | true => exact ⟨τ, M1, D0, S1, h1⟩
    | false => exact ⟨τ, M1, D0, S1, h1⟩

/-! ### loops -/
/-- an iterator gives these data, whatever happens meanwhile -/
def ItOk (K : PySem.W.Frag) (M : Mu) (H : Hp) (ds : List D) (J : It) : Prop := ∀ M' H', Stp M H M' H' → Cor K M' H' →
  (∀ i, ds.length ≤ i → J.stop i H') ∧ (∀ i, i < ds.length → J.go i H') ∧ ∀ i d v H2, ds[i]? = some d → J.yld i H' v H2 → Rep K M' H2 d v ∧ Cor K M' H2 ∧ Stp M' H' M' H2
abbrev DTI := DR (List D)
abbrev DI (X : Cx) (W : WX) (tg iter : Expr) (ti : DTI) : Prop := PI X tg iter (lif X.K W (ItOk X.K) ti)
theorem PI.of {X : Cx} {tg e : Expr} {t t0 : TI} (h : PI X tg e t0) (k : ∀ σ H R, t σ H R → t0 σ H R) : PI X tg e t := ⟨fun pins s σ H R I q => h.run pins s σ H R I (k σ H R q)⟩
def wFor (g : DTG) (tb : DTS) (D0 : DEnds) : List D → DSt → Mu → Prop
  | [], τ, M => D0.nx τ M
  | d :: ds, τ, M => g d τ M (fun τ1 M1 => tb { D0 with nx := wFor g tb D0 ds, ct := wFor g tb D0 ds, bk := D0.nx } τ1 M1) (D0.ex τ)
def dFor (ti : DTI) (g : DTG) (tb : DTS) : DTS := fun D0 τ M => ti τ M (fun ds M1 => wFor g tb D0 ds τ M1) (D0.ex τ)
theorem ds_for {tg iter : Expr} {body : List Stmt} {ti : DTI} {g : DTG} {tb : DTS} (G : Gd X W) (hi : DI X W tg iter ti) (hg : DG X W tg g) (hb : DSs X W body tb) (hs : ∀ x, foldedSetIterable iter X.env x = pure x := by intro _; rfl) :
    DS X W (.For tg iter body [] pos) (dFor ti g tb) :=
  PS.of (ps_for G.own G.calm hi hg hb hs) fun D1 σ H ⟨τ, M, D0, S, h⟩ => S.sub h fun ds M1 J H1 h1 r1 S1 s1 => by
    refine ⟨fun i m σ2 H2 => m = ds.length - i ∧ i ≤ ds.length ∧ ∃ τ2 M2, Stp M1 H1 M2 H2 ∧ SitS X.K W τ2 M2 σ2 H2 D0 D1 ∧ wFor g tb D0 (ds.drop i) τ2 M2, ⟨ds.length, rfl, Nat.zero_le _, τ, M1, Stp.refl M1 H1, S1, h1⟩, ?_⟩
    rintro i m σ2 H2 ⟨rfl, hi, τ2, M2, s2, S2, h2⟩
    obtain ⟨k1, k2, k3⟩ := r1 M2 H2 s2 S2.co
    by_cases hlt : i < ds.length
    · have e : ds.drop i = ds[i] :: ds.drop (i + 1) := List.drop_eq_getElem_cons hlt
      rw [e] at h2
      refine .inr ⟨k2 i hlt, fun σ3 H3 => ∃ τ3 M3, Stp M1 H1 M3 H3 ∧ SitS X.K W τ3 M3 σ3 H3 D0 D1 ∧ wFor g tb D0 (ds.drop (i + 1)) τ3 M3, fun σ3 H3 q => ⟨ds.length - (i + 1), by omega, rfl, hlt, q⟩, fun x H3 y => ?_⟩
      obtain ⟨y1, y2, y3⟩ := k3 i ds[i] x H3 (List.getElem?_eq_getElem hlt) y
      have S3 := S2.go (S2.rs.stp y3) y2 y3
      refine ⟨ds[i], τ2, M2, _, D0.ex τ2, y1, ⟨S3.rs, S3.co, fun τ4 M4 σ4 H4 h4 r4 c4 s4 => ?_, fun x M' c d H' h r c' s' => S3.xc x τ2 M' c d σ2 H' h r (S3.rs.stp s') c' s'⟩, h2⟩
      have S4 := S3.go r4 c4 s4
      exact ⟨τ4, M4, { D0 with nx := wFor g tb D0 (ds.drop (i + 1)), ct := wFor g tb D0 (ds.drop (i + 1)), bk := D0.nx }, ⟨S4.rs, S4.co, fun a b c d h r c' s => ⟨a, b, (s2.trans (y3.trans s4)).trans s, S4.go r c' s, h⟩, S4.rt, S4.nx, fun a b c d h r c' s => ⟨a, b, (s2.trans (y3.trans s4)).trans s, S4.go r c' s, h⟩, S4.xc⟩, h4⟩
    · have e : i = ds.length := by omega
      rw [e, List.drop_length] at h2
      exact .inl ⟨k1 i (by omega), S2.next h2⟩
def dWhile (c : DTT) (tb : DTS) : DTS := fun D0 τ M => ∃ I : Nat → DSt → Mu → Prop, (∃ n, I n τ M) ∧ ∀ n τ M, I n τ M →
  c τ M (fun b M1 => if b = true then tb { D0 with nx := fun τ' M' => ∃ n', n' < n ∧ I n' τ' M', ct := fun τ' M' => ∃ n', n' < n ∧ I n' τ' M', bk := D0.nx } τ M1 else D0.nx τ M1) (D0.ex τ)
theorem ds_while {c : Expr} {body : List Stmt} {tc : DTT} {tb : DTS} (G : Gd X W) (hc : DT X W c tc) (hb : DSs X W body tb) : DS X W (.While c body [] pos) (dWhile tc tb) :=
  PS.of (ps_while G.own hc hb) fun D1 σ H ⟨τ, M, D0, S, I, ⟨n0, i0⟩, turn⟩ => by
    refine ⟨fun n σ2 H2 => ∃ τ2 M2, SitS X.K W τ2 M2 σ2 H2 D0 D1 ∧ I n τ2 M2, ⟨n0, τ, M, S, i0⟩, ?_⟩
    rintro n σ2 H2 ⟨τ2, M2, S2, i2⟩
    refine S2.sub (turn n τ2 M2 i2) fun b M3 v H3 h3 r3 S3 s3 => ?_
    cases r3
    cases b with
    | false => exact S3.next h3
    | true =>
      refine ⟨fun σ4 H4 => ∃ n', n' < n ∧ ∃ τ4 M4, SitS X.K W τ4 M4 σ4 H4 D0 D1 ∧ I n' τ4 M4, fun σ4 H4 ⟨n', l, q⟩ => ⟨n', l, q⟩, τ2, M3, { D0 with nx := fun τ' M' => ∃ n', n' < n ∧ I n' τ' M', ct := fun τ' M' => ∃ n', n' < n ∧ I n' τ' M', bk := D0.nx }, ⟨S3.rs, S3.co, ?_, S3.rt, S3.nx, ?_, S3.xc⟩, h3⟩
      · rintro a b c d ⟨n', l, q⟩ r c' s
        exact ⟨n', l, a, b, S3.go r c' s, q⟩
      · rintro a b c d ⟨n', l, q⟩ r c' s
        exact ⟨n', l, a, b, S3.go r c' s, q⟩

/-! what is walked -/
def diStr (te : DTE) : DTI := fun τ M Q E => te τ M (fun d M1 => match d with
  | .str x => Q (x.map fun c => D.str [c]) M1
  | _ => False) E
def diLst (te : DTE) : DTI := fun τ M Q E => te τ M (fun d M1 => match d with
  | .lst ds => Q ds M1
  | _ => False) E
def diTup (te : DTE) : DTI := fun τ M Q E => te τ M (fun d M1 => match d with
  | .tup ds => Q ds M1
  | _ => False) E
/-- 0, 1, .. below n; lo, lo + 1, .. -/
def upTo (lo : Int) (n : Nat) : List D := (List.range n).map fun i : Nat => D.int (lo + i)
def diRng1 (ta : DTA) : DTI := fun τ M Q E => ta τ M (fun ds M1 => match ds with
  | [.int j] => -(2 ^ 62) ≤ j ∧ j < 2 ^ 62 ∧ Q (upTo 0 j.toNat) M1
  | _ => False) E
def diRng2 (ta : DTA) : DTI := fun τ M Q E => ta τ M (fun ds M1 => match ds with
  | [.int i, .int j] => (-(2 ^ 62) ≤ i ∧ i < 2 ^ 62 ∧ -(2 ^ 62) ≤ j ∧ j < 2 ^ 62) ∧ Q (upTo i (j - i).toNat) M1
  | _ => False) E
theorem upTo_len (lo : Int) (n : Nat) : (upTo lo n).length = n := by simp [upTo]
theorem upTo_get {lo : Int} {n i : Nat} {d : D} (h : (upTo lo n)[i]? = some d) : d = .int (lo + i) := by
  unfold upTo at h
  rw [List.getElem?_map] at h
  cases e : (List.range n)[i]? with
  | none => rw [e] at h; cases h
  | some j =>
    rw [e] at h
    have := List.getElem?_range (n := n) (i := i)
    cases h
    have hl : i < n := by
      have := (List.getElem?_eq_some_iff.mp e).1
      simpa using this
    rw [List.getElem?_range hl] at e
    cases e
    rfl
theorem it_rng {K : PySem.W.Frag} {M : Mu} {H : Hp} (lo : Int) (n : Nat) : ItOk K M H (upTo lo n) (Itr lo n) := fun M' H' s c => by
  refine ⟨fun i h => by rw [upTo_len] at h; exact h, fun i h => by rw [upTo_len] at h; exact h, fun i d v H2 h y => ?_⟩
  obtain ⟨rfl, rfl⟩ := y
  rw [upTo_get h]
  exact ⟨rfl, c, Stp.refl M' _⟩
theorem it_lst {K : PySem.W.Frag} {M : Mu} {H : Hp} {a : Addr} {ds : List D} {vs : List V} (ha : H a = some (.lst vs)) (ma : M a = none) (ra : Reps K M H ds vs) : ItOk K M H ds (Itl K a) := fun M' H' s c => by
  have q : SqL K H' a vs := .inl (.inl (s a _ ha ma).1)
  have r := ra.stp s
  refine ⟨fun i h => ⟨vs, q, by rw [ra.length]; exact h⟩, fun i h => ?_, fun i d v H2 h y => ?_⟩
  · obtain ⟨v, h1, _⟩ := r.get (List.getElem?_eq_getElem h)
    exact ⟨vs, v, q, h1⟩
  · obtain ⟨rfl, y⟩ := y
    obtain ⟨u, h1, h2⟩ := r.get h
    have := y vs q
    rw [h1] at this
    cases this
    exact ⟨h2, c, Stp.refl M' _⟩
theorem it_tup {K : PySem.W.Frag} {M : Mu} {H : Hp} {a : Addr} {ds : List D} {vs : List V} (ha : (H a = some (.tup vs) ∧ M a = none) ∨ WrT K a vs) (ra : Reps K M H ds vs) : ItOk K M H ds (Itt K a) := fun M' H' s c => by
  have q : SqT K H' a vs := ha.elim (fun z => .inl (.inl (s a _ z.1 z.2).1)) .inr
  have r := ra.stp s
  refine ⟨fun i h => ⟨vs, q, by rw [ra.length]; exact h⟩, fun i h => ?_, fun i d v H2 h y => ?_⟩
  · obtain ⟨v, h1, _⟩ := r.get (List.getElem?_eq_getElem h)
    exact ⟨vs, v, q, h1⟩
  · obtain ⟨rfl, y⟩ := y
    obtain ⟨u, h1, h2⟩ := r.get h
    have := y vs q
    rw [h1] at this
    cases this
    exact ⟨h2, c, Stp.refl M' _⟩
theorem it_str {K : PySem.W.Frag} {M : Mu} {H : Hp} (x : Tx) : ItOk K M H (x.map fun c => D.str [c]) (Its (sx x)) := fun M' H' s c => by
  have e : (sx x).cps.size = x.length := by simp [sx]
  refine ⟨fun i h => by show (sx x).cps.size ≤ i; rw [e]; simpa using h, fun i h => by show i < (sx x).cps.size; rw [e]; simpa using h, fun i d v H2 h y => ?_⟩
  obtain ⟨rfl, k, hk, rfl⟩ := y
  rw [List.getElem?_map] at h
  have e2 : x[i]? = some k := by simpa [sx] using hk
  rw [e2] at h
  cases h
  exact ⟨rfl, c, Stp.refl M' _⟩
theorem di_str {tg : Expr} (h : DE X W e te) : DI X W tg e (diStr te) := PI.of (pi_str h) fun σ H R ⟨τ, M, Q0, E0, S, h⟩ => S.sub h fun d M1 v H1 h1 r1 S1 s1 => by
  cases d with
  | str x => exact ⟨sx x, r1, S1.end_ h1 (it_str x)⟩
  | _ => exact h1.elim
theorem di_lst {tg : Expr} (h : DE X W e te) : DI X W tg e (diLst te) := PI.of (pi_list h) fun σ H R ⟨τ, M, Q0, E0, S, h⟩ => S.sub h fun d M1 v H1 h1 r1 S1 s1 => by
  cases d with
  | lst ds =>
    obtain ⟨a, vs, rfl, ha, ma, ra⟩ := rep_of_lst r1
    exact ⟨a, rfl, ⟨vs, .inl (.inl ha)⟩, S1.end_ h1 (it_lst ha ma ra)⟩
  | _ => exact h1.elim
theorem di_tup {tg : Expr} (h : DE X W e te) : DI X W tg e (diTup te) := PI.of (pi_tup h) fun σ H R ⟨τ, M, Q0, E0, S, h⟩ => S.sub h fun d M1 v H1 h1 r1 S1 s1 => by
  cases d with
  | tup ds =>
    obtain ⟨a, vs, rfl, ha, ra⟩ := rep_of_tup r1
    exact ⟨a, rfl, ⟨vs, sqT_of ha⟩, S1.end_ h1 (it_tup ha ra)⟩
  | _ => exact h1.elim
theorem di_rng1 {tg : Expr} (hm : X.mg "range" = none) (ha : DA X W [a] tl) (hg : Gl X "range" := by rfl) (hs : starEach [a] X.env = [(false, eval a X.env)] := by rfl) : DI X W tg (.Call (.Name "range" p) [a] [] pos) (diRng1 tl) :=
  PI.of (pi_range1 hg hm ha hs) fun σ H R ⟨τ, M, Q0, E0, S, h⟩ => S.sub h fun ds M1 vs H1 h1 r1 S1 s1 => by
    match ds, h1 with
    | [.int j], h1 =>
      obtain ⟨v, u, rfl, r2, r3⟩ := r1.uncons
      cases r3.unnil; cases r2
      exact ⟨j, rfl, h1.1, h1.2.1, S1.end_ h1.2.2 (it_rng 0 _)⟩
theorem di_rng2 {tg : Expr} (hm : X.mg "range" = none) (ha : DA X W [a, b] tl) (hg : Gl X "range" := by rfl) (hs : starEach [a, b] X.env = [(false, eval a X.env), (false, eval b X.env)] := by rfl) (hs2 : starEach [b] X.env = [(false, eval b X.env)] := by rfl) :
    DI X W tg (.Call (.Name "range" p) [a, b] [] pos) (diRng2 tl) :=
  PI.of (pi_range2 hg hm ha hs hs2) fun σ H R ⟨τ, M, Q0, E0, S, h⟩ => S.sub h fun ds M1 vs H1 h1 r1 S1 s1 => by
    match ds, h1 with
    | [.int i, .int j], h1 =>
      obtain ⟨v, u, rfl, r2, r3⟩ := r1.uncons
      obtain ⟨v, u, rfl, r4, r5⟩ := r3.uncons
      cases r5.unnil; cases r2; cases r4
      exact ⟨i, j, rfl, h1.1, S1.end_ h1.2 (it_rng i _)⟩

end

/-! ### a def -/
/-- the def st keeps the promise sp: its body by a term t -/
theorem def_ok {P : Program} {w : World} {K : PySem.W.Frag} {mg : Str → Option Value} {base : Heap} {x qual : Str} {st : Stmt} {f : Addr} {fd : FuncData} {N ps : List Str} {k : Nat} {sp : DSp} {t : DTS}
    (F : FunD K x qual (defArgs st) (defBody st) (defScope st) [] [] f fd) (S : FnScope N ps (defScope st)) (len : ∀ ds M Q E, sp ds M Q E → ds.length = ps.length)
    (hd : ∀ (cdv : Value) (A : Around) (outer : List Env) (s : Shared) (H : Hp) (E : XK), Gd (cxOf (L2.CX P w) P w K mg base N qual (defScope st) f cdv A outer s H E) (fun c d _ H => E c d H) → Room k (cxOf (L2.CX P w) P w K mg base N qual (defScope st) f cdv A outer s H E).A →
      DSs (cxOf (L2.CX P w) P w K mg base N qual (defScope st) f cdv A outer s H E) (fun c d _ H => E c d H) (defBody st) t)
    (hp : ∀ ds M Q E, sp ds M Q E → t { nx := fun _ M' => Q .non M', rt := Q, xc := fun x _ M' => E x M' } (ds.map some ++ List.replicate (N.length - ps.length) none) M) :
    FnOk P w K mg base (L2.CX P w) (k + 1) f fd ps (lsp K sp) := by
  refine F.ok S (fun vs H Q E h => ?_) (fun cdv A outer s H vs Q E hr h => ?_)
  · obtain ⟨ds, M, Q0, E0, r, c, h, _⟩ := h
    rw [r.length]
    exact len ds M Q0 E0 h
  · obtain ⟨ds, M, Q0, E0, r, c, h, hq, he⟩ := h
    have hl := len ds M Q0 E0 h
    refine ⟨lifS K (fun c d _ H => E c d H) t, ?_, ?_⟩
    · refine hd cdv A outer s H E ?_ hr
      exact ⟨rfl, takes_of rfl rfl rfl rfl, by have := hr.un; show A.units + 3 + 64 < cLine; have e : (A.deeper (PyProof.Rows.envOfC qual (defScope st) s.heap.objs.size f cdv)).units = A.units + 3 := rfl; omega, passes_of rfl, S.nd⟩
    · refine ⟨_, M, { nx := fun _ M' => Q0 .non M', rt := Q0, xc := fun x _ M' => E0 x M' }, ⟨?_, c, fun τ' M' σ' H' h r c' s' => hq .non M' .non H' h rfl c' s', hq, fun _ _ _ _ h => h.elim, fun _ _ _ _ h => h.elim, fun x τ' M' c d σ' H' h r _ c' s' => he x M' c d H' h r c' s'⟩, hp ds M Q0 E0 h⟩
      unfold L2.start
      rw [r.length, hl]
      exact RepS.start _ r
theorem FnM.of {P : Program} {w : World} {K : PySem.W.Frag} {mg : Str → Option Value} {base : Heap} {k : Nat} {x : Str} {f : Addr} {fd : FuncData} {ps : List Str} {sp : DSp} (F : FnOk P w K mg base (L2.CX P w) k f fd ps (lsp K sp)) (hm : mg x = some (.ref f))
    (hk : PySem.W.keepIn K (.ref f) = true) (hb : Binds K fd ps []) : FnM P w K mg base k x sp := ⟨f, fd, ps, F, hm, hk, hb⟩
end DL

namespace DL
open PySem L2
section
variable {X : Cx} {W : WX} {a b c e o i : Expr} {rest es : List Expr} {ta tb tc te to ti : DTE} {tl : DTA} {tt : DTT} {pos apos cpos p : Pos} {x : Str}
/-! ### constants of the module -/
theorem de_gs {z : Str} (h : ∃ t, X.mg x = some (.str z t)) (hg : Gl X x := by rfl) (hd : (x == ("__debug__" : Str)) = false := by decide) : DE X W (.Name x pos) (dC (.str (T z))) := by
  obtain ⟨t, h⟩ := h
  refine de_glob (v := .str z) hg h ⟨t, rfl⟩ (fun M H => ?_) hd
  show V.str z = V.str (sx (T z))
  rw [sx_T]
theorem de_gsc {z : Str} {u : Tx} (h : ∃ t, X.mg x = some (.str z t)) (e : T z = u) (hg : Gl X x := by rfl) (hd : (x == ("__debug__" : Str)) = false := by decide) : DE X W (.Name x pos) (dC (.str u)) := by
  rw [← e]
  exact de_gs h hg hd
theorem de_strc {z : Str} {t : Tx} {j : Nat} (h : T z = t) : DE X W (.Constant (.str z) j pos) (dC (.str t)) := by
  rw [← h]
  exact de_str
theorem de_gi {z : Int} (h : ∃ t, X.mg x = some (.int z t)) (hg : Gl X x := by rfl) (hd : (x == ("__debug__" : Str)) = false := by decide) : DE X W (.Name x pos) (dC (.int z)) := by
  obtain ⟨t, h⟩ := h
  exact de_glob (v := .int z) hg h ⟨t, rfl⟩ (fun M H => rfl) hd
/-- a tuple of texts of the written part -/
theorem de_gt {f : Addr} {zs : List Str} (h : X.mg x = some (.ref f)) (hw : WrT X.K f (zs.map V.str)) (hg : Gl X x := by rfl) (hd : (x == ("__debug__" : Str)) = false := by decide) : DE X W (.Name x pos) (dC (.tup (zs.map fun z => D.str (T z)))) := by
  refine de_glob (v := .ref f) hg h rfl (fun M H => ?_) hd
  unfold Rep
  refine ⟨f, _, rfl, .inr hw, ?_⟩
  have e : zs.map (fun z => D.str (T z)) = (zs.map T).map D.str := by rw [List.map_map]; rfl
  have e2 : zs.map V.str = ((zs.map T).map sx).map V.str := by
    rw [List.map_map, List.map_map]
    exact List.map_congr_left fun z _ => by show V.str z = V.str (sx (T z)); rw [sx_T]
  rw [e, e2]
  exact Reps.of_strs _

/-! ### is None -/
def gIsNN (nb : Bool → Bool) : DOp := fun x y M Q => match y with
  | .non => (match x with
    | .non => Q (.bl (nb true)) M
    | _ => Q (.bl (nb false)) M)
  | _ => False
abbrev gIsN : DOp := gIsNN id
abbrev gNotN : DOp := gIsNN not
theorem od_isNN {K : PySem.W.Frag} {nb : Bool → Bool} : OpD K (gIsNN nb) (fun x y H Q => y = .non ∧ Q (.bl (nb (decide (x = .non)))) H) := fun M H x y v u Q0 Q c rx ry h q => by
  have fin : ∀ b, Q0 (.bl b) M → Q (.bl b) H := fun b z => q _ M _ H z rfl c (Stp.refl M H)
  cases y with
  | non =>
    cases ry
    refine ⟨rfl, ?_⟩
    cases x with
    | non => cases rx; exact fin _ h
    | bl _ => cases rx; exact fin _ h
    | int _ => cases rx; exact fin _ h
    | str _ => cases rx; exact fin _ h
    | ref _ => cases rx; exact fin _ h
    | ty _ => cases rx; exact fin _ h
    | scr _ => obtain ⟨a, rfl, _⟩ := (show ∃ a, v = .ref a ∧ _ from rx); exact fin _ h
    | cl _ => cases rx; exact fin _ h
    | exc _ _ _ _ _ => obtain ⟨rfl, _⟩ := (show v = _ ∧ _ from rx); exact fin _ h
    | lst _ => obtain ⟨a, vs, rfl, _⟩ := rep_of_lst rx; exact fin _ h
    | tup _ => obtain ⟨a, vs, rfl, _⟩ := rep_of_tup rx; exact fin _ h
  | _ => exact h.elim
theorem od_isN {K : PySem.W.Frag} : OpD K gIsN (fun x y H Q => y = .non ∧ Q (.bl (decide (x = .non))) H) := od_isNN (nb := id)
theorem od_notN {K : PySem.W.Frag} : OpD K gNotN (fun x y H Q => y = .non ∧ Q (.bl (!decide (x = .non))) H) := od_isNN (nb := not)

/-! ### a walk over what there is -/
def iAny (K : PySem.W.Frag) (te : TE) : TI := fun σ H R => te σ H fun v H1 => (∃ z, v = .str z ∧ R (Its z) H1) ∨ (∃ a, v = .ref a ∧ (∃ xs, SqL K H1 a xs) ∧ R (Itl K a) H1) ∨ ∃ a, v = .ref a ∧ (∃ xs, SqT K H1 a xs) ∧ R (Itt K a) H1
theorem pi_any {tg : Expr} {te : TE} (he : PE X e te) : PI X tg e (iAny X.K te) := ⟨fun pins s σ H R I h => thn (he.run pins s σ H _ I h) fun v s1 hv => by
  obtain ⟨y, H1, J1, ry, hy⟩ := hv
  rcases hy with ⟨z, rfl, hR⟩ | ⟨a, rfl, ⟨xs, hs⟩, hR⟩ | ⟨a, rfl, ⟨xs, hs⟩, hR⟩
  · obtain ⟨tk, rfl⟩ := ry
    cases hz : z.cps.all (· < 128) with
    | false => exact wpAny_pyIter_wide hz (pi_one (tk := s1.toks) J1 _ (turn_str _ z tk _ (.inr rfl)) ⟨_, Heap.get?_push_size _ rfl, rfl, rfl⟩ hR)
    | true => exact wpAny_pyIter_ascii hz (pi_one (tk := s1.toks) J1 _ (turn_str _ z tk _ (.inl rfl)) ⟨_, Heap.get?_push_size _ rfl, rfl, rfl⟩ hR)
  · cases ry
    obtain ⟨its, rv, pl, hz⟩ := J1.list hs
    exact wpAny_pyIter_list pl.isList (pi_one (tk := s1.toks) J1 _ (turn_list a _) ⟨_, Heap.get?_push_size _ rfl, rfl, rfl⟩ hR)
  · cases ry
    obtain ⟨its, rv, pl, hz⟩ := J1.tuple hs
    exact wpAny_pyIter_tuple pl (pi_one (tk := s1.toks) J1 _ (turn_tuple a _) ⟨_, Heap.get?_push_size _ rfl, rfl, rfl⟩ hR)⟩
/-- the items of a text, a list, a tuple -/
def itemsD : D → Option (List D)
  | .str x => some (x.map fun c => D.str [c])
  | .lst ds => some ds
  | .tup ds => some ds
  | _ => none
def diAny (te : DTE) : DTI := fun τ M Q E => te τ M (fun d M1 => match itemsD d with
  | some ds => Q ds M1
  | none => False) E
theorem di_any {tg : Expr} (h : DE X W e te) : DI X W tg e (diAny te) := PI.of (pi_any h) fun σ H R ⟨τ, M, Q0, E0, S, h⟩ => S.sub h fun d M1 v H1 h1 r1 S1 s1 => by
  cases d with
  | str x => exact .inl ⟨sx x, r1, S1.end_ h1 (it_str x)⟩
  | lst ds =>
    obtain ⟨a, vs, rfl, ha, ma, ra⟩ := rep_of_lst r1
    exact .inr (.inl ⟨a, rfl, ⟨vs, .inl (.inl ha)⟩, S1.end_ h1 (it_lst ha ma ra)⟩)
  | tup ds =>
    obtain ⟨a, vs, rfl, ha, ra⟩ := rep_of_tup r1
    exact .inr (.inr ⟨a, rfl, ⟨vs, sqT_of ha⟩, S1.end_ h1 (it_tup ha ra)⟩)
  | _ => exact h1.elim
/-- the law's own list of numbers -/
theorem it_scr {K : PySem.W.Frag} {M : Mu} {H : Hp} {a : Addr} {ns : List Int} (ha : ((∃ o, H a = some (.frz o (.lst (ns.map V.int)))) ∧ M a = none) ∨ WrL K a (ns.map V.int)) : ItOk K M H (ns.map D.int) (Itl K a) := fun M' H' s c => by
  have q : SqL K H' a (ns.map V.int) := scr_sq (M := M') (ha.elim (fun z => .inl (z.1.elim fun o e => ⟨⟨o, (s a _ e z.2).1⟩, (s a _ e z.2).2⟩)) .inr)
  have r : Reps K M' H' (ns.map D.int) (ns.map V.int) := Reps.of_ints ns
  refine ⟨fun i h => ⟨_, q, by rw [r.length]; exact h⟩, fun i h => ?_, fun i d v H2 h y => ?_⟩
  · obtain ⟨v, h1, _⟩ := r.get (List.getElem?_eq_getElem h)
    exact ⟨_, v, q, h1⟩
  · obtain ⟨rfl, y⟩ := y
    obtain ⟨u, h1, h2⟩ := r.get h
    have := y _ q
    rw [h1] at this
    cases this
    exact ⟨h2, c, Stp.refl M' _⟩
def diScr (te : DTE) : DTI := fun τ M Q E => te τ M (fun d M1 => match d with
  | .scr ns => Q (ns.map D.int) M1
  | _ => False) E
theorem di_scr {tg : Expr} (h : DE X W e te) : DI X W tg e (diScr te) := PI.of (pi_any h) fun σ H R ⟨τ, M, Q0, E0, S, h⟩ => S.sub h fun d M1 v H1 h1 r1 S1 s1 => by
  cases d with
  | scr ns =>
    obtain ⟨a, rfl, ha⟩ := (show ∃ a, v = .ref a ∧ _ from r1)
    exact .inr (.inl ⟨a, rfl, ⟨_, scr_sq ha⟩, S1.end_ h1 (it_scr ha)⟩)
  | _ => exact h1.elim
/-- a call without arguments -/
theorem de_call0 {k : Nat} {sp : DSp} (F : FnM X.prog X.w X.K X.mg X.base k x sp) (G : Gd X W) (hr : Room k X.A) (hg : Gl X x := by rfl) (hdb : (x == ("__debug__" : Str)) = false := by decide) : DE X W (.Call (.Name x p) [] [] pos) (dCall sp daNil) := by
  obtain ⟨f, fd, ps, Fk, hm, hk, hb⟩ := F.ex
  refine ⟨fun pins s σ H Q I h => ?_⟩
  obtain ⟨τ, M, Q0, E0, S, h⟩ := h
  refine wpAny_Call_Name_kw (ld_glob I hg hm ?_ hdb)
  exact PySem.W.callWith_K0 I.kIn hk (run_fnS (us := []) (E := WE W) Fk hr hb (passAt G.tk σ) I .nil ⟨[], M, Q0, E0, .nil, S.co, h, S.q, S.e⟩)
/-! ### a slot is told anew: what it holds is to change no more -/
theorem RepS.reset {K : PySem.W.Frag} {M : Mu} {H : Hp} {d : D} {v : V} (rp : Rep K M H d v) : ∀ {ds : List (Option D)} {vs : List (Option V)} (i : Nat), RepS K M H ds vs → vs[i]? = some (some v) → RepS K M H (ds.set i (some d)) vs
  | [], _, _, h, _ => h
  | .none :: ds, _, 0, ⟨u, r, e, h⟩, q => by subst e; have q2 : u = some v := by simpa using q
                                             rw [q2]; exact ⟨v, r, rfl, rp, h⟩
  | some _ :: ds, _, 0, ⟨u, r, e, _, h⟩, q => by subst e; have q2 : u = v := by simpa using q
                                                 rw [q2]; exact ⟨v, r, rfl, rp, h⟩
  | .none :: ds, _, i + 1, ⟨u, r, e, h⟩, q => by subst e; exact ⟨u, r, rfl, RepS.reset rp i h (by simpa using q)⟩
  | some x :: ds, _, i + 1, ⟨u, r, e, h1, h⟩, q => by subst e; exact ⟨u, r, rfl, h1, RepS.reset rp i h (by simpa using q)⟩
def dFz (i : Nat) (t : DTS) : DTS := fun D0 τ M => match τ[i]? with
  | some (some (.ref a)) => (match M a with
    | some (.lst ds) => t D0 (τ.set i (some (.lst ds))) (del M a)
    | _ => False)
  | _ => False
theorem dss_fz {sts : List Stmt} {t : DTS} (j : Nat) (h : DSs X W sts t) : DSs X W sts (dFz j t) := PSs.of h fun D1 σ H ⟨τ, M, D0, S, h⟩ => by
  unfold dFz at h
  split at h
  · rename_i a e
    obtain ⟨v, e2, r⟩ := S.rs.get e
    cases r
    split at h
    · rename_i ds e3
      obtain ⟨vs, ha, ra⟩ := mu_lst S.co e3
      refine ⟨_, _, D0, S.go (RepS.reset (rep_lst ha del_same (ra.stp Stp.frz)) j (S.rs.stp Stp.frz) e2) S.co.frz Stp.frz, h⟩
    · exact h.elim
  · exact h.elim
end
end DL

namespace DL
open PySem L2 PySem.Spec PyProof.Rows
/-! ### comprehensions of several clauses -/
theorem turn_mid {elt t0 i0 t1 i1 : Expr} {f0 f1 : List Expr} {gs : List Comprehension} {d : Nat} {scope : Scope} {pos : Pos} {it acc : Value} {env : Env} (h0 : gs[d]? = some ⟨t0, i0, f0, 0⟩) (h1 : gs[d + 1]? = some ⟨t1, i1, f1, 0⟩) :
    compTurn (.ListComp elt gs scope pos) d it acc env = (do
      standAt i0.pos
      match ← pyNext it with
      | none => pure (.done .next)
      | some u =>
        letOwnedTupleGo t0 it u
        assign t0 env u
        let mut yes := true
        for c in f0 do
          if yes then yes ← isTrue c env (eval c env)
        if yes then
          let z ← eval i1 env
          standAt i1.pos
          let z ← foldedSetIterable i1 env z
          let _ ← runOwn (.compStart (.ListComp elt gs scope pos) (d + 1) (← holding [z] (pyIter z)) acc env) env
        again (.compLoop (.ListComp elt gs scope pos) d it acc env)) := by
  unfold compTurn
  simp only [h0, h1]
  rfl
theorem turn_last {elt t0 i0 : Expr} {f0 : List Expr} {gs : List Comprehension} {d : Nat} {scope : Scope} {pos : Pos} {it acc : Value} {env : Env} (h0 : gs[d]? = some ⟨t0, i0, f0, 0⟩) (h1 : gs[d + 1]? = none) :
    compTurn (.ListComp elt gs scope pos) d it acc env = (do
      standAt i0.pos
      match ← pyNext it with
      | none => pure (.done .next)
      | some u =>
        letOwnedTupleGo t0 it u
        assign t0 env u
        let mut yes := true
        for c in f0 do
          if yes then yes ← isTrue c env (eval c env)
        if yes then
          (do let _ ← call (.builtin "list.append") [acc, ← eval elt env])
        again (.compLoop (.ListComp elt gs scope pos) d it acc env)) := by
  unfold compTurn
  simp only [h0, h1]
  rfl
end DL
namespace DL
open PySem L2 PySem.Spec PyProof.Rows
section
variable {prog : Program} {w : World} {A : Around} {R : Result → Shared → Prop} {s : Shared} {elt t0 i0 t1 i1 : Expr} {f0 f1 : List Expr} {gs : List Comprehension} {d : Nat} {scope : Scope} {pos : Pos} {it acc : Value} {env : Env}
abbrev noE : Value → Shared → Prop := fun _ _ => False
theorem noE_le {α : Type} {M : Model} {t : Sem α} {Q Q' : α → Shared → Prop} {E : Value → Shared → Prop} (h : wpAny M A t Q noE s) (k : ∀ a z, Q a z → Q' a z) : wpAny M A t Q' E s := wpAny_mono h k fun _ _ f => f.elim
/-- the tests of a clause -/
abbrev tsts (fs : List Expr) (env : Env) : Sem Bool := forIn fs true fun c r => if r = true then do let ok ← isTrue c env (eval c env); pure (ForInStep.yield ok) else pure (ForInStep.yield r)
/-- one turn, up to behind the tests -/
def TurnTo (prog : Program) (w : World) (A : Around) (t0 : Expr) (f0 : List Expr) (it : Value) (env : Env) (done : Shared → Prop) (yes no : Shared → Prop) (z : Shared) : Prop :=
  wpAny (model prog w) A (pyNext it) (fun r z1 => match r with
    | none => done z1
    | some u => wpAny (model prog w) A (letOwnedTupleGo t0 it u) (fun _ z2 => wpAny (model prog w) A (assign t0 env u) (fun _ z3 => wpAny (model prog w) A (tsts f0 env) (fun b z4 => if b = true then yes z4 else no z4) noE z3) noE z2) noE z1) noE z
theorem loop_mid (h0 : gs[d]? = some ⟨t0, i0, f0, 0⟩) (h1 : gs[d + 1]? = some ⟨t1, i1, f1, 0⟩) (hs : ∀ x, foldedSetIterable i1 env x = pure x) (V G : Nat → Shared → Prop)
    (turn : ∀ k z, V k z → TurnTo prog w A t0 f0 it env (R (.ok .next)) (G k) (fun z => ∃ m, m < k ∧ V m z) z)
    (step : ∀ k z, G k z → wpAny (model prog w) A (eval i1 env) (fun x z1 => wpAny (model prog w) A (pyIter x) (fun y z2 => codeAny (model prog w) A (.compStart (.ListComp elt gs scope pos) (d + 1) y acc env) (fun r z3 => match r with
      | .ok _ => ∃ m, m < k ∧ V m z3
      | .error _ => False) z2) noE z1) noE z) (n : Nat) (h : V n s) : codeAny (model prog w) A (.compLoop (.ListComp elt gs scope pos) d it acc env) R s := by
  refine codeAny_loop rfl V (fun k z hV => ?_) n h
  show wpAny _ A ((compTurn (.ListComp elt gs scope pos) d it acc env).onRaise (fun x => do noteFrame x env; theTreesLotGoes x)) _ _ z
  refine wpAny_noted ?_
  rw [turn_mid h0 h1]
  refine wpAny_bind (wpAny_standAt (wpAny_bind (noE_le (turn k z hV) fun r z1 q1 => ?_)))
  cases r with
  | none => exact wpAny_pure q1
  | some u =>
    refine wpAny_bind (noE_le q1 fun _ z2 q2 => wpAny_bind (noE_le q2 fun _ z3 q3 => wpAny_bind (noE_le q3 fun b z4 q4 => ?_)))
    cases b with
    | false => exact wpAny_pure ⟨rfl, q4⟩
    | true =>
      refine wpAny_bind (noE_le (step k z4 q4) fun x z5 q5 => ?_)
      refine wpAny_bind (wpAny_standAt (wpAny_bind (wpAny_of_eq (hs x) (wpAny_bind (wpAny_holding (noE_le q5 fun y z6 q6 => ?_))))))
      refine wpAny_bind (wpAny_runOwn ?_)
      rw [Around.mark_none]
      refine codeAny_mono q6 fun r z7 q7 => ?_
      cases r with
      | ok f =>
        first
          | exact wpAny_pure ⟨rfl, q7⟩
          | exact wpAny_bind (wpAny_pure (wpAny_pure ⟨rfl, q7⟩))
      | error e => exact q7.elim
theorem loop_last (h0 : gs[d]? = some ⟨t0, i0, f0, 0⟩) (h1 : gs[d + 1]? = none) (V G : Nat → Shared → Prop)
    (turn : ∀ k z, V k z → TurnTo prog w A t0 f0 it env (R (.ok .next)) (G k) (fun z => ∃ m, m < k ∧ V m z) z)
    (step : ∀ k z, G k z → wpAny (model prog w) A (eval elt env) (fun x z1 => wpAny (model prog w) A (call (.builtin "list.append") [acc, x]) (fun _ z2 => ∃ m, m < k ∧ V m z2) noE z1) noE z)
    (n : Nat) (h : V n s) : codeAny (model prog w) A (.compLoop (.ListComp elt gs scope pos) d it acc env) R s := by
  refine codeAny_loop rfl V (fun k z hV => ?_) n h
  show wpAny _ A ((compTurn (.ListComp elt gs scope pos) d it acc env).onRaise (fun x => do noteFrame x env; theTreesLotGoes x)) _ _ z
  refine wpAny_noted ?_
  rw [turn_last h0 h1]
  refine wpAny_bind (wpAny_standAt (wpAny_bind (noE_le (turn k z hV) fun r z1 q1 => ?_)))
  cases r with
  | none => exact wpAny_pure q1
  | some u =>
    refine wpAny_bind (noE_le q1 fun _ z2 q2 => wpAny_bind (noE_le q2 fun _ z3 q3 => wpAny_bind (noE_le q3 fun b z4 q4 => ?_)))
    cases b with
    | false => exact wpAny_pure ⟨rfl, q4⟩
    | true => exact wpAny_bind (wpAny_bind (noE_le (step k z4 q4) fun x z5 q5 => wpAny_bind (noE_le q5 fun _ z6 q6 => wpAny_pure (wpAny_pure ⟨rfl, q6⟩))))
/-- a later clause starts -/
theorem start_at (h0 : gs[d]? = some ⟨t0, i0, f0, 0⟩) (ha : codeAny (model prog w) A (.compLoop (.ListComp elt gs scope pos) d it acc env) R s)
    (hb : wpAny (model prog w) A (pyIter it) (fun y z => codeAny (model prog w) A (.compLoop (.ListComp elt gs scope pos) d y acc env) R z) (notedBy (model prog w) A env fun x z => R (.error x) z) s) :
    codeAny (model prog w) A (.compStart (.ListComp elt gs scope pos) d it acc env) R s := by
  have hcl : (clausesOf (.ListComp elt gs scope pos))[d]? = some ⟨t0, i0, f0, 0⟩ := h0
  refine codeAny_of_tree ?_
  show wpAny _ _ ((compStart (.ListComp elt gs scope pos) d it acc env).onRaise (fun x => do noteFrame x env; standAt theWindowsPlace)) _ _ s
  refine wpAny_notedAt ?_
  unfold compStart
  simp only [hcl]
  show wpAny _ _ (ask >>= _) _ _ s
  refine wpAny_bind (wpAny_askSetting (wpAny_ite ?_))
  split
  · first
      | exact wpAny_bind (wpAny_pure (wpAny_pure (And.intro rfl ha)))
      | exact wpAny_pure (And.intro rfl ha)
  · first
      | exact wpAny_bind (wpAny_rule (wpAny_bind (wpAny_standAt (wpAny_bind (wpAny_mono hb (fun y z q => wpAny_pure (And.intro rfl q)) fun _ _ x => x)))))
      | (refine wpAny_bind (wpAny_rule ?_); show wpAny _ _ (standAt i0.pos >>= _) _ _ s; exact wpAny_bind (wpAny_standAt (wpAny_bind (wpAny_mono hb (fun y z q => wpAny_pure (And.intro rfl q)) fun _ _ x => x))))
end
end DL
namespace DL
open PySem L2 PySem.Spec PyProof.Rows
/-- a clause: its text, what it does, the slots that are forgotten at each of its turns -/
structure Cl where
  tg : Expr
  iter : Expr
  ifs : List Expr
  wi : TI
  g : TG
  tt : TT
  vs : List Nat
abbrev Cl.c (c : Cl) : Comprehension := ⟨c.tg, c.iter, c.ifs, 0⟩
/-- one clause's turns; inn: what is done behind its tests -/
def wTurns (g : TG) (tt : TT) (vs : List Nat) (σ : L2.St) (inn : L2.St → Hp → (Hp → Prop) → Prop) (Nx : Hp → Prop) (J : It) (H1 : Hp) : Prop :=
  ∃ W : Nat → Nat → Hp → Prop, (∃ m, W 0 m H1) ∧ ∀ i m H, W i m H → (J.stop i H ∧ Nx H) ∨ (J.go i H ∧ ∃ N1 : Hp → Prop, (∀ H', N1 H' → ∃ m', m' < m ∧ W (i + 1) m' H') ∧
    ∀ x H', J.yld i H x H' → g x (wipe σ vs) H' fun σ2 H2 => wipe σ2 vs = wipe σ vs ∧ tt σ2 H2 fun b H3 => if b = true then inn σ2 H3 N1 else N1 H3)
def Nst (em : L2.St → Hp → (Hp → Prop) → Prop) : List Cl → L2.St → Hp → (Hp → Prop) → Prop
  | [], σ, H, Nx => em σ H Nx
  | c :: cs, σ, H, Nx => c.wi σ H fun J H1 => wTurns c.g c.tt c.vs σ (Nst em cs) Nx J H1
def emt (D : Addr) (te : TE) : L2.St → Hp → (Hp → Prop) → Prop := fun σ H Nx => te σ H fun y H1 => ∃ acc, H1 D = some (.lst acc) ∧ acc.length < sizeLine ∧ Nx (upd H1 D (.lst (acc ++ [y])))
def hvs : List Cl → List Nat
  | [] => []
  | c :: _ => c.vs
/-- what a clause asks of the block's context -/
structure ClOk (B : Cx) (c : Cl) : Prop where
  g : PG B c.tg c.g
  t : PTs B c.ifs c.tt
structure ClIn (B : Cx) (c : Cl) : Prop extends ClOk B c where
  i : PI B c.tg c.iter c.wi
  s : ∀ x, foldedSetIterable c.iter B.env x = pure x
def Dec : List Nat → List Cl → Prop
  | _, [] => True
  | vs, c :: cs => (∀ i ∈ c.vs, i ∈ vs) ∧ Dec c.vs cs
structure Kps (vs : List Nat) (σ σ' : L2.St) : Prop where
  len : σ'.length = σ.length
  k : ∀ (j : Nat) v, (wipe σ vs)[j]? = some (some v) → σ'[j]? = some (some v)
section
variable {B : Cx} {elt : Expr} {gs : List Comprehension} {scope : Scope} {pos : Pos} {D : Addr} {te : TE}
theorem kps_back {vs us : List Nat} {σ σ2 σ3 : L2.St} (hu : ∀ i ∈ us, i ∈ vs) (e : wipe σ2 vs = wipe σ vs) (k : Kps us σ2 σ3) : Kps [] (wipe σ vs) σ3 :=
  ⟨by rw [k.len, ← e, wipe_length], fun j v h => by
    have h : (wipe σ vs)[j]? = some (some v) := h
    rw [← e] at h
    obtain ⟨h1, h2⟩ := wipe_some h
    exact k.k j v (by rw [wipe_out fun z => h2 (hu j z)]; exact h1)⟩
theorem Kps.refl (vs : List Nat) (σ : L2.St) : Kps vs σ σ := ⟨rfl, fun j v h => (wipe_some h).1⟩
section
variable {c : Cl} {cs : List Cl} {P : List (Addr × Obj)} {σ : L2.St} {it : Addr} {fp : List Addr} {tn : Nat → Heap → Prop} {J : It} {Nx : Hp → Prop} {W : Nat → Nat → Hp → Prop}
/-- between two turns -/
def Btw (B : Cx) (c : Cl) (P : List (Addr × Obj)) (σ : L2.St) (fp : List Addr) (tn : Nat → Heap → Prop) (W : Nat → Nat → Hp → Prop) (k : Nat) (z : Shared) : Prop :=
  ∃ i H', Inv B P (wipe σ c.vs) H' z ∧ tn i z.heap ∧ (∀ b ∈ fp, H' b = none) ∧ W i k H'
/-- behind the tests -/
def Bhd (B : Cx) (V : Nat → Shared → Prop) (D : Addr) (te : TE) (cs : List Cl) (k : Nat) (z : Shared) : Prop :=
  ∃ σ2 H2 N1 P2, Inv B P2 σ2 H2 z ∧ Nst (emt D te) cs σ2 H2 N1 ∧ ∀ σ3 H3 z3, Inv B P2 σ3 H3 z3 → Kps (hvs cs) σ2 σ3 → N1 H3 → ∃ m, m < k ∧ V m z3
theorem clause_turn (hx : ∀ e z, ¬ B.xe e z) {done : Shared → Prop} (hd : ∀ H' z, Inv B P (wipe σ c.vs) H' z → Nx H' → done z) (hc : B.calm = true) (hdec : Dec c.vs cs) (ok : ClOk B c) (T : Turn B.prog B.w B.K c.tg J fp it tn) (stat : ∀ {H' : Hp}, (∀ b ∈ fp, H' b = none) → ∀ b ∈ fp, FpOk B P H' b)
    (turn : ∀ i m H, W i m H → (J.stop i H ∧ Nx H) ∨ (J.go i H ∧ ∃ N1 : Hp → Prop, (∀ H', N1 H' → ∃ m', m' < m ∧ W (i + 1) m' H') ∧
      ∀ x H', J.yld i H x H' → c.g x (wipe σ c.vs) H' fun σ2 H2 => wipe σ2 c.vs = wipe σ c.vs ∧ c.tt σ2 H2 fun b H3 => if b = true then Nst (emt D te) cs σ2 H3 N1 else N1 H3))
    {k : Nat} {z : Shared} (hv : Btw B c P σ fp tn W k z) :
    TurnTo B.prog B.w B.A c.tg c.ifs (.ref it) B.env done (Bhd B (Btw B c P σ fp tn W) D te cs k) (fun z => ∃ m, m < k ∧ Btw B c P σ fp tn W m z) z := by
  obtain ⟨i, H5, I5, st5, n5, w5⟩ := hv
  unfold TurnTo
  rcases turn i k H5 w5 with ⟨stop, nx⟩ | ⟨go, N1, hN1, yl⟩
  · refine noE_le (T.done B rfl rfl rfl hc i P z _ H5 noE I5 (stat n5) st5 stop) fun r z1 ⟨hr, I6⟩ => ?_
    subst hr
    exact hd H5 _ I6 nx
  · refine noE_le (T.item B rfl rfl rfl hc i P z _ H5 noE I5 (stat n5) st5 go) fun r z1 ⟨u, hr, h6⟩ => ?_
    subst hr
    refine noE_le h6 fun _ z2 ⟨x, H7, I7, r7, y7, st7, n7⟩ => ?_
    have pinned := I7.pinned (stat n7) (T.obj _ _ st7)
    refine wpAny_mono (ok.g.run _ z2 _ H7 x u _ pinned r7 (yl x H7 y7)) (fun _ z3 ⟨σ8, H8, I8, hw8, q8⟩ => ?_) fun e z hx1 => ?_
    · refine wpAny_mono (ok.t.run _ z3 σ8 H8 _ I8 q8) (fun b z4 ⟨H9, I9, q9⟩ => ?_) fun e z hx2 => ?_
      · have fin : ∀ σ3 H3 z3, Inv B (P ++ pinsAt fp z2.heap) σ3 H3 z3 → Kps (hvs cs) σ8 σ3 → N1 H3 → ∃ m, m < k ∧ Btw B c P σ fp tn W m z3 := fun σ3 H3 z3 I' kp nx => by
          obtain ⟨m', hm, w'⟩ := hN1 H3 nx
          have pin' : ∀ b ∈ fp, ∀ o, z2.heap.get? b = some o → z3.heap.get? b = some o ∧ H3 b = none := fun b hb o e =>
            let q := I'.pin (b, o) (List.mem_append_right _ (List.mem_append_right _ (mem_pinsAt hb e)))
            ⟨q.1, q.2.1⟩
          have kb : Kps [] (wipe σ c.vs) σ3 := kps_back (us := hvs cs) (by cases cs with
            | nil => intro i h; cases h
            | cons x xs => exact hdec.1) hw8 kp
          refine ⟨m', hm, i + 1, H3, (I'.unpinned (pins := P)).weak kb.len.symm kb.k, T.keep _ _ _ st7 fun b hb o e => (pin' b hb o e).1, fun b hb => ?_, w'⟩
          obtain ⟨o, e, _⟩ := T.obj _ _ st7 b hb
          exact (pin' b hb o e).2
        cases b with
        | false =>
          simp only [Bool.false_eq_true, if_false] at q9 ⊢
          exact fin σ8 H9 z4 I9 (Kps.refl _ _) q9
        | true =>
          simp only [if_true] at q9 ⊢
          exact ⟨σ8, H9, N1, _, I9, q9, fin⟩
      · exact (hx e z hx2).elim
    · exact (hx e z hx1).elim
/-- a clause's loop -/
theorem clause_loop (hx : ∀ e z, ¬ B.xe e z) (hc : B.calm = true) (hel : PE B elt te) : ∀ (cs : List Cl) (c : Cl) (d : Nat) (P : List (Addr × Obj)) (σ : L2.St) (H : Hp) (s : Shared) (it : Addr) (fp : List Addr) (tn : Nat → Heap → Prop) (J : It) (Nx : Hp → Prop) (R : Result → Shared → Prop),
    (∀ H' z, Inv B P (wipe σ c.vs) H' z → Nx H' → R (.ok .next) z) →
    gs[d]? = some c.c → (∀ j, gs[d + 1 + j]? = (cs.map Cl.c)[j]?) → Dec c.vs cs → ClOk B c → (∀ x ∈ cs, ClIn B x) → Inv B P (wipe σ c.vs) H s → Turn B.prog B.w B.K c.tg J fp it tn → tn 0 s.heap → (∀ b ∈ fp, FpOk B P H b) →
    wTurns c.g c.tt c.vs σ (Nst (emt D te) cs) Nx J H →
    codeAny (model B.prog B.w) B.A (.compLoop (.ListComp elt gs scope pos) d (.ref it) (.ref D) B.env) R s := by
  intro cs
  induction cs with
  | nil =>
    intro c d P σ H s it fp tn J Nx R hR h0 hr hdec okc okcs I T st hfp ⟨W, ⟨m0, w0⟩, turn⟩
    have h1 : gs[d + 1]? = none := by simpa using hr 0
    have stat : ∀ {H' : Hp}, (∀ b ∈ fp, H' b = none) → ∀ b ∈ fp, FpOk B P H' b := fun hn b hb => ⟨hn b hb, (hfp b hb).2⟩
    refine loop_last h0 h1 (Btw B c P σ fp tn W) (Bhd B (Btw B c P σ fp tn W) D te [] ) (fun k z hv => clause_turn (te := te) (cs := []) hx hR hc hdec okc T stat turn hv) (fun k z hg => ?_) m0 ⟨0, H, I, st, fun b hb => (hfp b hb).1, w0⟩
    obtain ⟨σ2, H2, N1, P2, I2, q, fin⟩ := hg
    refine wpAny_mono (hel.run _ z σ2 H2 _ I2 q) (fun u z1 ⟨yv, H3, I3, r3, acc, hD, hz, nx⟩ => ?_) fun e z he => (hx e z he).elim
    exact app_ok (X := B) I3 hD hz r3 fun z2 I4 => fin σ2 _ z2 I4 (Kps.refl _ _) nx
  | cons c2 cs ih =>
    intro c d P σ H s it fp tn J Nx R hR h0 hr hdec okc okcs I T st hfp ⟨W, ⟨m0, w0⟩, turn⟩
    have h1 : gs[d + 1]? = some c2.c := by simpa using hr 0
    have hr2 : ∀ j, gs[d + 1 + 1 + j]? = (cs.map Cl.c)[j]? := fun j => by
      have := hr (j + 1)
      rw [show d + 1 + (j + 1) = d + 1 + 1 + j by omega] at this
      simpa using this
    have ok2 := okcs c2 List.mem_cons_self
    have stat : ∀ {H' : Hp}, (∀ b ∈ fp, H' b = none) → ∀ b ∈ fp, FpOk B P H' b := fun hn b hb => ⟨hn b hb, (hfp b hb).2⟩
    refine loop_mid h0 h1 ok2.s (Btw B c P σ fp tn W) (Bhd B (Btw B c P σ fp tn W) D te (c2 :: cs)) (fun k z hv => clause_turn (te := te) (cs := c2 :: cs) hx hR hc hdec okc T stat turn hv) (fun k z hg => ?_) m0 ⟨0, H, I, st, fun b hb => (hfp b hb).1, w0⟩
    obtain ⟨σ2, H2, N1, P2, I2, q, fin⟩ := hg
    refine wpAny_mono (ok2.i.run _ z σ2 H2 _ I2 q) (fun xv z1 hx1 => wpAny_mono hx1 (fun itv z2 hp => ?_) fun e z he => (hx e z he).elim) fun e z he => (hx e z he).elim
    obtain ⟨it1, fp1, tn1, J1, H3, e1, I3, T1, st1, hfp1, tw⟩ := hp
    subst e1
    have I3w : Inv B P2 (wipe σ2 c2.vs) H3 z2 := I3.weak (wipe_length _ _) fun j v e => (wipe_some e).1
    have lp := ih c2 (d + 1) P2 σ2 H3 z2 it1 fp1 tn1 J1 N1 (fun r z3 => match r with
      | .ok _ => ∃ m, m < k ∧ Btw B c P σ fp tn W m z3
      | .error _ => False) (fun H' z' I' nx => fin (wipe σ2 c2.vs) H' z' I' ⟨wipe_length _ _, fun j v e => e⟩ nx) h1 hr2 hdec.2 ok2.toClOk (fun x hx => okcs x (List.mem_cons_of_mem _ hx)) I3w T1 st1 hfp1 tw
    exact start_at h1 lp (T1.self B.A 0 _ _ _ st1 lp)
end
end
end DL
namespace DL
open PySem L2 PySem.Spec PyProof.Rows
section
variable {X : Cx}
/-- [elt for .. in .. for .. in ..], any number of clauses -/
def tLcN (c : Cl) (cs : List Cl) (te : TE) : TE := fun σ H Q => c.wi σ H fun J H1 => ∀ D, H1 D = none → wTurns c.g c.tt c.vs σ (Nst (emt D te) cs) (fun H2 => Q (.ref D) H2) J (upd H1 D (.lst []))
abbrev Blk (X : Cx) (scope : Scope) (B : Cx) : Prop := ∃ s H C cl fp, B = X.blk s H scope (compEnvC scope cl C X.env) fp
theorem lcN_core {P : List (Addr × Obj)} {s : Shared} {σ : L2.St} {H : Hp} {Q : VK} {elt : Expr} {c : Cl} {cs : List Cl} {scope : Scope} {own : List (Str × Nat)} {pos pos' : Pos} {te : TE} {use : Option (Value → Sem Unit)} {Qf : Value → Shared → Prop}
    (hc : X.calm = true) (hN : X.N.Nodup) (I : Inv X P σ H s) (hi : PI X c.tg c.iter c.wi) (ok : BlkOk X.N X.env.scope scope own) (hv : c.vs = own.map (·.2)) (hdec : Dec c.vs cs)
    (hcl : ∀ B, Blk X scope B → ClOk B c ∧ (∀ x ∈ cs, ClIn B x) ∧ PE B elt te) (hs : ∀ x, foldedSetIterable c.iter X.env x = pure x) (h : tLcN c cs te σ H Q)
    (hend : ∀ D C z m H', Inv X P σ H' z → Q (.ref D) H' → z.heap.Ns C m → FpOk X P H' C → compPost (model X.prog X.w) X.A X.xe use Qf (.ref D) C (.ok .next) z) :
    wpAny (model X.prog X.w) X.A (comprehension (.ListComp elt (c.c :: cs.map Cl.c) scope pos) scope X.env pos' (newList []) false (eval c.iter X.env) use) Qf X.xe s := by
  have cells : ∀ y ∈ scope.names, y.2 = .free → ∃ a, X.env.cells.lookup y.1 = some a := fun y hy e => (ok.free y hy e).elim (fun q => I.ok.has _ (.inl q)) fun q => I.ok.has _ (.inr q)
  refine wpAny_comprehension_free (use := use) rfl hs (closure_ok cells) ok.kind (fun y hy e => (ok.uniq y hy).trans (by rw [e])) (thn (hi.run P s σ H _ I h) fun xv z1 q1 => thn q1 fun yv z2 q2 => ?_)
  obtain ⟨it, fp, tn, J, H2, e, I2, T, st2, f2, q⟩ := q2
  subst e
  refine wpAny_newObj_type (newEnv_comp ?_) (by show 0 ≤ sizeLine; decide)
  generalize hD : z2.heap.objs.size = D
  have free : H2 D = none := I2.hok.fresh (Nat.le_of_eq hD)
  have tw := q D free
  generalize hz3 : ({ z2 with heap := z2.heap.push { cls := .type "list", data := .seq ([] : List Value).toArray } } : Shared) = z3
  have heap3 : z3.heap = z2.heap.push { cls := .type "list", data := .seq ([] : List Value).toArray } := by rw [← hz3]
  have I3 : Inv X P σ (upd H2 D (.lst [])) z3 := by
    subst hz3
    refine I2.laid (t' := z2.toks) (fun b o e => Heap.get?_push_of_some _ e) (Nat.le_of_eq hD) ⟨Nat.zero_le _, [], 0, .nil, ?_⟩
    subst hD
    exact Heap.get?_push_size _ rfl
  have f3 : ∀ b ∈ fp, FpOk X P (upd H2 D (.lst [])) b ∧ b < z3.heap.objs.size := fun b hb => by
    obtain ⟨o, e, _⟩ := T.obj _ _ st2 b hb
    have lt := Heap.lt_size e
    exact ⟨⟨(upd_ne (by rw [← hD]; exact Nat.ne_of_lt lt)).trans (f2 b hb).1, (f2 b hb).2⟩, by rw [heap3, Heap.size_push]; exact Nat.lt_succ_of_lt lt⟩
  have st3 : tn 0 z3.heap := T.keep _ _ _ st2 fun b _ o e => by rw [heap3]; exact Heap.get?_push_of_some _ e
  have I4 := block_start I3 ok hN f3
  obtain ⟨okc, okcs, oke⟩ := hcl _ ⟨z3, upd H2 D (.lst []), z3.heap.objs.size, cellsFrom (z3.heap.objs.size + 1) scope.names (cloFrom X.env.cells scope.names []), fp, rfl⟩
  show codeAny _ _ (.compStart (.ListComp elt (c.c :: cs.map Cl.c) scope pos) 0 (.ref it) (.ref D) (compEnvC scope (cellsFrom (z3.heap.objs.size + 1) scope.names (cloFrom X.env.cells scope.names [])) z3.heap.objs.size X.env)) (compPost (model X.prog X.w) X.A X.xe use Qf (.ref D) z3.heap.objs.size) { z3 with heap := pushCells (z3.heap.push { cls := .type "dict", data := .dict #[] }) scope.names }
  generalize hce : compEnvC scope (cellsFrom (z3.heap.objs.size + 1) scope.names (cloFrom X.env.cells scope.names [])) z3.heap.objs.size X.env = ce at I4 okc okcs oke ⊢
  have loc : ce.locals = z3.heap.objs.size := by subst hce; rfl
  generalize hH3 : upd H2 D (.lst []) = H3 at I3 I4 okc okcs oke tw f3
  generalize hz4 : ({ z3 with heap := pushCells (z3.heap.push { cls := .type "dict", data := .dict #[] }) scope.names } : Shared) = z4 at I4 ⊢
  have st4 : tn 0 z4.heap := T.keep _ _ _ st3 fun b _ o e => by rw [← hz4]; exact pushCells_keeps _ _ _ _ (Heap.get?_push_of_some _ e)
  have f4 : ∀ b ∈ fp, FpOk (X.blk z3 H3 scope ce fp) [] H3 b := fun b hb =>
    ⟨(f3 b hb).1.1, (I4.ok.exf b hb).1, I4.ok.exfs b hb, .inl hb, fun x a e => (I4.ok.exf b hb).2 x a e, fun p hp => absurd (show p ∈ ([] : List (Addr × Obj)) ++ [] from hp) (by simp)⟩
  rw [← hv] at I4
  have lp := clause_loop (B := X.blk z3 H3 scope ce fp) (elt := elt) (gs := c.c :: cs.map Cl.c) (scope := scope) (pos := pos) (D := D) (te := te) (fun _ _ f => f) hc oke cs c 0 [] σ H3 z4 it fp tn J (fun H5 => Q (.ref D) H5) (compPost (model X.prog X.w) X.A X.xe use Qf (.ref D) z3.heap.objs.size)
    (fun H5 z5 I5 q5 => by
      have I6 : Inv X P σ H5 z5 := I3.call' (ch := fp) I5.os I5.base I5.hok I5.bare fun b hb => ⟨(f3 b hb).1.2.2.2.1, (f3 b hb).1.2.1, (f3 b hb).1.2.2.2.2.1, (f3 b hb).1.2.2.2.2.2⟩
      have nC : H5 z3.heap.objs.size = none := by
        have f : H5 ce.locals = none := I5.free
        rw [loc] at f
        exact f
      obtain ⟨m, hn, _⟩ := I5.loc
      have hn : z5.heap.Ns ce.locals m := hn
      rw [loc] at hn
      exact hend D z3.heap.objs.size z5 m H5 I6 q5 hn (I3.fpOk (Nat.le_refl _) nC))
    rfl (fun j => by rw [show 0 + 1 + j = j + 1 by omega, List.getElem?_cons_succ]) hdec okc okcs I4 T st4 f4 tw
  exact codeAny_compStart_list lp (T.self X.A 0 _ _ _ st4 lp)
theorem pe_lcN {elt : Expr} {c : Cl} {cs : List Cl} {scope : Scope} {own : List (Str × Nat)} {pos : Pos} {te : TE} (hc : X.calm = true) (hN : X.N.Nodup) (hi : PI X c.tg c.iter c.wi) (ok : BlkOk X.N X.env.scope scope own) (hv : c.vs = own.map (·.2)) (hdec : Dec c.vs cs)
    (hcl : ∀ B, Blk X scope B → ClOk B c ∧ (∀ x ∈ cs, ClIn B x) ∧ PE B elt te) (hs : ∀ x, foldedSetIterable c.iter X.env x = pure x) : PE X (.ListComp elt (c.c :: cs.map Cl.c) scope pos) (tLcN c cs te) := by
  refine ⟨fun P s σ H Q I h => ?_⟩
  rw [eval_ListComp]
  refine lcN_core hc hN I hi ok hv hdec hcl hs h fun D C z m H' I' q hn f => ⟨m, hn, fun h2 sb => ?_⟩
  obtain ⟨g0, g1, g2, g3, g4, g5⟩ := f
  exact ⟨.ref D, H', I'.turned (t' := z.toks) (fun b o hb e => (sb.2 b hb).trans e) g0 g1 g3 g4 g5, rfl, q⟩
/-- name = [..] on one line -/
theorem ps_setLcN {i : Nat} {y : Str} {py : Pos} {elt : Expr} {c : Cl} {cs : List Cl} {scope : Scope} {own : List (Str × Nat)} {pos spos : Pos} {te : TE} (hc : X.calm = true) (hN : X.N.Nodup) (hy : X.N[i]? = some y) (hyl : X.env.scope.names.lookup y = some .local)
    (hsw : swapsWith (.ListComp elt (c.c :: cs.map Cl.c) scope pos) (some (.Name y py)) spos.line X.env = pure true) (hi : PI X c.tg c.iter c.wi) (ok : BlkOk X.N X.env.scope scope own) (hv : c.vs = own.map (·.2)) (hdec : Dec c.vs cs)
    (hcl : ∀ B, Blk X scope B → ClOk B c ∧ (∀ x ∈ cs, ClIn B x) ∧ PE B elt te) (hs : ∀ x, foldedSetIterable c.iter X.env x = pure x) : PS X (.Assign [.Name y py] (.ListComp elt (c.c :: cs.map Cl.c) scope pos) spos) (tAsg (tLcN c cs te) (gName i)) := by
  refine ⟨fun P s σ H D I h => ?_⟩
  rw [exec_Assign_Name_used _ _ _ _ hsw]
  refine wpAny_bind (wpAny_standAt (wpAny_bind ?_))
  show wpAny _ X.A (do let _ ← comprehension (.ListComp elt (c.c :: cs.map Cl.c) scope pos) scope X.env (firstIterPos (c.c :: cs.map Cl.c) pos) (newList []) false (eval c.iter X.env) (some (assign (.Name y py) X.env))) _ _ s
  have h : tLcN c cs te σ H (fun x H1 => gName i x σ H1 D.nx) := h
  refine wpAny_bind (thn (lcN_core (Qf := fun _ z => SP X P D .next z) hc hN I hi ok hv hdec hcl hs h fun L C z m H' I' q hn f => ?_) fun _ z hq => wpAny_pure (wpAny_pure hq))
  show wpAny _ _ (assign (.Name y py) X.env (.ref L)) _ _ _
  refine wpAny_assign_Name (store_ok2 (v := V.ref L) I' hN hy (.inl hyl) rfl (fun z2 I2 ⟨a, sb, ha⟩ => ?_) (.inr hyl))
  obtain ⟨g0, g1, g2, g3, g4, g5⟩ := f
  have ne : C ≠ a := ha.elim (fun q => by rw [q]; exact g1) fun q e => g4 y a q e.symm
  refine ⟨m, hn.sameBut sb ne, fun h3 sb3 => ?_⟩
  exact ⟨_, H', I2.turned (t' := z2.toks) (fun b o hb e => (sb3.2 b hb).trans e) g0 g1 g3 g4 g5, q⟩
end
end DL

namespace DL
open PySem L2
/-! ### comprehensions -/
abbrev noX : DX := fun _ _ => False
abbrev W0 : WX := fun _ _ _ _ => False
theorem wipe_get (σ : L2.St) (j : Nat) : ∀ vs : List Nat, (wipe σ vs)[j]? = if j ∈ vs then σ[j]?.map (fun _ => none) else σ[j]?
  | [] => by simp [wipe]
  | v :: vs => by
    show ((wipe σ vs).set v none)[j]? = _
    rw [List.getElem?_set, wipe_length, wipe_get σ j vs]
    by_cases e : v = j
    · subst e
      by_cases l : v < σ.length
      · simp [l]
      · simp [l, List.getElem?_eq_none (Nat.le_of_not_lt l)]
    · have e2 : ¬ j = v := fun z => e z.symm
      simp [e, e2]
theorem wipe_set {σ : L2.St} {i : Nat} {x : Option V} {vs : List Nat} (h : i ∈ vs) : wipe (σ.set i x) vs = wipe σ vs := by
  apply List.ext_getElem?
  intro j
  rw [wipe_get, wipe_get]
  by_cases m : j ∈ vs
  · rw [if_pos m, if_pos m, List.getElem?_set]
    by_cases e : i = j
    · subst e
      by_cases l : i < σ.length
      · simp [l]
      · simp [l, List.getElem?_eq_none (Nat.le_of_not_lt l)]
    · simp [e]
  · rw [if_neg m, if_neg m, List.getElem?_set_ne fun e => m (by rw [← e]; exact h)]
theorem wipe_wipe (σ : L2.St) (vs : List Nat) : wipe (wipe σ vs) vs = wipe σ vs := by
  apply List.ext_getElem?
  intro j
  rw [wipe_get, wipe_get]
  by_cases m : j ∈ vs
  · simp [m, Function.comp_def]
  · simp [m]
def wipeD (τ : DSt) : List Nat → DSt
  | [] => τ
  | v :: vs => (wipeD τ vs).set v none
theorem RepS.wipe {K : PySem.W.Frag} {M : Mu} {H : Hp} {τ : DSt} {σ : L2.St} (h : RepS K M H τ σ) : ∀ vs : List Nat, RepS K M H (wipeD τ vs) (L2.wipe σ vs)
  | [] => h
  | v :: vs => RepS.none v Option.none (h.wipe vs)

theorem Gd.blk {X : Cx} {W : WX} (G : Gd X W) (s : Shared) (H : Hp) (scope : Scope) (cenv : Env) (fp : List Addr) : Gd (X.blk s H scope cenv fp) W0 :=
  ⟨G.calm, fun u s' ⟨a, B, sI, pins, σ, H, cls, d, e, I, nb, up, sky, na, os, ag, w⟩ => w.elim, G.hu, PassesOwn.never, G.nd⟩

/-- a target of the block's own names vs -/
def lifGw (K : PySem.W.Frag) (W : WX) (g : DTG) (vs : List Nat) : TG := fun v σ H Q => lifG K W g v σ H fun σ' H' => wipe σ' vs = wipe σ vs → Q σ' H'
def lifGsw (K : PySem.W.Frag) (W : WX) (g : DTGs) (vs : List Nat) : TGs := fun us σ H Q => lifGs K W g us σ H fun σ' H' => wipe σ' vs = wipe σ vs → Q σ' H'
abbrev DGw (X : Cx) (W : WX) (tg : Expr) (g : DTG) (vs : List Nat) : Prop := PG X tg (lifGw X.K W g vs)
abbrev DGsw (X : Cx) (W : WX) (tg : List Expr) (g : DTGs) (vs : List Nat) : Prop := PGs X tg (lifGsw X.K W g vs)
section
variable {X : Cx} {W : WX} {a b c e o i : Expr} {rest es : List Expr} {ta tb tc te to ti : DTE} {tl : DTA} {tt : DTT} {pos apos cpos p : Pos} {x : Str} {vs : List Nat}
theorem dgw_name (j : Nat) (hN : X.N.Nodup) (hj : j ∈ vs := by decide) (hi : X.N[j]? = some x := by rfl) (hx : Loc X.env.scope x := by first | exact .inl rfl | exact .inr rfl) (hf : X.fn x = true ∨ X.env.scope.names.lookup x = some .local := by first | exact .inl rfl | exact .inr rfl) : DGw X W (.Name x pos) (dgName j) vs :=
  PG.of (pg_name hN hi hx hf) fun v σ H Q ⟨d, τ, M, Q0, E0, r, S, h⟩ => S.q _ M _ H h (S.rs.set r j) S.co (Stp.refl M H) (wipe_set hj)
theorem dgsw_nil : DGsw X W [] dgNil vs := PGs.of pgs_nil fun us σ H Q ⟨ds, τ, M, Q0, r, S, h⟩ => by
  cases ds with
  | nil => exact ⟨r.unnil, S.q _ M _ H h S.rs S.co (Stp.refl M H) rfl⟩
  | cons d r => exact h.elim
theorem dgsw_cons (j : Nat) {u : DTGs} (hN : X.N.Nodup) (h2 : DGsw X W es u vs) (hj : j ∈ vs := by decide) (hi : X.N[j]? = some x := by rfl) (hx : Loc X.env.scope x := by first | exact .inl rfl | exact .inr rfl) (hf : X.fn x = true ∨ X.env.scope.names.lookup x = some .local := by first | exact .inl rfl | exact .inr rfl)
    (hs : (assignEach (.Name x pos :: es) X.env).map (·.2) = assign (.Name x pos) X.env :: (assignEach es X.env).map (·.2) := by rfl) : DGsw X W (.Name x pos :: es) (dgCons j u) vs :=
  PGs.of (pgs_cons (pg_name hN hi hx hf) h2 hs) fun us σ H Q ⟨ds, τ, M, Q0, r, S, h⟩ => by
    cases ds with
    | nil => exact h.elim
    | cons d ds =>
      obtain ⟨v, us, rfl, r1, r2⟩ := r.uncons
      exact ⟨v, us, rfl, ds, τ.set j (some d), M, Q0, r2, ⟨S.rs.set r1 j, S.co, fun a b c d h r c' s hw => S.q a b c d h r c' s (hw.trans (wipe_set hj)), fun _ _ _ _ _ h => h.elim⟩, h⟩
theorem dgw_tup {k n : Nat} {u : DTGs} (G : Gd X W) (h : DGsw X W es u vs) (hn : (assignEach es X.env).length = n := by rfl) (hst : (assignEach es X.env).findIdx? (·.1) = none := by rfl) : DGw X W (.Tuple es k pos) (dgTup n u) vs :=
  PG.of (pg_tup G.calm h hn hst) fun v σ H Q ⟨d, τ, M, Q0, E0, r, S, h⟩ => by
    cases d with
    | tup ds =>
      obtain ⟨a, us, rfl, ha, ra⟩ := rep_of_tup r
      exact ⟨a, us, rfl, sqT_of ha, by rw [ra.length]; exact h.1, ds, τ, M, Q0, ra, ⟨S.rs, S.co, S.q, fun _ _ _ _ _ h => h.elim⟩, h.2⟩
    | _ => exact h.elim
theorem dgw_lst {k n : Nat} {u : DTGs} (G : Gd X W) (h : DGsw X W es u vs) (hn : (assignEach es X.env).length = n := by rfl) (hst : (assignEach es X.env).findIdx? (·.1) = none := by rfl) : DGw X W (.Tuple es k pos) (dgLst n u) vs :=
  PG.of (pg_lst G.calm h hn hst) fun v σ H Q ⟨d, τ, M, Q0, E0, r, S, h⟩ => by
    cases d with
    | lst ds =>
      obtain ⟨a, us, rfl, ha, _, ra⟩ := rep_of_lst r
      exact ⟨a, us, rfl, .inl (.inl ha), by rw [ra.length]; exact h.1, ds, τ, M, Q0, ra, ⟨S.rs, S.co, S.q, fun _ _ _ _ _ h => h.elim⟩, h.2⟩
    | _ => exact h.elim

/-! tests behind `if` -/
abbrev DTs (X : Cx) (W : WX) (ifs : List Expr) (t : DTT) : Prop := PTs X ifs (lif X.K W RB t)
def dYes : DTT := fun _ M Q _ => Q true M
theorem dts_nil : DTs X W [] dYes := ⟨fun pins s σ H Q I ⟨τ, M, Q0, E0, S, h⟩ => pts_nil.run pins s σ H Q I (S.end_ h rfl)⟩
theorem dts_one (h : DT X W c tt) : DTs X W [c] tt := pts_one h

/-! the clauses -/
structure DCl where
  ti : DTI
  g : DTG
  tt : DTT
  vs : List Nat
def wTs (g : DTG) (tt : DTT) (vs : List Nat) (τ : DSt) (inn : DSt → Mu → (Mu → Prop) → Prop) (Nx : Mu → Prop) : List D → Mu → Prop
  | [], M => Nx M
  | d :: ds, M => g d (wipeD τ vs) M (fun τ2 M2 => tt τ2 M2 (fun b M3 => if b = true then inn τ2 M3 (wTs g tt vs τ inn Nx ds) else wTs g tt vs τ inn Nx ds M3) noX) noX
def wNst (em : DSt → Mu → (Mu → Prop) → Prop) : List DCl → DSt → Mu → (Mu → Prop) → Prop
  | [], τ, M, Nx => em τ M Nx
  | c :: cs, τ, M, Nx => c.ti τ M (fun ds M1 => wTs c.g c.tt c.vs τ (wNst em cs) Nx ds M1) noX
/-- the next item comes to the list at p -/
def dEm (p : Addr) (te : DTE) : DSt → Mu → (Mu → Prop) → Prop := fun τ M Nx => te τ M (fun y M1 => ∃ acc, M1 p = some (.lst acc) ∧ acc.length < sizeLine ∧ Nx (put M1 p (.lst (acc ++ [y])))) noX
/-- the list that is made, at a place of its own -/
def dLcM (ti : DTI) (g : DTG) (tt : DTT) (vs : List Nat) (cs : List DCl) (te : DTE) : DTE := fun τ M Q E => ti τ M (fun ds M1 => ∀ p, M1 p = none → wTs g tt vs τ (wNst (dEm p te) cs) (fun M2 => Q (.ref p) M2) ds (put M1 p (.lst []))) E
def Inn (K : PySem.W.Frag) (inn : DSt → Mu → (Mu → Prop) → Prop) (innL : L2.St → Hp → (Hp → Prop) → Prop) : Prop :=
  ∀ τ σ M H Nx0 Nx, RepS K M H τ σ → Cor K M H → (∀ M' H', Nx0 M' → Cor K M' H' → Stp M H M' H' → Nx H') → inn τ M Nx0 → innL σ H Nx
theorem turns_ok {K : PySem.W.Frag} {inn : DSt → Mu → (Mu → Prop) → Prop} {innL : L2.St → Hp → (Hp → Prop) → Prop} (hin : Inn K inn innL) {g : DTG} {τ : DSt} {σ : L2.St} {M M1 : Mu} {H H1 : Hp} {ds : List D} {J : It} {Nx0 : Mu → Prop} {Nx : Hp → Prop}
    (hJ : ItOk K M H ds J) (rs : RepS K M H τ σ) (hN : ∀ M' H', Nx0 M' → Cor K M' H' → Stp M H M' H' → Nx H') (s1 : Stp M H M1 H1) (c1 : Cor K M1 H1) (h : wTs g tt vs τ inn Nx0 ds M1) :
    wTurns (lifGw K W0 g vs) (lif K W0 RB tt) vs σ innL Nx J H1 := by
  refine ⟨fun i m H2 => m = ds.length - i ∧ i ≤ ds.length ∧ ∃ M2, Stp M H M2 H2 ∧ Cor K M2 H2 ∧ wTs g tt vs τ inn Nx0 (ds.drop i) M2, ⟨ds.length, rfl, Nat.zero_le _, M1, s1, c1, h⟩, ?_⟩
  rintro i m H2 ⟨rfl, hi, M2, s2, c2, h2⟩
  obtain ⟨k1, k2, k3⟩ := hJ M2 H2 s2 c2
  by_cases hlt : i < ds.length
  · have e : ds.drop i = ds[i] :: ds.drop (i + 1) := List.drop_eq_getElem_cons hlt
    rw [e] at h2
    refine .inr ⟨k2 i hlt, fun H3 => ∃ M3, Stp M H M3 H3 ∧ Cor K M3 H3 ∧ wTs g tt vs τ inn Nx0 (ds.drop (i + 1)) M3, fun H3 q => ⟨ds.length - (i + 1), by omega, rfl, hlt, q⟩, fun x H3 y => ?_⟩
    obtain ⟨y1, y2, y3⟩ := k3 i ds[i] x H3 (List.getElem?_eq_getElem hlt) y
    have s3 := s2.trans y3
    refine ⟨ds[i], wipeD τ vs, M2, _, noX, y1, ⟨(rs.stp s3).wipe vs, y2, fun τ4 M4 σ4 H4 h4 r4 c4 s4 hw => ⟨hw.trans (wipe_wipe σ vs), ?_⟩, fun _ _ _ _ _ z => z.elim⟩, h2⟩
    refine ⟨τ4, M4, _, noX, ⟨r4, c4, fun b M5 b' H5 h5 r5 c5 s5 => ?_, fun _ _ _ _ _ z => z.elim⟩, h4⟩
    cases r5
    cases b with
    | false => exact ⟨M5, s3.trans (s4.trans s5), c5, h5⟩
    | true =>
      simp only [if_true] at h5 ⊢
      exact hin τ4 σ4 M5 H5 _ _ (r4.stp s5) c5 (fun M' H' n c' s' => ⟨M', s3.trans (s4.trans (s5.trans s')), c', n⟩) h5
  · have e : i = ds.length := by omega
    rw [e, List.drop_length] at h2
    exact .inl ⟨k1 i (by omega), hN M2 H2 h2 c2 s2⟩
theorem em_ok {K : PySem.W.Frag} (p : Addr) : Inn K (dEm p te) (emt p (lif K W0 (RD K) te)) := fun τ σ M H Nx0 Nx rs co hN h => by
  refine ⟨τ, M, _, noX, ⟨rs, co, fun yd M6 yv H6 h6 r6 c6 s6 => ?_, fun _ _ _ _ _ z => z.elim⟩, h⟩
  obtain ⟨acc, ha, hl, h6⟩ := h6
  obtain ⟨us, hu, ru⟩ := mu_lst c6 ha
  have st := Stp.write (H := H6) (o := .lst (us ++ [yv])) (mo' := .lst (acc ++ [yd])) ha
  exact ⟨us, hu, by rw [ru.length]; exact hl, hN _ _ h6 (c6.write ha (mo' := .lst (acc ++ [yd])) (o := .lst (us ++ [yv])) ⟨_, rfl, ru.snoc r6⟩) (s6.trans st)⟩
/-- a clause and its text -/
structure TCl where
  tg : Expr
  iter : Expr
  ifs : List Expr
  c : DCl
def TCl.cl (K : PySem.W.Frag) (c : TCl) : Cl := ⟨c.tg, c.iter, c.ifs, lif K W0 (ItOk K) c.c.ti, lifGw K W0 c.c.g c.c.vs, lif K W0 RB c.c.tt, c.c.vs⟩
theorem nst_ok {K : PySem.W.Frag} {em : DSt → Mu → (Mu → Prop) → Prop} {emL : L2.St → Hp → (Hp → Prop) → Prop} (he : Inn K em emL) : ∀ cs : List TCl, Inn K (wNst em (cs.map (·.c))) (Nst emL (cs.map (TCl.cl K)))
  | [] => he
  | c :: cs => fun τ σ M H Nx0 Nx rs co hN h =>
    ⟨τ, M, _, noX, ⟨rs, co, fun ds M1 J H1 h1 r1 c1 s1 => turns_ok (nst_ok he cs) r1 (rs.stp s1) (fun M' H' n c' s' => hN M' H' n c' (s1.trans s')) (Stp.refl M1 H1) c1 h1, fun _ _ _ _ _ z => z.elim⟩, h⟩
variable {elt tg iter : Expr} {ifs : List Expr} {scope : Scope} {own : List (Str × Nat)} {ti : DTI} {g : DTG} {cs : List TCl}
def fCl (X : Cx) (W : WX) (tg iter : Expr) (ifs : List Expr) (ti : DTI) (g : DTG) (tt : DTT) (vs : List Nat) : Cl := ⟨tg, iter, ifs, lif X.K W (ItOk X.K) ti, lifGw X.K W0 g vs, lif X.K W0 RB tt, vs⟩
theorem lif_lc {σ : L2.St} {H : Hp} {Q : VK} (h : lif X.K W (RD X.K) (dLcM ti g tt vs (cs.map (·.c)) te) σ H Q) :
    tLcN (fCl X W tg iter ifs ti g tt vs) (cs.map (TCl.cl X.K)) (lif X.K W0 (RD X.K) te) σ H Q := by
  obtain ⟨τ, M, Q0, E0, S, h⟩ := h
  refine S.sub h fun ds M1 J H1 h1 r1 S1 s1 => ?_
  intro D hD
  exact turns_ok (nst_ok (em_ok D) cs) r1 S1.rs (fun M' H' n c' s' => S1.q (.ref D) M' (.ref D) H' n rfl c' s') (Stp.newM hD) (S1.co.newM hD (mo := .lst []) ⟨[], rfl, .nil⟩) (h1 D (S1.co.free hD))
/-- what the block's parts do -/
structure BlkD (B : Cx) (tg : Expr) (g : DTG) (ifs : List Expr) (tt : DTT) (vs : List Nat) (cs : List TCl) (elt : Expr) (te : DTE) : Prop where
  g : DGw B W0 tg g vs
  t : DTs B W0 ifs tt
  cs : ∀ c ∈ cs, DGw B W0 c.tg c.c.g c.c.vs ∧ DTs B W0 c.ifs c.c.tt ∧ DI B W0 c.tg c.iter c.c.ti ∧ ∀ x, foldedSetIterable c.iter B.env x = pure x
  e : DE B W0 elt te
def Dec2 : List Nat → List TCl → Bool
  | _, [] => true
  | vs, c :: cs => (c.c.vs.all fun i => decide (i ∈ vs)) && Dec2 c.c.vs cs
theorem dec_of (K : PySem.W.Frag) : ∀ {vs : List Nat} {cs : List TCl}, Dec2 vs cs = true → Dec vs (cs.map (TCl.cl K))
  | _, [], _ => trivial
  | vs, c :: cs, h => by
    unfold Dec2 at h
    rw [Bool.and_eq_true, List.all_eq_true] at h
    exact ⟨fun i hi => by simpa using h.1 i hi, dec_of K h.2⟩
theorem blk_ok {B : Cx} {W : WX} (hK : B.K = X.K) (h : BlkD B tg g ifs tt vs cs elt te) : ClOk B (fCl X W tg iter ifs ti g tt vs) ∧ (∀ x ∈ cs.map (TCl.cl X.K), ClIn B x) ∧ PE B elt (lif X.K W0 (RD X.K) te) := by
  rw [← hK]
  refine ⟨⟨by rw [fCl, ← hK]; exact h.g, by rw [fCl, ← hK]; exact h.t⟩, fun x hx => ?_, h.e⟩
  obtain ⟨c, hc, rfl⟩ := List.mem_map.mp hx
  obtain ⟨a, b, d, e⟩ := h.cs c hc
  exact ⟨⟨a, b⟩, d, e⟩
theorem de_lcN (own : List (Str × Nat)) (cs : List TCl) (G : Gd X W) (hi : DI X W tg iter ti) (hb : ∀ (s : Shared) (H : Hp) (C : Addr) (cl : List (Str × Addr)) (fp : List Addr), Gd (X.blk s H scope (compEnvC scope cl C X.env) fp) W0 → BlkD (X.blk s H scope (compEnvC scope cl C X.env) fp) tg g ifs tt (own.map (·.2)) cs elt te)
    (hd : Dec2 (own.map (·.2)) cs = true) (ok : blkC X.N X.env.scope scope own = true) (hs : ∀ x, foldedSetIterable iter X.env x = pure x) : DE X W (.ListComp elt (⟨tg, iter, ifs, 0⟩ :: cs.map (fun c => (TCl.cl X.K c).c)) scope pos) (dLcM ti g tt (own.map (·.2)) (cs.map (·.c)) te) := by
  rw [show cs.map (fun c => (TCl.cl X.K c).c) = (cs.map (TCl.cl X.K)).map Cl.c by rw [List.map_map]; rfl]
  exact PE.of (pe_lcN (c := fCl X W tg iter ifs ti g tt (@List.map (Str × Nat) Nat (fun p => p.2) own)) G.calm G.nd hi (blkOk_by ok) rfl (show Dec (own.map (·.2)) _ from dec_of X.K hd) (fun B ⟨s, H, C, cl, fp, e⟩ => by subst e; exact blk_ok rfl (hb s H C cl fp (G.blk ..))) hs) fun σ H Q h => lif_lc h
/-- name = [..] on the name's row -/
theorem ds_setLcN {spos py : Pos} {t : DTE} (j : Nat) (own : List (Str × Nat)) (cs : List TCl) (G : Gd X W) (hi : DI X W tg iter ti) (hb : ∀ (s : Shared) (H : Hp) (C : Addr) (cl : List (Str × Addr)) (fp : List Addr), Gd (X.blk s H scope (compEnvC scope cl C X.env) fp) W0 → BlkD (X.blk s H scope (compEnvC scope cl C X.env) fp) tg g ifs tt (own.map (·.2)) cs elt te)
    (hq : ∀ σ H Q, lif X.K W (RD X.K) t σ H Q → lif X.K W (RD X.K) (dLcM ti g tt (own.map (·.2)) (cs.map (·.c)) te) σ H Q)
    (hy : X.N[j]? = some x) (hyl : X.env.scope.names.lookup x = some .local) (hsw : swapsWith (.ListComp elt (⟨tg, iter, ifs, 0⟩ :: cs.map (fun c => (TCl.cl X.K c).c)) scope pos) (some (.Name x py)) spos.line X.env = pure true)
    (hd : Dec2 (own.map (·.2)) cs = true) (ok : blkC X.N X.env.scope scope own = true) (hs : ∀ x, foldedSetIterable iter X.env x = pure x) : DS X W (.Assign [.Name x py] (.ListComp elt (⟨tg, iter, ifs, 0⟩ :: cs.map (fun c => (TCl.cl X.K c).c)) scope pos) spos) (dSet j t) := by
  rw [show cs.map (fun c => (TCl.cl X.K c).c) = (cs.map (TCl.cl X.K)).map Cl.c by rw [List.map_map]; rfl] at hsw ⊢
  exact PS.of (ps_setLcN (c := fCl X W tg iter ifs ti g tt (@List.map (Str × Nat) Nat (fun p => p.2) own)) G.calm G.nd hy hyl hsw hi (blkOk_by ok) rfl (show Dec (own.map (·.2)) _ from dec_of X.K hd) (fun B ⟨s, H, C, cl, fp, e⟩ => by subst e; exact blk_ok rfl (hb s H C cl fp (G.blk ..))) hs) fun D1 σ H ⟨τ, M, D0, S, h⟩ =>
    lif_lc (hq σ H _ (S.sub h fun d M1 v H1 h1 r1 S1 s1 => S1.nx _ M1 _ H1 h1 (S1.rs.set r1 j) S1.co (Stp.refl M1 H1)))
theorem lc_keep {t : DTE} : ∀ (σ : L2.St) (H : Hp) (Q : VK), lif X.K W (RD X.K) t σ H Q → lif X.K W (RD X.K) t σ H Q := fun _ _ _ h => h
theorem lc_frz {t : DTE} : ∀ (σ : L2.St) (H : Hp) (Q : VK), lif X.K W (RD X.K) (dFrz t) σ H Q → lif X.K W (RD X.K) t σ H Q := fun σ H Q ⟨τ, M, Q0, E0, S, h⟩ => S.sub h fun d M1 v H1 h1 r1 S1 s1 => by
  match d, h1 with
  | .ref a, h1 =>
    cases r1
    have h2 : (match M1 a with
      | some (.lst ds) => Q0 (.lst ds) (del M1 a)
      | _ => False) := h1
    split at h2
    · rename_i ds e
      obtain ⟨vs, ha, ra⟩ := mu_lst S1.co e
      exact S1.q _ _ _ _ h2 (rep_lst ha del_same (ra.stp Stp.frz)) S1.co.frz Stp.frz
    · exact h2.elim
/-! one, two, three clauses -/
section
variable {tg1 iter1 tg2 iter2 : Expr} {ifs1 ifs2 : List Expr} {ti1 ti2 : DTI} {g1 g2 : DTG} {tt1 tt2 : DTT} {vs1 vs2 : List Nat}
theorem bk1 (hg : DGw X W0 tg g vs) (ht : DTs X W0 ifs tt) (he : DE X W0 elt te) : BlkD X tg g ifs tt vs [] elt te := ⟨hg, ht, fun _ h => (nomatch h), he⟩
theorem bk2 (hg : DGw X W0 tg g vs) (ht : DTs X W0 ifs tt) (hi1 : DI X W0 tg1 iter1 ti1) (hg1 : DGw X W0 tg1 g1 vs1) (ht1 : DTs X W0 ifs1 tt1) (he : DE X W0 elt te) (hs : ∀ x, foldedSetIterable iter1 X.env x = pure x := by intro _; rfl) :
    BlkD X tg g ifs tt vs [⟨tg1, iter1, ifs1, ⟨ti1, g1, tt1, vs1⟩⟩] elt te := by
  refine ⟨hg, ht, fun c h => ?_, he⟩
  rw [List.mem_singleton] at h; subst h
  exact ⟨hg1, ht1, hi1, hs⟩
theorem bk3 (hg : DGw X W0 tg g vs) (ht : DTs X W0 ifs tt) (hi1 : DI X W0 tg1 iter1 ti1) (hg1 : DGw X W0 tg1 g1 vs1) (ht1 : DTs X W0 ifs1 tt1) (hi2 : DI X W0 tg2 iter2 ti2) (hg2 : DGw X W0 tg2 g2 vs2) (ht2 : DTs X W0 ifs2 tt2) (he : DE X W0 elt te)
    (hs : ∀ x, foldedSetIterable iter1 X.env x = pure x := by intro _; rfl) (hs2 : ∀ x, foldedSetIterable iter2 X.env x = pure x := by intro _; rfl) :
    BlkD X tg g ifs tt vs [⟨tg1, iter1, ifs1, ⟨ti1, g1, tt1, vs1⟩⟩, ⟨tg2, iter2, ifs2, ⟨ti2, g2, tt2, vs2⟩⟩] elt te := by
  refine ⟨hg, ht, fun c h => ?_, he⟩
  simp only [List.mem_cons, List.not_mem_nil, or_false] at h
  rcases h with rfl | rfl
  · exact ⟨hg1, ht1, hi1, hs⟩
  · exact ⟨hg2, ht2, hi2, hs2⟩
theorem de_lc1 (own : List (Str × Nat)) (G : Gd X W) (hi : DI X W tg iter ti) (hb : ∀ (s : Shared) (H : Hp) (C : Addr) (cl : List (Str × Addr)) (fp : List Addr), Gd (X.blk s H scope (compEnvC scope cl C X.env) fp) W0 → BlkD (X.blk s H scope (compEnvC scope cl C X.env) fp) tg g ifs tt (own.map (·.2)) [] elt te) (ok : blkC X.N X.env.scope scope own = true := by first | kernel_rfl | decide +kernel) (hs : ∀ x, foldedSetIterable iter X.env x = pure x := by intro _; rfl) :
    DE X W (.ListComp elt [⟨tg, iter, ifs, 0⟩] scope pos) (dLcM ti g tt (own.map (·.2)) [] te) := de_lcN own [] G hi hb rfl ok hs
theorem ds_setLc1 {spos py : Pos} {t : DTE} (j : Nat) (own : List (Str × Nat)) (G : Gd X W) (hi : DI X W tg iter ti) (hb : ∀ (s : Shared) (H : Hp) (C : Addr) (cl : List (Str × Addr)) (fp : List Addr), Gd (X.blk s H scope (compEnvC scope cl C X.env) fp) W0 → BlkD (X.blk s H scope (compEnvC scope cl C X.env) fp) tg g ifs tt (own.map (·.2)) [] elt te) (hq : ∀ σ H Q, lif X.K W (RD X.K) t σ H Q → lif X.K W (RD X.K) (dLcM ti g tt (own.map (·.2)) [] te) σ H Q) (ok : blkC X.N X.env.scope scope own = true := by first | kernel_rfl | decide +kernel) (hs : ∀ x, foldedSetIterable iter X.env x = pure x := by intro _; rfl)
    (hy : X.N[j]? = some x := by rfl) (hyl : X.env.scope.names.lookup x = some .local := by rfl) (hsw : swapsWith (.ListComp elt [⟨tg, iter, ifs, 0⟩] scope pos) (some (.Name x py)) spos.line X.env = pure true := by rfl) :
    DS X W (.Assign [.Name x py] (.ListComp elt [⟨tg, iter, ifs, 0⟩] scope pos) spos) (dSet j t) := ds_setLcN j own [] G hi hb hq hy hyl hsw rfl ok hs
theorem de_lc2 (own : List (Str × Nat)) (vs1 : List Nat) (G : Gd X W) (hi : DI X W tg iter ti) (hb : ∀ (s : Shared) (H : Hp) (C : Addr) (cl : List (Str × Addr)) (fp : List Addr), Gd (X.blk s H scope (compEnvC scope cl C X.env) fp) W0 → BlkD (X.blk s H scope (compEnvC scope cl C X.env) fp) tg g ifs tt (own.map (·.2)) [⟨tg1, iter1, ifs1, ⟨ti1, g1, tt1, vs1⟩⟩] elt te) (hd : Dec2 (own.map (·.2)) ([⟨tg1, iter1, ifs1, ⟨ti1, g1, tt1, vs1⟩⟩] : List TCl) = true := by rfl) (ok : blkC X.N X.env.scope scope own = true := by first | kernel_rfl | decide +kernel) (hs : ∀ x, foldedSetIterable iter X.env x = pure x := by intro _; rfl) :
    DE X W (.ListComp elt [⟨tg, iter, ifs, 0⟩, ⟨tg1, iter1, ifs1, 0⟩] scope pos) (dLcM ti g tt (own.map (·.2)) [⟨ti1, g1, tt1, vs1⟩] te) := de_lcN own [⟨tg1, iter1, ifs1, ⟨ti1, g1, tt1, vs1⟩⟩] G hi hb hd ok hs
theorem ds_setLc2 {spos py : Pos} {t : DTE} (j : Nat) (own : List (Str × Nat)) (vs1 : List Nat) (G : Gd X W) (hi : DI X W tg iter ti) (hb : ∀ (s : Shared) (H : Hp) (C : Addr) (cl : List (Str × Addr)) (fp : List Addr), Gd (X.blk s H scope (compEnvC scope cl C X.env) fp) W0 → BlkD (X.blk s H scope (compEnvC scope cl C X.env) fp) tg g ifs tt (own.map (·.2)) [⟨tg1, iter1, ifs1, ⟨ti1, g1, tt1, vs1⟩⟩] elt te) (hq : ∀ σ H Q, lif X.K W (RD X.K) t σ H Q → lif X.K W (RD X.K) (dLcM ti g tt (own.map (·.2)) [⟨ti1, g1, tt1, vs1⟩] te) σ H Q) (hd : Dec2 (own.map (·.2)) ([⟨tg1, iter1, ifs1, ⟨ti1, g1, tt1, vs1⟩⟩] : List TCl) = true := by rfl) (ok : blkC X.N X.env.scope scope own = true := by first | kernel_rfl | decide +kernel) (hs : ∀ x, foldedSetIterable iter X.env x = pure x := by intro _; rfl)
    (hy : X.N[j]? = some x := by rfl) (hyl : X.env.scope.names.lookup x = some .local := by rfl) (hsw : swapsWith (.ListComp elt [⟨tg, iter, ifs, 0⟩, ⟨tg1, iter1, ifs1, 0⟩] scope pos) (some (.Name x py)) spos.line X.env = pure true := by rfl) :
    DS X W (.Assign [.Name x py] (.ListComp elt [⟨tg, iter, ifs, 0⟩, ⟨tg1, iter1, ifs1, 0⟩] scope pos) spos) (dSet j t) := ds_setLcN j own [⟨tg1, iter1, ifs1, ⟨ti1, g1, tt1, vs1⟩⟩] G hi hb hq hy hyl hsw hd ok hs
theorem de_lc3 (own : List (Str × Nat)) (vs1 vs2 : List Nat) (G : Gd X W) (hi : DI X W tg iter ti) (hb : ∀ (s : Shared) (H : Hp) (C : Addr) (cl : List (Str × Addr)) (fp : List Addr), Gd (X.blk s H scope (compEnvC scope cl C X.env) fp) W0 → BlkD (X.blk s H scope (compEnvC scope cl C X.env) fp) tg g ifs tt (own.map (·.2)) [⟨tg1, iter1, ifs1, ⟨ti1, g1, tt1, vs1⟩⟩, ⟨tg2, iter2, ifs2, ⟨ti2, g2, tt2, vs2⟩⟩] elt te) (hd : Dec2 (own.map (·.2)) ([⟨tg1, iter1, ifs1, ⟨ti1, g1, tt1, vs1⟩⟩, ⟨tg2, iter2, ifs2, ⟨ti2, g2, tt2, vs2⟩⟩] : List TCl) = true := by rfl) (ok : blkC X.N X.env.scope scope own = true := by first | kernel_rfl | decide +kernel) (hs : ∀ x, foldedSetIterable iter X.env x = pure x := by intro _; rfl) :
    DE X W (.ListComp elt [⟨tg, iter, ifs, 0⟩, ⟨tg1, iter1, ifs1, 0⟩, ⟨tg2, iter2, ifs2, 0⟩] scope pos) (dLcM ti g tt (own.map (·.2)) [⟨ti1, g1, tt1, vs1⟩, ⟨ti2, g2, tt2, vs2⟩] te) := de_lcN own [⟨tg1, iter1, ifs1, ⟨ti1, g1, tt1, vs1⟩⟩, ⟨tg2, iter2, ifs2, ⟨ti2, g2, tt2, vs2⟩⟩] G hi hb hd ok hs
theorem ds_setLc3 {spos py : Pos} {t : DTE} (j : Nat) (own : List (Str × Nat)) (vs1 vs2 : List Nat) (G : Gd X W) (hi : DI X W tg iter ti) (hb : ∀ (s : Shared) (H : Hp) (C : Addr) (cl : List (Str × Addr)) (fp : List Addr), Gd (X.blk s H scope (compEnvC scope cl C X.env) fp) W0 → BlkD (X.blk s H scope (compEnvC scope cl C X.env) fp) tg g ifs tt (own.map (·.2)) [⟨tg1, iter1, ifs1, ⟨ti1, g1, tt1, vs1⟩⟩, ⟨tg2, iter2, ifs2, ⟨ti2, g2, tt2, vs2⟩⟩] elt te) (hq : ∀ σ H Q, lif X.K W (RD X.K) t σ H Q → lif X.K W (RD X.K) (dLcM ti g tt (own.map (·.2)) [⟨ti1, g1, tt1, vs1⟩, ⟨ti2, g2, tt2, vs2⟩] te) σ H Q) (hd : Dec2 (own.map (·.2)) ([⟨tg1, iter1, ifs1, ⟨ti1, g1, tt1, vs1⟩⟩, ⟨tg2, iter2, ifs2, ⟨ti2, g2, tt2, vs2⟩⟩] : List TCl) = true := by rfl) (ok : blkC X.N X.env.scope scope own = true := by first | kernel_rfl | decide +kernel) (hs : ∀ x, foldedSetIterable iter X.env x = pure x := by intro _; rfl)
    (hy : X.N[j]? = some x := by rfl) (hyl : X.env.scope.names.lookup x = some .local := by rfl) (hsw : swapsWith (.ListComp elt [⟨tg, iter, ifs, 0⟩, ⟨tg1, iter1, ifs1, 0⟩, ⟨tg2, iter2, ifs2, 0⟩] scope pos) (some (.Name x py)) spos.line X.env = pure true := by rfl) :
    DS X W (.Assign [.Name x py] (.ListComp elt [⟨tg, iter, ifs, 0⟩, ⟨tg1, iter1, ifs1, 0⟩, ⟨tg2, iter2, ifs2, 0⟩] scope pos) spos) (dSet j t) := ds_setLcN j own [⟨tg1, iter1, ifs1, ⟨ti1, g1, tt1, vs1⟩⟩, ⟨tg2, iter2, ifs2, ⟨ti2, g2, tt2, vs2⟩⟩] G hi hb hq hy hyl hsw hd ok hs
end
end
end DL

namespace DL
open PySem L2
/-! ### f'..' -/
def dJs : List DTE → Tx → DSt → Mu → (Tx → Mu → Prop) → DX → Prop
  | [], acc, _, M, Q, _ => Q acc M
  | t :: ts, acc, τ, M, Q, E => t τ M (fun x M1 => match x with
    | .str y => (acc ++ y).length ≤ 16777216 ∧ dJs ts (acc ++ y) τ M1 Q E
    | _ => False) E
def dFs (ts : List DTE) : DTE := fun τ M Q E => dJs ts [] τ M (fun out M1 => Q (.str out) M1) E
def intT (i : Int) : Tx := T (toString i)
def dFmt (te : DTE) : DTE := fun τ M Q E => te τ M (fun x M1 => match x with
  | .str y => y.length ≤ 16777216 ∧ Q (.str y) M1
  | .int i => i.natAbs.log2 < 1920 ∧ Q (.str (intT i)) M1
  | _ => False) E
inductive DJ (X : Cx) (W : WX) : List Expr → List DTE → Prop where
  | nil : DJ X W [] []
  | cons {e : Expr} {t : DTE} {es : List Expr} {ts : List DTE} (h : DE X W e t) (r : DJ X W es ts) : DJ X W (e :: es) (t :: ts)
section
variable {X : Cx} {W : WX} {a b c e e1 e2 o : Expr} {rest es : List Expr} {ta tb tc te to : DTE} {ts : List DTE} {tl : DTA} {pos apos cpos p : Pos} {name : Str}
theorem de_fmt (h : DE X W e te) : DE X W (.FormattedValue e (-1) none pos) (dFmt te) := PE.of (pe_fmt h) fun σ H Q ⟨τ, M, Q0, E0, S, h⟩ => S.sub h fun d M1 v H1 h1 r1 S1 s1 => by
  cases d with
  | str y => exact .inl ⟨sx y, r1, by rw [sx_len, line24]; exact h1.1, S1.end_ h1.2 rfl⟩
  | int i => exact .inr ⟨i, r1, h1.1, S1.end_ h1.2 (by show V.str _ = V.str (sx (T _)); rw [sx_T])⟩
  | _ => exact h1.elim
theorem dj_pj : ∀ {es : List Expr} {ts : List DTE}, DJ X W es ts → PJ X es (ts.map (lif X.K W (RD X.K)))
  | _, _, .nil => .nil
  | _, _, .cons h r => .cons h (dj_pj r)
theorem js_ok {τ : DSt} {σ : L2.St} {Q : VK} {Q0 : DK} {E0 : DX} : ∀ {ts : List DTE} {acc : Tx} {M : Mu} {H : Hp}, Sit X.K W (RD X.K) τ M σ H Q0 E0 Q → dJs ts acc τ M (fun out M1 => Q0 (.str out) M1) E0 →
    tJs (ts.map (lif X.K W (RD X.K))) (sx acc) σ H fun out H1 => Q (.str out) H1
  | [], acc, M, H, S, h => S.end_ (d := .str acc) h rfl
  | t :: ts, acc, M, H, S, h => S.sub h fun d M1 v H1 h1 r1 S1 s1 => by
    cases d with
    | str y =>
      refine ⟨sx y, r1, by rw [sx_add, sx_len, line24]; exact h1.1, ?_⟩
      rw [sx_add]
      exact js_ok S1 h1.2
    | _ => exact h1.elim
theorem de_fs (h : DJ X W (e1 :: e2 :: rest) ts) : DE X W (.JoinedStr (e1 :: e2 :: rest) pos) (dFs ts) := PE.of (pe_joined (dj_pj h)) fun σ H Q ⟨τ, M, Q0, E0, S, h⟩ => js_ok (acc := []) S h
theorem de_fs1 (h : DE X W e te) : DE X W (.JoinedStr [e] pos) te := pe_joined1 h
end
/-! ### methods -/
/-- cut at a sign -/
def cutAt (c : Nat) : Tx → List Tx
  | [] => [[]]
  | x :: r => if x = c then [] :: cutAt c r else match cutAt c r with
    | y :: ys => (x :: y) :: ys
    | [] => [[x]]
theorem cutAt_ne (c : Nat) : ∀ t : Tx, cutAt c t ≠ []
  | [] => by simp [cutAt]
  | x :: r => by
    unfold cutAt
    split
    · simp
    · split <;> simp
def hd1 (acc : Tx) : List Tx → List Tx
  | [] => [acc]
  | y :: ys => (acc ++ y) :: ys
theorem spl_cut (c : Nat) : ∀ (t acc : Tx), TL.spl [c] 0 acc t = hd1 acc (cutAt c t)
  | [], acc => by simp [TL.spl_nil, cutAt, hd1]
  | x :: r, acc => by
    by_cases e : x = c
    · have hp : TL.pre [c] (x :: r) = true := by simp [TL.pre, e]
      rw [TL.spl_hit hp]
      show acc :: TL.spl [c] 0 [] r = _
      have hc : cutAt c (x :: r) = [] :: cutAt c r := if_pos e
      rw [spl_cut c r [], hc]
      cases h : cutAt c r with
      | nil => exact absurd h (cutAt_ne c r)
      | cons y ys => simp [hd1]
    · have hp : TL.pre [c] (x :: r) = false := by simp [TL.pre, e]
      have hc : cutAt c (x :: r) = (match cutAt c r with
        | y :: ys => (x :: y) :: ys
        | [] => [[x]]) := if_neg e
      rw [TL.spl_miss hp, spl_cut c r, hc]
      cases h : cutAt c r with
      | nil => exact absurd h (cutAt_ne c r)
      | cons y ys => simp [hd1]
theorem split_cut (c : Nat) (hc : c < 256) (t : Tx) : Txt.split (sx t) (sx [c]) = (cutAt c t).map sx := by
  have e : (Txt.split (sx t) (sx [c])).map TL.tl = TL.spl (TL.tl (sx [c])) 0 [] (TL.tl (sx t)) := TL.split_spl (sx t) (sx [c]) (by rw [tl_sx]; simp) (TL.kind_ok (by rw [← Array.all_toList]; simp [sx, hc]))
  rw [tl_sx, tl_sx, spl_cut] at e
  have e2 : hd1 [] (cutAt c t) = cutAt c t := by
    cases h : cutAt c t with
    | nil => exact absurd h (cutAt_ne c t)
    | cons y ys => simp [hd1]
  rw [e2] at e
  have := congrArg (List.map sx) e
  rw [List.map_map] at this
  have e3 : (sx ∘ TL.tl) = (id : Str → Str) := funext fun s => sx_T s
  rw [e3, List.map_id] at this
  exact this
def gSplit : DMt := fun x xs M Q => match x, xs with
  | .str a, [.str [c]] => c < 256 ∧ a.length + 2 ≤ 16777216 ∧ Q (.lst ((cutAt c a).map D.str)) M
  | _, _ => False
def gSplitM : DMt := fun x xs M Q => match x, xs with
  | .str a, [.str [c]] => c < 256 ∧ a.length + 2 ≤ 16777216 ∧ ∀ p, M p = none → Q (.ref p) (put M p (.lst ((cutAt c a).map D.str)))
  | _, _ => False
def endsT (a b : Tx) : Bool := b.reverse.isPrefixOf a.reverse
def gReverse : DMt := fun x xs M Q => match x, xs with
  | .ref a, [] => (match M a with
    | some (.lst ds) => Q .non (put M a (.lst ds.reverse))
    | _ => False)
  | _, _ => False
section
variable {K : PySem.W.Frag}
theorem md_split : MtD K gSplit (fun x xs H Q => ∃ a b, x = .str a ∧ xs = [.str b] ∧ (b.length == 0) = false ∧ a.length + 2 ≤ sizeLine ∧ rNewStrs (Txt.split a b) H Q) := fun M H x v xs vs Q0 Q c rx r h q => by
  match x, xs, h with
  | .str a, [.str [k]], h =>
    obtain ⟨u, us, rfl, r1, r2⟩ := r.uncons
    cases r2.unnil; cases rx; cases r1
    refine ⟨sx a, sx [k], rfl, rfl, by rw [sx_len]; rfl, by rw [sx_len, line24]; exact h.2.1, ?_⟩
    rw [split_cut k h.1]
    intro p hp
    exact q _ M _ _ h.2.2 (rep_lst upd_same (c.free hp) ((Reps.of_strs _).stp (Stp.new hp))) (c.new hp) (Stp.new hp)
theorem md_splitM : MtD K gSplitM (fun x xs H Q => ∃ a b, x = .str a ∧ xs = [.str b] ∧ (b.length == 0) = false ∧ a.length + 2 ≤ sizeLine ∧ rNewStrs (Txt.split a b) H Q) := fun M H x v xs vs Q0 Q c rx r h q => by
  match x, xs, h with
  | .str a, [.str [k]], h =>
    obtain ⟨u, us, rfl, r1, r2⟩ := r.uncons
    cases r2.unnil; cases rx; cases r1
    refine ⟨sx a, sx [k], rfl, rfl, by rw [sx_len]; rfl, by rw [sx_len, line24]; exact h.2.1, ?_⟩
    rw [split_cut k h.1]
    intro p hp
    exact q _ _ _ _ (h.2.2 p (c.free hp)) rfl (c.newM hp ⟨_, rfl, Reps.of_strs _⟩) (Stp.newM hp)
theorem md_reverse : MtD K gReverse rReverse := fun M H x v xs vs Q0 Q c rx r h q => by
  match x, xs, h with
  | .ref a, [], h =>
    cases r.unnil; cases rx
    have h2 : (match M a with
      | some (.lst ds) => Q0 .non (put M a (.lst ds.reverse))
      | _ => False) := h
    cases e : M a with
    | none => rw [e] at h2; exact h2.elim
    | some mo =>
      rw [e] at h2
      cases mo with
      | lst ds =>
        obtain ⟨vs, ha, ra⟩ := mu_lst c e
        exact ⟨a, vs, rfl, rfl, ha, q _ _ _ _ h2 rfl (c.write e ⟨_, rfl, ra.reverse⟩) (Stp.write e)⟩
      | _ => exact h2.elim
end
/-! ### all, any of a list -/
def blsOf : List D → Option (List Bool)
  | [] => some []
  | .bl b :: ds => (blsOf ds).map (b :: ·)
  | _ => none
def gAllA (f : List Bool → Bool) : DCb := fun xs M Q => match xs with
  | [.lst ds] => ∃ bs : List Bool, ds = bs.map D.bl ∧ Q (.bl (f bs)) M
  | _ => False
abbrev gAll : DCb := gAllA fun bs => bs.all id
abbrev gAnyL : DCb := gAllA fun bs => bs.any id
theorem cb_allA {K : PySem.W.Frag} {f : List Bool → Bool} : CbD K (gAllA f) (fun vs H Q => ∃ (a : Addr) (bs : List Bool), vs = [V.ref a] ∧ SqL K H a (bs.map V.bl) ∧ Q (.bl (f bs)) H) := fun M H xs vs Q0 Q c r h q => by
  match xs, h with
  | [.lst ds], h =>
    obtain ⟨bs, e, h⟩ := h
    subst e
    obtain ⟨v, u, rfl, r1, r2⟩ := r.uncons
    cases r2.unnil
    obtain ⟨a, ws, rfl, ha, ma, ra⟩ := rep_of_lst r1
    have e := ra.bls
    subst e
    exact ⟨a, bs, rfl, .inl (.inl ha), q _ M _ H h rfl c (Stp.refl M H)⟩
theorem cb_all {K : PySem.W.Frag} : CbD K gAll (rAll K) := cb_allA
theorem cb_anyL {K : PySem.W.Frag} : CbD K gAnyL (rAny K) := cb_allA
end DL

namespace DL
open PySem L2
/-- a statement that is not reached -/
def dNever : DTS := fun _ _ _ => False
theorem ds_never {X : Cx} {W : WX} {st : Stmt} : DS X W st dNever := ⟨fun pins s σ H D I ⟨τ, M, D0, S, h⟩ => h.elim⟩
/-! how the readings reduce -/
theorem lcM_ {ti : DTI} {g : DTG} {tt : DTT} {vs : List Nat} {cs : List DCl} {te : DTE} {τ : DSt} {M : Mu} {Q : DK} {E : DX} : dLcM ti g tt vs cs te τ M Q E = ti τ M (fun ds M1 => ∀ p, M1 p = none → wTs g tt vs τ (wNst (dEm p te) cs) (fun M2 => Q (.ref p) M2) ds (put M1 p (.lst []))) E := rfl
theorem wTs_nil {g : DTG} {tt : DTT} {vs : List Nat} {τ : DSt} {inn : DSt → Mu → (Mu → Prop) → Prop} {Nx : Mu → Prop} {M : Mu} : wTs g tt vs τ inn Nx [] M = Nx M := rfl
theorem wTs_cons {g : DTG} {tt : DTT} {vs : List Nat} {τ : DSt} {inn : DSt → Mu → (Mu → Prop) → Prop} {Nx : Mu → Prop} {M : Mu} {d : D} {ds : List D} :
    wTs g tt vs τ inn Nx (d :: ds) M = g d (wipeD τ vs) M (fun τ2 M2 => tt τ2 M2 (fun b M3 => if b = true then inn τ2 M3 (wTs g tt vs τ inn Nx ds) else wTs g tt vs τ inn Nx ds M3) noX) noX := rfl
/-- turn by turn -/
theorem wTs_by {g : DTG} {tt : DTT} {vs : List Nat} {τ : DSt} {inn : DSt → Mu → (Mu → Prop) → Prop} {Nx : Mu → Prop} (I : Nat → Mu → Prop) {ds : List D} (hs : ∀ i d M, ds[i]? = some d → I i M →
    g d (wipeD τ vs) M (fun τ2 M2 => tt τ2 M2 (fun b M3 => if b = true then ∀ N1 : Mu → Prop, (∀ M', I (i + 1) M' → N1 M') → inn τ2 M3 N1 else I (i + 1) M3) noX) noX)
    (mono_g : ∀ d τ M (Q Q' : DSt → Mu → Prop), (∀ a b, Q a b → Q' a b) → g d τ M Q noX → g d τ M Q' noX) (mono_t : ∀ τ M (Q Q' : Bool → Mu → Prop), (∀ a b, Q a b → Q' a b) → tt τ M Q noX → tt τ M Q' noX)
    (hd : ∀ M, I ds.length M → Nx M) : ∀ (k : Nat) (M : Mu), k ≤ ds.length → I k M → wTs g tt vs τ inn Nx (ds.drop k) M := by
  have go : ∀ (n k : Nat) (M : Mu), n + k = ds.length → I k M → wTs g tt vs τ inn Nx (ds.drop k) M := by
    intro n
    induction n with
    | zero =>
      intro k M e i
      have e2 : k = ds.length := by omega
      rw [e2, List.drop_length]
      rw [e2] at i
      exact hd M i
    | succ n ih =>
      intro k M e i
      have hlt : k < ds.length := by omega
      rw [List.drop_eq_getElem_cons hlt, wTs_cons]
      refine mono_g _ _ _ _ _ (fun τ2 M2 h => mono_t _ _ _ _ (fun b M3 h => ?_) h) (hs k ds[k] M (List.getElem?_eq_getElem hlt) i)
      cases b with
      | true => exact h _ fun M' i' => ih (k + 1) M' (by omega) i'
      | false => exact ih (k + 1) M3 (by omega) h
  exact fun k M hk i => go (ds.length - k) k M (by omega) i
/-! one name as the target -/
/-- turn by turn: the list so far -/
theorem lc_by {i : Nat} {tt : DTT} {vs : List Nat} {τ : DSt} {p : Addr} {te : DTE} {Nx : Mu → Prop} {ds : List D} {M : Mu} (I : Nat → List D → Mu → Prop) (h0 : I 0 [] M) (hM : M p = some (.lst []))
    (hs : ∀ k d acc M, ds[k]? = some d → M p = some (.lst acc) → I k acc M → ∀ N : Mu → Prop,
      (∀ y M1, M1 p = some (.lst acc) → I (k + 1) (acc ++ [y]) (put M1 p (.lst (acc ++ [y]))) → N (put M1 p (.lst (acc ++ [y])))) → (∀ M1, M1 p = some (.lst acc) → I (k + 1) acc M1 → N M1) →
      tt ((wipeD τ vs).set i (some d)) M (fun b M3 => if b = true then dEm p te ((wipeD τ vs).set i (some d)) M3 N else N M3) noX)
    (hd : ∀ acc M, M p = some (.lst acc) → I ds.length acc M → Nx M) : wTs (dgName i) tt vs τ (wNst (dEm p te) []) Nx ds M := by
  have go : ∀ (n k : Nat) (acc : List D) (M : Mu), n + k = ds.length → M p = some (.lst acc) → I k acc M → wTs (dgName i) tt vs τ (wNst (dEm p te) []) Nx (ds.drop k) M := by
    intro n
    induction n with
    | zero =>
      intro k acc M e hp hi
      have e2 : k = ds.length := by omega
      rw [e2, List.drop_length]
      rw [e2] at hi
      exact hd acc M hp hi
    | succ n ih =>
      intro k acc M e hp hi
      have hlt : k < ds.length := by omega
      rw [List.drop_eq_getElem_cons hlt, wTs_cons]
      exact hs k ds[k] acc M (List.getElem?_eq_getElem hlt) hp hi _ (fun y M1 _ i' => ih (k + 1) _ _ (by omega) put_same i') fun M1 hp' i' => ih (k + 1) _ _ (by omega) hp' i'
  exact go ds.length 0 [] M (by omega) hM h0
/-- nothing else is changed: the items' images, of those that pass -/
theorem lc_pure {i : Nat} {tt : DTT} {vs : List Nat} {τ : DSt} {p : Addr} {te : DTE} {Nx : Mu → Prop} {ds : List D} {M : Mu} (f : D → D) (g : D → Bool) (hl : ds.length < 16777216)
    (ht : ∀ d ∈ ds, ∀ acc (N : Bool → Mu → Prop), N (g d) (put M p (.lst acc)) → tt ((wipeD τ vs).set i (some d)) (put M p (.lst acc)) N noX)
    (he : ∀ d ∈ ds, g d = true → ∀ acc (N : D → Mu → Prop), N (f d) (put M p (.lst acc)) → te ((wipeD τ vs).set i (some d)) (put M p (.lst acc)) N noX)
    (h : Nx (put M p (.lst ((ds.filter g).map f)))) : wTs (dgName i) tt vs τ (wNst (dEm p te) []) Nx ds (put M p (.lst [])) := by
  refine lc_by (fun k acc M' => M' = put M p (.lst acc) ∧ acc = ((ds.take k).filter g).map f) ⟨rfl, by simp⟩ put_same ?_ ?_
  · rintro k d acc M' hk hp ⟨rfl, e⟩ N hy hn
    have hm := List.mem_of_getElem? hk
    have tk : ds.take (k + 1) = ds.take k ++ [d] := by rw [List.take_succ, hk]; rfl
    refine ht d hm acc _ ?_
    cases hg : g d with
    | true =>
      simp only [if_true]
      refine he d hm hg acc _ ⟨acc, put_same, ?_, ?_⟩
      · rw [e, List.length_map]
        have := List.length_filter_le g (ds.take k)
        have h2 : (ds.take k).length ≤ ds.length := by rw [List.length_take]; omega
        rw [line24] <;> omega
      · refine hy (f d) _ put_same ⟨by rw [put_put], ?_⟩
        rw [tk, List.filter_append, List.map_append, ← e]
        simp [hg]
    | false =>
      simp only [Bool.false_eq_true, if_false]
      refine hn _ put_same ⟨rfl, ?_⟩
      rw [tk, List.filter_append, List.map_append, ← e]
      simp [hg]
  · rintro acc M' hp ⟨rfl, e⟩
    rw [List.take_length] at e
    rw [e]
    exact h
theorem lc_map {i : Nat} {vs : List Nat} {τ : DSt} {p : Addr} {te : DTE} {Nx : Mu → Prop} {ds : List D} {M : Mu} (f : D → D) (hl : ds.length < 16777216)
    (he : ∀ d ∈ ds, ∀ acc (N : D → Mu → Prop), N (f d) (put M p (.lst acc)) → te ((wipeD τ vs).set i (some d)) (put M p (.lst acc)) N noX)
    (h : Nx (put M p (.lst (ds.map f)))) : wTs (dgName i) dYes vs τ (wNst (dEm p te) []) Nx ds (put M p (.lst [])) :=
  lc_pure f (fun _ => true) hl (fun d _ acc N h => h) (fun d hd _ => he d hd) (by rw [List.filter_eq_self.mpr fun _ _ => rfl]; exact h)
/-! clauses that change nothing else, one within another -/
def Adds (p : Addr) (M : Mu) (inn : DSt → Mu → (Mu → Prop) → Prop) (τ : DSt) (L : List D) : Prop := ∀ (acc : List D) (N : Mu → Prop), acc.length + L.length ≤ 16777216 → N (put M p (.lst (acc ++ L))) → inn τ (put M p (.lst acc)) N
theorem adds_em {p : Addr} {M : Mu} {te : DTE} {τ : DSt} {y : D} (h : ∀ (acc : List D) (N : D → Mu → Prop), N y (put M p (.lst acc)) → te τ (put M p (.lst acc)) N noX) : Adds p M (dEm p te) τ [y] := fun acc N hl hn =>
  h acc _ ⟨acc, put_same, by rw [line24]; simp at hl; omega, by rw [put_put]; exact hn⟩
theorem adds_ts {p : Addr} {M : Mu} {inn : DSt → Mu → (Mu → Prop) → Prop} {τ : DSt} {i : Nat} {vs : List Nat} {L : D → List D} {Nx : Mu → Prop} : ∀ {ds : List D} (acc : List D), (∀ d ∈ ds, Adds p M inn ((wipeD τ vs).set i (some d)) (L d)) →
    acc.length + (ds.flatMap L).length ≤ 16777216 → Nx (put M p (.lst (acc ++ ds.flatMap L))) → wTs (dgName i) dYes vs τ inn Nx ds (put M p (.lst acc))
  | [], acc, h, hl, hn => by
    rw [wTs_nil]
    simpa using hn
  | d :: ds, acc, h, hl, hn => by
    rw [wTs_cons]
    rw [List.flatMap_cons, List.length_append] at hl
    refine h d List.mem_cons_self acc _ (by omega) ?_
    refine adds_ts (acc ++ L d) (fun e he => h e (List.mem_cons_of_mem _ he)) (by rw [List.length_append]; omega) ?_
    rw [List.flatMap_cons, ← List.append_assoc] at hn
    exact hn
theorem adds_cl {p : Addr} {M : Mu} {em : DSt → Mu → (Mu → Prop) → Prop} {τ : DSt} {i : Nat} {vs : List Nat} {cs : List DCl} {ti : DTI} {ds : List D} {L : D → List D} (hi : ∀ (acc : List D) (N : List D → Mu → Prop), N ds (put M p (.lst acc)) → ti τ (put M p (.lst acc)) N noX)
    (h : ∀ d ∈ ds, Adds p M (wNst em cs) ((wipeD τ vs).set i (some d)) (L d)) : Adds p M (wNst em (⟨ti, dgName i, dYes, vs⟩ :: cs)) τ (ds.flatMap L) := fun acc N hl hn =>
  hi acc _ (adds_ts acc h hl hn)
end DL

namespace DL
open PySem L2 He
/-! ### the head's facts, with any further looks at the written part -/
def obsX (fa : List Fa) (fn : List DefD) (gb : List (PySem.W.Frag → Bool)) (K : PySem.W.Frag) : AlD := ((obsD fa fn K).1 && gb.all (fun f => f K), (obsD fa fn K).2)
def SaysX (fa : List Fa) (fn : List DefD) (gb : List (PySem.W.Frag → Bool)) (K : PySem.W.Frag) : Prop := obsX fa fn gb K = valD fn
def obsXG (n : Nat) (fa : List Fa) (fn : List DefD) (gb : List (PySem.W.Frag → Bool)) (g : Addr → Option Obj) : AlD := obsX fa fn gb (frG g (asD g n))
def hookX (n : Nat) (fa : List Fa) (fn : List DefD) (gb : List (PySem.W.Frag → Bool)) : PySem.W.Hook where
  α := AlD
  obs := fun s => obsXG n fa fn gb s.heap.get?
  val := fun _ => valD fn
  says := fun _ h => ∃ K : PySem.W.Frag, K.In h ∧ SaysX fa fn gb K
  of := fun _ _ e => ⟨_, frG_in, e⟩
  keeps := fun _ _ _ ⟨K, hK, c⟩ k => ⟨K, hK.keeps k, c⟩
theorem obsXG_eq {n : Nat} {fa : List Fa} {fn : List DefD} {gb : List (PySem.W.Frag → Bool)} {g : Addr → Option Obj} {s : Shared} (h : ∀ a, g a = s.heap.get? a) : obsXG n fa fn gb g = (hookX n fa fn gb).obs s := by
  rw [funext h] <;> rfl
section
variable {fa : List Fa} {fn : List DefD} {gb : List (PySem.W.Frag → Bool)} {K : PySem.W.Frag}
theorem SaysX.d (c : SaysX fa fn gb K) : SaysD fa fn K := by
  have c1 : ((obsD fa fn K).1 && gb.all (fun f => f K)) = true := congrArg (fun z : AlD => z.1) c
  have c2 : (obsD fa fn K).2 = fn.map DefD.val := congrArg (fun z : AlD => z.2) c
  exact Prod.ext (ba c1).1 c2
theorem SaysX.b (c : SaysX fa fn gb K) (i : Nat) {f : PySem.W.Frag → Bool} (h : gb[i]? = some f := by rfl) : f K = true := by
  have c1 : ((obsD fa fn K).1 && gb.all (fun f => f K)) = true := congrArg (fun z : AlD => z.1) c
  exact List.all_eq_true.mp (ba c1).2 f (List.mem_of_getElem? h)
end
/-- a tuple of texts in the module -/
def tupF (x : Str) (zs : List Str) (K : PySem.W.Frag) : Bool := tupB K x (zs.map Dv.str)
theorem tupF_ok {K : PySem.W.Frag} {x : Str} {zs : List Str} {mg : Str → Option Value} (hm : mg x = some (.ref (ga K x))) (h : tupF x zs K = true) : ∃ f, mg x = some (.ref f) ∧ WrT K f (zs.map V.str) := by
  refine ⟨_, hm, ?_⟩
  have q := tupB_ok h (fun _ => none)
  have e : (zs.map Dv.str).map (Dv.v K) = zs.map V.str := by rw [List.map_map]; rfl
  rw [e] at q
  rcases q with z | z
  · have no : ∀ u : HO, (none : Option HO) ≠ some u := fun _ h => by cases h
    rcases (show (none : Option HO) = some _ ∨ ∃ o, (none : Option HO) = some (.frz o _) from z) with z | ⟨_, z⟩
    · exact (no _ z).elim
    · exact (no _ z).elim
  · exact z
theorem de_gtx {X : Cx} {W : WX} {x : Str} {pos : Pos} {zs : List Str} {d : D} (h : ∃ f, X.mg x = some (.ref f) ∧ WrT X.K f (zs.map V.str)) (e : D.tup (zs.map fun z => D.str (T z)) = d) (hg : Gl X x := by rfl) (hd : (x == ("__debug__" : Str)) = false := by decide) :
    DE X W (.Name x pos) (dC d) := by
  obtain ⟨f, h1, h2⟩ := h
  rw [← e]
  exact de_gt h1 h2 hg hd
end DL

namespace DL
open PySem L2
/-! ### dicts: displays, stores -/
def putD (kvs : List (DKey × D)) (k : DKey) (d : D) : List (DKey × D) := if (kvs.any fun q => decide (q.1 = k)) = true then kvs.map (fun q => if q.1 = k then (q.1, d) else q) else kvs ++ [(k, d)]
def mergeD (kvs more : List (DKey × D)) : List (DKey × D) := more.foldl (fun acc q => putD acc q.1 q.2) kvs
section
variable {K : PySem.W.Frag} {M : Mu} {H : Hp}
theorem any_keys {k : DKey} : ∀ {kvs : List (DKey × D)} {ks : List (Key × V)}, ks.map (·.1) = kvs.map (fun q => kO q.1) → (ks.any fun q => decide (q.1 = kO k)) = kvs.any fun q => decide (q.1 = k)
  | [], [], _ => rfl
  | [], _ :: _, h => by cases h
  | _ :: _, [], h => by cases h
  | a :: kvs, b :: ks, h => by
    simp only [List.map_cons, List.cons.injEq] at h
    rw [List.any_cons, List.any_cons, any_keys h.2, h.1, kO_dec]
theorem map_keys {k : DKey} {d : D} {v : V} (r0 : Rep K M H d v) : ∀ {kvs : List (DKey × D)} {ks : List (Key × V)}, ks.map (·.1) = kvs.map (fun q => kO q.1) → Reps K M H (kvs.map (·.2)) (ks.map (·.2)) →
    ((ks.map fun q => if q.1 = kO k then (q.1, v) else q).map (·.1) = (kvs.map fun q => if q.1 = k then (q.1, d) else q).map (fun q => kO q.1)) ∧
      Reps K M H ((kvs.map fun q => if q.1 = k then (q.1, d) else q).map (·.2)) ((ks.map fun q => if q.1 = kO k then (q.1, v) else q).map (·.2))
  | [], [], _, _ => ⟨rfl, .nil⟩
  | [], _ :: _, h, _ => by cases h
  | _ :: _, [], h, _ => by cases h
  | a :: kvs, b :: ks, h, r => by
    simp only [List.map_cons, List.cons.injEq] at h
    obtain ⟨u, us, e, r1, r2⟩ := r.uncons
    simp only [List.map_cons, List.cons.injEq] at e
    obtain ⟨i1, i2⟩ := map_keys r0 h.2 (by rw [e.2]; exact r2)
    by_cases q : a.1 = k
    · have q2 : b.1 = kO k := by rw [h.1, q]
      simp only [List.map_cons, if_pos q, if_pos q2]
      exact ⟨by rw [i1, h.1], .cons r0 i2⟩
    · have q2 : ¬ b.1 = kO k := fun z => q (kO_inj (by rw [← h.1, z]))
      simp only [List.map_cons, if_neg q, if_neg q2]
      exact ⟨by rw [i1, h.1], .cons (by rw [e.1]; exact r1) i2⟩
theorem put_rep {k : DKey} {d : D} {v : V} (r0 : Rep K M H d v) {kvs : List (DKey × D)} {ks : List (Key × V)} (h : ks.map (·.1) = kvs.map (fun q => kO q.1)) (r : Reps K M H (kvs.map (·.2)) (ks.map (·.2))) :
    (putK ks (kO k) v).map (·.1) = (putD kvs k d).map (fun q => kO q.1) ∧ Reps K M H ((putD kvs k d).map (·.2)) ((putK ks (kO k) v).map (·.2)) := by
  unfold putK putD
  rw [any_keys h]
  split
  · exact map_keys r0 h r
  · rw [List.map_append, List.map_append, List.map_append, List.map_append, h]
    exact ⟨rfl, r.append (.cons r0 .nil)⟩
theorem merge_rep : ∀ {more : List (DKey × D)} {ms : List (Key × V)} {kvs : List (DKey × D)} {ks : List (Key × V)}, ms.map (·.1) = more.map (fun q => kO q.1) → Reps K M H (more.map (·.2)) (ms.map (·.2)) →
    ks.map (·.1) = kvs.map (fun q => kO q.1) → Reps K M H (kvs.map (·.2)) (ks.map (·.2)) →
    (mergeK ks ms).map (·.1) = (mergeD kvs more).map (fun q => kO q.1) ∧ Reps K M H ((mergeD kvs more).map (·.2)) ((mergeK ks ms).map (·.2))
  | [], [], _, _, _, _, h, r => ⟨h, r⟩
  | [], _ :: _, _, _, h, _, _, _ => by cases h
  | _ :: _, [], _, _, h, _, _, _ => by cases h
  | a :: more, b :: ms, kvs, ks, h0, r0, h, r => by
    simp only [List.map_cons, List.cons.injEq] at h0
    obtain ⟨u, us, e, r1, r2⟩ := r0.uncons
    simp only [List.map_cons, List.cons.injEq] at e
    have p := put_rep (k := a.1) r1 h r
    have q := merge_rep (more := more) (ms := ms) h0.2 (by rw [e.2]; exact r2) p.1 p.2
    unfold mergeK mergeD at q ⊢
    rw [List.foldl_cons, List.foldl_cons, h0.1, e.1]
    exact q
end
def dPairs : List (DTE × DTE) → DSt → Mu → (List (D × D) → Mu → Prop) → DX → Prop
  | [], _, M, Q, _ => Q [] M
  | (tk, tv) :: r, τ, M, Q, E => tk τ M (fun x M1 => tv τ M1 (fun y M2 => dPairs r τ M2 (fun ps M3 => Q ((x, y) :: ps) M3) E) E) E
/-- {k: v, ..} -/
def dDict (prs : List (DTE × DTE)) : DTE := fun τ M Q E => ∀ p, M p = none → dPairs prs τ (put M p (.dK [])) (fun ps M2 => M2 p = some (.dK []) ∧ ∃ kvs : List (DKey × D), ps = kvs.map (fun q => (kD q.1, q.2)) ∧ kvs.length ≤ 15 ∧ Q (.ref p) (put M2 p (.dK (mergeD [] kvs)))) E
/-- {} -/
def dDict0 : DTE := fun _ M Q _ => ∀ p, M p = none → Q (.ref p) (put M p (.dK []))
def lifP (K : PySem.W.Frag) (W : WX) (prs : List (DTE × DTE)) : List (TE × TE) := prs.map fun q => (lif K W (RD K) q.1, lif K W (RD K) q.2)
def DPs (X : Cx) (W : WX) (pos : Pos) (keys : List (Option Expr)) (values : List Expr) (prs : List (DTE × DTE)) : Prop := PPs X pos keys values (lifP X.K W prs)
section
variable {X : Cx} {W : WX} {a b c e o i k v : Expr} {rest es : List Expr} {ta tb tc te to ti tk tv : DTE} {tl : DTA} {tt : DTT} {pos apos cpos p : Pos} {x : Str} {keys ks : List (Option Expr)} {values vs : List Expr} {prs : List (DTE × DTE)} {st : Stmt} {t : DTS}
theorem dps_nil : DPs X W pos [] [] [] := pps_nil
theorem dps_cons (hk : DE X W k tk) (hv : DE X W v tv) (hr : DPs X W pos ks vs prs) : DPs X W pos (some k :: ks) (v :: vs) ((tk, tv) :: prs) := pps_cons hk hv hr
theorem kD_rep {K : PySem.W.Frag} {M : Mu} {H : Hp} (k : DKey) : Rep K M H (kD k) (kV (kO k)) := by
  cases k <;> exact rfl
theorem pairs_rep {K : PySem.W.Frag} {M : Mu} {H : Hp} : ∀ {kvs : List (DKey × D)} {ps : List (V × V)}, Paired (fun (q : D × D) (r : V × V) => Rep K M H q.1 r.1 ∧ Rep K M H q.2 r.2) (kvs.map fun q => (kD q.1, q.2)) ps →
    ∃ ks : List (Key × V), ps = ks.map (fun q => (kV q.1, q.2)) ∧ ks.map (·.1) = kvs.map (fun q => kO q.1) ∧ Reps K M H (kvs.map (·.2)) (ks.map (·.2))
  | [], _, h => by cases h; exact ⟨[], rfl, rfl, .nil⟩
  | a :: kvs, ps, h => by
    rw [List.map_cons] at h
    cases h with
    | cons h1 h2 =>
      rename_i q r
      obtain ⟨ks, e, e2, r2⟩ := pairs_rep h2
      obtain ⟨q1, q2⟩ := q
      have ek : q1 = kV (kO a.1) := by
        cases ea : a.1 with
        | inl i => rw [ea] at h1; exact h1.1
        | inr z => rw [ea] at h1; exact h1.1
      refine ⟨(kO a.1, q2) :: ks, by rw [List.map_cons, ← e, ek], by rw [List.map_cons, List.map_cons, e2], .cons h1.2 r2⟩
theorem prs_ok {K : PySem.W.Frag} {W : WX} {τ : DSt} {σ : L2.St} {E0 : DX} {G : List (D × D) → Mu → Prop} {Q : List (V × V) → Hp → Prop} : ∀ {prs : List (DTE × DTE)} {M : Mu} {H : Hp}, RepS K M H τ σ → Cor K M H → dPairs prs τ M G E0 →
    (∀ ds M' vs H', G ds M' → Paired (fun (q : D × D) (r : V × V) => Rep K M' H' q.1 r.1 ∧ Rep K M' H' q.2 r.2) ds vs → Cor K M' H' → Stp M H M' H' → Q vs H') →
    (∀ x M' c d H', E0 x M' → RepX K M' H' x c d → Cor K M' H' → Stp M H M' H' → W c d σ H') → tPairs (lifP K W prs) σ H Q
  | [], M, H, rs, co, h, q, e => q [] M [] H h .nil co (Stp.refl M H)
  | (tk, tv) :: prs, M, H, rs, co, h, q, e => by
    refine ⟨τ, M, _, E0, ⟨rs, co, fun d1 M1 v1 H1 h1 r1 c1 s1 => ?_, e⟩, h⟩
    refine ⟨τ, M1, _, E0, ⟨rs.stp s1, c1, fun d2 M2 v2 H2 h2 r2 c2 s2 => ?_, fun x M' c d H' h r c' s' => e x M' c d H' h r c' (s1.trans s')⟩, h1⟩
    refine prs_ok ((rs.stp s1).stp s2) c2 h2 (fun ds M' vs H' g r c' s' => ?_) fun x M' c d H' h r c' s' => e x M' c d H' h r c' ((s1.trans s2).trans s')
    exact q _ M' _ H' g (.cons ⟨(r1.stp s2).stp s', r2.stp s'⟩ r) c' ((s1.trans s2).trans s')
theorem de_dict (h : DPs X W pos keys values prs) (hall : keys.all (·.isSome) = true := by rfl) (hl : keys.length = values.length := by rfl) (h0 : keys ≠ [] := by intro h; cases h) (h15 : keys.length ≤ 15 := by decide) : DE X W (.Dict keys values pos) (dDict prs) :=
  PE.of (pe_disp h hall hl h0 h15) fun σ H Q ⟨τ, M, Q0, E0, S, h⟩ => by
    intro p hp
    have s0 := Stp.newM (M := M) (o := .dK []) (mo := .dK []) hp
    refine prs_ok (S.rs.stp s0) (S.co.newM hp ⟨[], rfl, rfl, .nil⟩) (h p (S.co.free hp)) (fun ds M2 vs H2 g r c s => ?_) fun x M' c d H' h r c' s' => S.e x M' c d H' h r c' (s0.trans s')
    obtain ⟨g1, kvs, rfl, g2, g3⟩ := g
    obtain ⟨ks, e, ek, rk⟩ := pairs_rep r
    obtain ⟨ks0, e0, e1, _⟩ := mu_dK c g1
    have e2 : ks0 = [] := by cases ks0 with
      | nil => rfl
      | cons _ _ => cases e1
    subst e2
    have hl := congrArg List.length ek
    rw [List.length_map, List.length_map] at hl
    refine ⟨e0, ks, e, by omega, ?_⟩
    have s1 := Stp.write (H := H2) (o := .dK (mergeK [] ks)) (mo' := .dK (mergeD [] kvs)) g1
    obtain ⟨m1, m2⟩ := merge_rep (kvs := []) (ks := []) ek rk rfl .nil
    exact S.q _ _ _ _ g3 rfl (c.write g1 ⟨_, rfl, m1, m2⟩) ((s0.trans s).trans s1)
theorem de_dict0 : DE X W (.Dict [] [] pos) dDict0 := PE.of pe_dnewK fun σ H Q ⟨τ, M, Q0, E0, S, h⟩ => fun p hp =>
  S.q _ _ _ _ (h p (S.co.free hp)) rfl (S.co.newM hp ⟨[], rfl, rfl, .nil⟩) (Stp.newM hp)
/-! ### a walk over a dict that stays as it is meanwhile -/
def keysOf (kvs : List (DKey × D)) : List D := kvs.map fun q => kD q.1
def wForK (a : Addr) (kvs : List (DKey × D)) (u : HO) (g : DTG) (tb : DTS) (D0 : DEnds) : List D → DSt → Mu → Prop
  | [], τ, M => M a = some (.fK kvs u) ∧ D0.nx τ M
  | d :: ds, τ, M => M a = some (.fK kvs u) ∧ g d τ M (fun τ1 M1 => tb { D0 with nx := wForK a kvs u g tb D0 ds, ct := wForK a kvs u g tb D0 ds, bk := D0.nx } τ1 M1) (D0.ex τ)
def dForK (te : DTE) (g : DTG) (tb : DTS) : DTS := fun D0 τ M => te τ M (fun d M1 => match d with
  | .ref a => (match M1 a with
    | some (.fK kvs u) => wForK a kvs u g tb D0 (keysOf kvs) τ M1
    | _ => False)
  | _ => False) (D0.ex τ)
theorem ds_forK {tg iter : Expr} {body : List Stmt} {te : DTE} {g : DTG} {tb : DTS} (G : Gd X W) (he : DE X W iter te) (hg : DG X W tg g) (hb : DSs X W body tb) (hs : ∀ x, foldedSetIterable iter X.env x = pure x := by intro _; rfl) :
    DS X W (.For tg iter body [] pos) (dForK te g tb) :=
  PS.of (ps_for G.own G.calm (pi_keys he) hg hb hs) fun D1 σ H ⟨τ, M, D0, S, h⟩ => S.sub h fun d M1 v H1 h1 r1 S1 s1 => by
    cases d with
    | ref a =>
      cases r1
      have h2 : (match M1 a with
        | some (.fK kvs u) => wForK a kvs u g tb D0 (keysOf kvs) τ M1
        | _ => False) := h1
      cases em : M1 a with
      | none => rw [em] at h2; exact h2.elim
      | some mo =>
        rw [em] at h2
        cases mo with
        | fK kvs u =>
          have h3 : wForK a kvs u g tb D0 (keysOf kvs) τ M1 := h2
          obtain ⟨od, ks, hf, eu, ek, rk⟩ := mu_fK S1.co em
          subst eu
          have hlen : ks.length = (keysOf kvs).length := by
            have := congrArg List.length ek
            rw [List.length_map, List.length_map] at this
            rw [this, keysOf, List.length_map]
          refine ⟨a, od, rfl, .inl ⟨ks, hf, ?_⟩⟩
          refine ⟨fun i m σ2 H2 => m = (keysOf kvs).length - i ∧ i ≤ (keysOf kvs).length ∧ ∃ τ2 M2, Stp M1 H1 M2 H2 ∧ SitS X.K W τ2 M2 σ2 H2 D0 D1 ∧ wForK a kvs (.frz od (.dK ks)) g tb D0 ((keysOf kvs).drop i) τ2 M2, ⟨(keysOf kvs).length, rfl, Nat.zero_le _, τ, M1, Stp.refl M1 H1, S1, h3⟩, ?_⟩
          rintro i m σ2 H2 ⟨rfl, hi, τ2, M2, s2, S2, h2⟩
          have at_ : M2 a = some (.fK kvs (.frz od (.dK ks))) → H2 a = some (.frz od (.dK ks)) := fun z => by
            obtain ⟨od', ks', q1, q2, _⟩ := mu_fK S2.co z
            rw [q1, q2]
          by_cases hlt : i < (keysOf kvs).length
          · have e : (keysOf kvs).drop i = (keysOf kvs)[i] :: (keysOf kvs).drop (i + 1) := List.drop_eq_getElem_cons hlt
            rw [e] at h2
            refine .inr ⟨⟨at_ h2.1, by omega⟩, fun σ3 H3 => ∃ τ3 M3, Stp M1 H1 M3 H3 ∧ SitS X.K W τ3 M3 σ3 H3 D0 D1 ∧ wForK a kvs (.frz od (.dK ks)) g tb D0 ((keysOf kvs).drop (i + 1)) τ3 M3, fun σ3 H3 q => ⟨(keysOf kvs).length - (i + 1), by omega, rfl, hlt, q⟩, fun x H3 y => ?_⟩
            obtain ⟨rfl, key, val, ykv, rfl⟩ := y
            have y1 : Rep X.K M2 H3 (keysOf kvs)[i] (kV key) := by
              have hk2 : i < kvs.length := by rw [keysOf, List.length_map] at hlt; exact hlt
              have q : (ks.map (·.1))[i]? = (kvs.map fun q => kO q.1)[i]? := by rw [ek]
              rw [List.getElem?_map, List.getElem?_map, ykv, List.getElem?_eq_getElem hk2] at q
              have q2 : key = kO kvs[i].1 := by simpa using q
              have q3 : (keysOf kvs)[i] = kD kvs[i].1 := by simp [keysOf]
              rw [q2, q3]
              exact kD_rep _
            refine ⟨(keysOf kvs)[i], τ2, M2, _, D0.ex τ2, y1, ⟨S2.rs, S2.co, fun τ4 M4 σ4 H4 h4 r4 c4 s4 => ?_, fun x M' c d H' h r c' s' => S2.xc x τ2 M' c d σ2 H' h r (S2.rs.stp s') c' s'⟩, h2.2⟩
            have S4 := S2.go r4 c4 s4
            exact ⟨τ4, M4, { D0 with nx := wForK a kvs (.frz od (.dK ks)) g tb D0 ((keysOf kvs).drop (i + 1)), ct := wForK a kvs (.frz od (.dK ks)) g tb D0 ((keysOf kvs).drop (i + 1)), bk := D0.nx }, ⟨S4.rs, S4.co, fun a b c d h r c' s => ⟨a, b, (s2.trans s4).trans s, S4.go r c' s, h⟩, S4.rt, S4.nx, fun a b c d h r c' s => ⟨a, b, (s2.trans s4).trans s, S4.go r c' s, h⟩, S4.xc⟩, h4⟩
          · have e : i = (keysOf kvs).length := by omega
            rw [e, List.drop_length] at h2
            exact .inl ⟨⟨at_ h2.1, by omega⟩, S2.next h2.2⟩
        | _ => exact h2.elim
    | _ => exact h1.elim
/-- while the statement runs, the dict in that slot is only read -/
def dLock (i : Nat) (t : DTS) : DTS := fun D0 τ M => match τ[i]? with
  | some (some (.ref a)) => (match M a with
    | some (.dK kvs) => ∀ u, t ⟨fun τ' M' => M' a = some (.fK kvs u) ∧ D0.nx τ' (put M' a (.dK kvs)), fun d M' => M' a = some (.fK kvs u) ∧ D0.rt d (put M' a (.dK kvs)), fun τ' M' => M' a = some (.fK kvs u) ∧ D0.bk τ' (put M' a (.dK kvs)),
      fun τ' M' => M' a = some (.fK kvs u) ∧ D0.ct τ' (put M' a (.dK kvs)), fun _ _ _ => False⟩ τ (put M a (.fK kvs u))
    | _ => False)
  | _ => False
theorem ds_lock (j : Nat) (h : DS X W st t) : DS X W st (dLock j t) := PS.of (ps_lock h) fun D1 σ H ⟨τ, M, D0, S, hh⟩ => by
  unfold dLock at hh
  split at hh
  · rename_i a e
    split at hh
    · rename_i kvs em
      obtain ⟨ks, ha, ek, rk⟩ := mu_dK S.co em
      refine ⟨a, .dK ks, ha, trivial, fun od => ?_⟩
      have s0 := Stp.write (H := H) (o := .frz od (.dK ks)) (mo' := .fK kvs (.frz od (.dK ks))) em
      have c0 := S.co.write (o := .frz od (.dK ks)) (mo' := .fK kvs (.frz od (.dK ks))) em ⟨rfl, od, ks, rfl, ek, rk⟩
      -- back
      have back : ∀ {M' : Mu} {H' : Hp}, M' a = some (.fK kvs (.frz od (.dK ks))) → Cor X.K M' H' → Stp (put M a (.fK kvs (.frz od (.dK ks)))) (upd H a (.frz od (.dK ks))) M' H' →
          H' a = some (.frz od (.dK ks)) ∧ Cor X.K (put M' a (.dK kvs)) (upd H' a (.dK ks)) ∧ Stp M' H' (put M' a (.dK kvs)) (upd H' a (.dK ks)) ∧ Stp M H (put M' a (.dK kvs)) (upd H' a (.dK ks)) := by
        intro M' H' m c s
        obtain ⟨od', ks', q1, q2, q3, q4⟩ := mu_fK c m
        injection q2 with q5 q6
        injection q6 with q7
        subst q5 q7
        have s1 := Stp.write (H := H') (o := .dK ks) (mo' := .dK kvs) m
        exact ⟨q1, c.write m ⟨_, rfl, q3, q4⟩, s1, (s0.trans s).trans s1⟩
      refine ⟨τ, _, _, ⟨S.rs.stp s0, c0, ?_, ?_, ?_, ?_, ?_⟩, hh (.frz od (.dK ks))⟩
      · rintro τ' M' σ' H' ⟨m, n⟩ r c s
        obtain ⟨b1, b2, b3, b4⟩ := back m c s
        exact ⟨b1, S.nx _ _ _ _ n (r.stp b3) b2 b4⟩
      · rintro d M' v H' ⟨m, n⟩ r c s
        obtain ⟨b1, b2, b3, b4⟩ := back m c s
        exact ⟨b1, S.rt _ _ _ _ n (r.stp b3) b2 b4⟩
      · rintro τ' M' σ' H' ⟨m, n⟩ r c s
        obtain ⟨b1, b2, b3, b4⟩ := back m c s
        exact ⟨b1, S.bk _ _ _ _ n (r.stp b3) b2 b4⟩
      · rintro τ' M' σ' H' ⟨m, n⟩ r c s
        obtain ⟨b1, b2, b3, b4⟩ := back m c s
        exact ⟨b1, S.ct _ _ _ _ n (r.stp b3) b2 b4⟩
      · exact fun _ _ _ _ _ _ _ z => z.elim
    · exact hh.elim
  · exact hh.elim
end
end DL

namespace DL
open PySem L2 He
/-! ### o[i] = d of a list, of a dict -/
def gSetA : DSet := fun o i d M Q => match o, i with
  | .ref a, .int k => (match M a with
    | some (.lst ds) => (match ixN ds.length k with
      | some j => Q (put M a (.lst (ds.set j d)))
      | none => False)
    | some (.dK kvs) => kvs.length < 16777216 ∧ Q (put M a (.dK (putD kvs (.inl k) d)))
    | _ => False)
  | .ref a, .str x => (match M a with
    | some (.dK kvs) => kvs.length < 16777216 ∧ Q (put M a (.dK (putD kvs (.inr x) d)))
    | _ => False)
  | _, _ => False
theorem set_any {X : Cx} (hu : X.A.units + 1 < cLine) : PSet X (fun o i v H Q => rSetL o i v H Q ∨ rSetD o i v H Q) := by
  intro pins s σ H o i v ov iv u Q I ro ri rv h
  rcases h with h | h
  · exact set_list pins s σ H o i v ov iv u Q I ro ri rv h
  · exact set_dict hu pins s σ H o i v ov iv u Q I ro ri rv h
section
variable {X : Cx} {W : WX} {a b c e o i : Expr} {rest es : List Expr} {ta tb tc te to ti : DTE} {tl : DTA} {tt : DTT} {pos apos cpos p : Pos} {x : Str}
theorem dg_setA (G : Gd X W) (ho : DE X W o to) (hi : DE X W i ti) (ha : ∀ v, assign (.Subscript o i pos) X.env v = (do
      let ov ← holding [v] (eval o X.env)
      let iv ← holding [v, ov] (eval i X.env)
      standAt pos
      holding [v, ov, iv] (setItem ov iv v)
      release [v, ov, iv] []) := by intro _; rfl) : DG X W (.Subscript o i pos) (dgSub to ti gSetA) :=
  PG.of (pg_sub ho hi (set_any G.hu1) ha) fun v σ H Q ⟨d, τ, M, Q0, E0, r, S, h⟩ => S.sub h fun x M1 v1 H1 h1 r1 S1 s1 => S1.sub h1 fun y M2 v2 H2 h2 r2 S2 s2 => by
    have dic : ∀ {a : Addr} {k : DKey} {kvs : List (DKey × D)}, M2 a = some (.dK kvs) → kvs.length < 16777216 ∧ Q0 τ (put M2 a (.dK (putD kvs k d))) → rSetD (.ref a) (kV (kO k)) v H2 (fun H' => Q σ H') := by
      intro a k kvs e z
      obtain ⟨ks, hv, ek, ra⟩ := mu_dK S2.co e
      have hl := congrArg List.length ek
      rw [List.length_map, List.length_map] at hl
      have st := Stp.write (H := H2) (o := .dK (putK ks (kO k) v)) (mo' := .dK (putD kvs k d)) e
      obtain ⟨p1, p2⟩ := put_rep (k := k) ((r.stp s1).stp s2) ek ra
      exact ⟨a, _, rfl, DPut.k hv (by rw [line24, hl]; exact z.1), S2.q _ _ _ _ z.2 (S2.rs.stp st) (S2.co.write e ⟨_, rfl, p1, p2⟩) st⟩
    match x, y, h2 with
    | .ref a, .int k, h2 =>
      cases r1; cases r2
      have h3 : (match M2 a with
        | some (.lst ds) => (match ixN ds.length k with
          | some j => Q0 τ (put M2 a (.lst (ds.set j d)))
          | none => False)
        | some (.dK kvs) => kvs.length < 16777216 ∧ Q0 τ (put M2 a (.dK (putD kvs (.inl k) d)))
        | _ => False) := h2
      cases e : M2 a with
      | none => rw [e] at h3; exact h3.elim
      | some mo =>
        rw [e] at h3
        cases mo with
        | lst ds =>
          obtain ⟨vs, hv, ra⟩ := mu_lst S2.co e
          have h4 : (match ixN ds.length k with
            | some j => Q0 τ (put M2 a (.lst (ds.set j d)))
            | none => False) := h3
          cases e2 : ixN ds.length k with
          | none => rw [e2] at h4; exact h4.elim
          | some j =>
            rw [e2] at h4
            refine .inl ⟨a, vs, k, j, rfl, rfl, hv, by rw [ra.length]; exact e2, ?_⟩
            have st := Stp.write (H := H2) (o := .lst (vs.set j v)) (mo' := .lst (ds.set j d)) e
            exact S2.q _ _ _ _ h4 (S2.rs.stp st) (S2.co.write e ⟨_, rfl, ra.set ((r.stp s1).stp s2) j⟩) st
        | dK kvs => exact .inr (dic (k := .inl k) e h3)
        | _ => exact h3.elim
    | .ref a, .str x, h2 =>
      cases r1; cases r2
      have h3 : (match M2 a with
        | some (.dK kvs) => kvs.length < 16777216 ∧ Q0 τ (put M2 a (.dK (putD kvs (.inr x) d)))
        | _ => False) := h2
      cases e : M2 a with
      | none => rw [e] at h3; exact h3.elim
      | some mo =>
        rw [e] at h3
        cases mo with
        | dK kvs => exact .inr (dic (k := .inr x) e h3)
        | _ => exact h3.elim
end
/-! ### endswith, insert -/
def gEnds : DMt := fun x xs M Q => match x, xs with
  | .str a, [.str b] => Q (.bl (b.isSuffixOf a)) M
  | _, _ => False
theorem ends_sx (a b : Tx) : PySem.Txt.endswith (sx a) (sx b) = b.isSuffixOf a := by
  show (decide (0 + (sx b).length ≤ (sx a).length) && Builtin.Str.subAt (sx a) (sx b) ((sx a).length - (sx b).length)) = _
  rw [PySem.StrLaws.subAt_eq]
  rw [Bool.eq_iff_iff, Bool.and_eq_true, decide_eq_true_iff, List.isSuffixOf_iff_suffix, sx_len, sx_len]
  show (0 + b.length ≤ a.length ∧ ((a.drop (a.length - b.length)).take b.length == b) = true) ↔ _
  rw [Nat.zero_add, beq_iff_eq, List.suffix_iff_eq_drop]
  constructor
  · rintro ⟨h, e⟩
    rw [List.take_of_length_le (by rw [List.length_drop]; omega)] at e
    exact e.symm
  · intro e
    have hl : b.length ≤ a.length := by
      have := congrArg List.length e
      rw [List.length_drop] at this
      omega
    refine ⟨hl, ?_⟩
    rw [List.take_of_length_le (by rw [List.length_drop]; omega)]
    exact e.symm
def gInsert : DMt := fun x xs M Q => match x, xs with
  | .ref a, [.int i, y] => (match M a with
    | some (.lst ds) => ds.length < 16777216 ∧ 0 ≤ i ∧ i < 2 ^ 62 ∧ Q .non (put M a (.lst (ds.take i.toNat ++ [y] ++ ds.drop i.toNat)))
    | _ => False)
  | _, _ => False
section
variable {K : PySem.W.Frag}
theorem md_ends : MtD K gEnds (fun x xs H Q => ∃ a b, x = .str a ∧ xs = [.str b] ∧ Q (.bl (PySem.Txt.endswith a b)) H) := fun M H x v xs vs Q0 Q c rx r h q => by
  match x, xs, h with
  | .str a, [.str b], h =>
    obtain ⟨u, us, rfl, r1, r2⟩ := r.uncons
    cases r2.unnil; cases rx; cases r1
    refine ⟨sx a, sx b, rfl, rfl, ?_⟩
    rw [ends_sx]
    exact q _ M _ H h rfl c (Stp.refl M H)
theorem md_insert : MtD K gInsert (fun x vs H Q => ∃ (l : Addr) (xs : List V) (i : Int) (y : V), x = .ref l ∧ vs = [.int i, y] ∧ H l = some (.lst xs) ∧ xs.length < sizeLine ∧ 0 ≤ i ∧ i < 2 ^ 63 ∧ Q .non (upd H l (.lst (xs.take i.toNat ++ [y] ++ xs.drop i.toNat)))) := fun M H x v xs vs Q0 Q c rx r h q => by
  match x, xs, h with
  | .ref a, [.int i, y], h =>
    obtain ⟨u, us, rfl, r1, r2⟩ := r.uncons
    obtain ⟨u2, us2, rfl, r3, r4⟩ := r2.uncons
    cases r4.unnil; cases rx; cases r1
    have h2 : (match M a with
      | some (.lst ds) => ds.length < 16777216 ∧ 0 ≤ i ∧ i < 2 ^ 62 ∧ Q0 .non (put M a (.lst (ds.take i.toNat ++ [y] ++ ds.drop i.toNat)))
      | _ => False) := h
    cases e : M a with
    | none => rw [e] at h2; exact h2.elim
    | some mo =>
      rw [e] at h2
      cases mo with
      | lst ds =>
        obtain ⟨ws, ha, ra⟩ := mu_lst c e
        have h2 : ds.length < 16777216 ∧ 0 ≤ i ∧ i < 2 ^ 62 ∧ Q0 .non (put M a (.lst (ds.take i.toNat ++ [y] ++ ds.drop i.toNat))) := h2
        obtain ⟨h3, h4, h5, h6⟩ := h2
        refine ⟨a, ws, i, u2, rfl, rfl, ha, by rw [ra.length, line24]; exact h3, h4, by omega, ?_⟩
        exact q _ _ _ _ h6 rfl (c.write e ⟨_, rfl, ((ra.take _).snoc r3).append (ra.drop _)⟩) (Stp.write e)
      | _ => exact h2.elim
end
/-! ### a dict of texts in the module -/
def dKd (kvs : List (Tx × Tx)) (te : DTE) : DTE := fun τ M Q E => te τ M (fun d M1 => match d with
  | .str z => (match kvs.lookup z with
    | some v => Q (.str v) M1
    | none => False)
  | _ => False) E
def KdW (K : PySem.W.Frag) (w : World) (f : Addr) (kvs : List (Str × Str)) : Prop := ∀ q ∈ kvs, KDct K w f q.1 (.str q.2)
theorem lookup_mem {α β : Type} [BEq α] [LawfulBEq α] {k : α} {v : β} : ∀ {l : List (α × β)}, l.lookup k = some v → (k, v) ∈ l
  | [], h => by cases h
  | (a, b) :: l, h => by
    rw [List.lookup_cons] at h
    split at h
    · rename_i e
      cases h
      rw [eq_of_beq e]
      exact List.mem_cons_self
    · exact List.mem_cons_of_mem _ (lookup_mem h)
section
variable {X : Cx} {W : WX} {a b c e o i : Expr} {ta tb te : DTE} {pos p : Pos} {x : Str}
theorem de_kd {zs : List (Str × Str)} {kvs : List (Tx × Tx)} (h : ∃ f, X.mg x = some (.ref f) ∧ KdW X.K X.w f zs) (e : zs.map (fun q => (T q.1, T q.2)) = kvs) (hb : DE X W b tb) (hs : PlainIx b := by intro _ _; rfl) (hg : Gl X x := by rfl) (hd : (x == ("__debug__" : Str)) = false := by decide) :
    DE X W (.Subscript (.Name x p) b pos) (dKd kvs tb) := by
  obtain ⟨f, hm, hk⟩ := h
  refine PE.of (pe_ix ix_kdict (pe_glob hg hm (v := .ref f) rfl hd) hb hs) fun σ H Q ⟨τ, M, Q0, E0, S, h⟩ => ?_
  refine S.sub h fun d M1 v H1 h1 r1 S1 s1 => ?_
  cases d with
  | str z =>
    cases r1
    have h2 : (match kvs.lookup z with
      | some v => Q0 (.str v) M1
      | none => False) := h1
    cases e2 : kvs.lookup z with
    | none => rw [e2] at h2; exact h2.elim
    | some v =>
      rw [e2] at h2
      have m := lookup_mem e2
      rw [← e] at m
      obtain ⟨q, hq, e3⟩ := List.mem_map.mp m
      injection e3 with e4 e5
      have kd := hk q hq
      refine ⟨f, sx z, .str (sx v), rfl, rfl, ?_, S1.end_ h2 rfl⟩
      rw [← e4, ← e5, sx_T, sx_T]
      exact kd
  | _ => exact h1.elim
end
/-! ### the head's facts, with tables of texts -/
abbrev AlY : Type := AlD × List (Option (List (Option (Str × Int))))
def obsY (fa : List Fa) (fn : List DefD) (gb : List (PySem.W.Frag → Bool)) (ts : List Tab) (K : PySem.W.Frag) : AlY := (obsX fa fn gb K, ts.map fun t => dicW K (t.1 K))
def valY (fn : List DefD) (ts : List Tab) (w : World) : AlY := (valD fn, ts.map fun t => some (keysIn w.params t.2))
def SaysY (fa : List Fa) (fn : List DefD) (gb : List (PySem.W.Frag → Bool)) (ts : List Tab) (w : World) (K : PySem.W.Frag) : Prop := obsY fa fn gb ts K = valY fn ts w
def obsYG (n : Nat) (fa : List Fa) (fn : List DefD) (gb : List (PySem.W.Frag → Bool)) (ts : List Tab) (g : Addr → Option Obj) : AlY := obsY fa fn gb ts (frG g (asD g n))
def hookY (n : Nat) (fa : List Fa) (fn : List DefD) (gb : List (PySem.W.Frag → Bool)) (ts : List Tab) : PySem.W.Hook where
  α := AlY
  obs := fun s => obsYG n fa fn gb ts s.heap.get?
  val := fun w => valY fn ts w
  says := fun w h => ∃ K : PySem.W.Frag, K.In h ∧ SaysY fa fn gb ts w K
  of := fun _ _ e => ⟨_, frG_in, e⟩
  keeps := fun _ _ _ ⟨K, hK, c⟩ k => ⟨K, hK.keeps k, c⟩
theorem obsYG_eq {n : Nat} {fa : List Fa} {fn : List DefD} {gb : List (PySem.W.Frag → Bool)} {ts : List Tab} {g : Addr → Option Obj} {s : Shared} (h : ∀ a, g a = s.heap.get? a) : obsYG n fa fn gb ts g = (hookY n fa fn gb ts).obs s := by
  rw [funext h] <;> rfl
section
variable {fa : List Fa} {fn : List DefD} {gb : List (PySem.W.Frag → Bool)} {ts : List Tab} {w : World} {K : PySem.W.Frag}
theorem SaysY.x (c : SaysY fa fn gb ts w K) : SaysX fa fn gb K := congrArg (fun z : AlY => z.1) c
theorem SaysY.tab (c : SaysY fa fn gb ts w K) (i : Nat) {t : Tab} (h : ts[i]? = some t := by rfl) : ∃ es n, KDict K w (t.1 K) es n := by
  have e : ts.map (fun t => dicW K (t.1 K)) = ts.map fun t => some (keysIn w.params t.2) := congrArg (fun z : AlY => z.2) c
  have e2 : (ts.map fun t => dicW K (t.1 K))[i]? = (ts.map fun t => some (keysIn w.params t.2))[i]? := by rw [e]
  rw [List.getElem?_map, List.getElem?_map, h] at e2
  exact dicW_ok (Option.some.inj e2)
theorem kdw_of {x : Str} {zs : List (Str × Str)} {mg : Str → Option Value} (hm : mg x = some (.ref (ga K x))) (d : ∃ es n, KDict K w (ga K x) es n) (v : valsB K (ga K x) (zs.map fun q => (q.1, Dv.str q.2)) = true) : ∃ f, mg x = some (.ref f) ∧ KdW K w f zs := by
  refine ⟨_, hm, fun q hq => ?_⟩
  obtain ⟨es, n, D⟩ := d
  obtain ⟨u, e1, e2⟩ := valsB_ok v (List.mem_map.mpr ⟨q, hq, rfl⟩)
  exact ⟨es, n, u, D.at_, D.lit, e1, e2⟩
end
end DL

namespace DL
open PySem L2
/-! ### str(..) of an int, of a text -/
def gStr1 : DCb := fun xs M Q => match xs with
  | [.int i] => i.natAbs.log2 < 1920 ∧ Q (.str (intT i)) M
  | [.str x] => Q (.str x) M
  | _ => False
theorem cb_str {K : PySem.W.Frag} : CbD K gStr1 (fun xs H Q => (∃ i, xs = [V.int i] ∧ i.natAbs.log2 < 1920 ∧ Q (.str (toString i)) H) ∨ ∃ a, xs = [V.str a] ∧ Q (.str a) H) := fun M H xs vs Q0 Q c r h q => by
  match xs, h with
  | [.int i], h =>
    obtain ⟨v, u, rfl, r1, r2⟩ := r.uncons
    cases r2.unnil; cases r1
    refine .inl ⟨i, rfl, h.1, q _ M _ H h.2 ?_ c (Stp.refl M H)⟩
    show V.str _ = V.str (sx (T _))
    rw [sx_T]
  | [.str x], h =>
    obtain ⟨v, u, rfl, r1, r2⟩ := r.uncons
    cases r2.unnil; cases r1
    exact .inr ⟨sx x, rfl, q _ M _ H h rfl c (Stp.refl M H)⟩
theorem call_str1 {X : Cx} : CallR X (.type "str") (fun xs H Q => (∃ i, xs = [V.int i] ∧ i.natAbs.log2 < 1920 ∧ Q (.str (toString i)) H) ∨ ∃ a, xs = [V.str a] ∧ Q (.str a) H) := call_str_int.or SkE.call_str_str
/-! ### extend, pop, clear -/
def gExtend : DMt := fun x xs M Q => match x, xs with
  | .ref a, [.lst zs] => (match M a with
    | some (.lst ds) => ds.length + zs.length ≤ 16777216 ∧ Q .non (put M a (.lst (ds ++ zs)))
    | _ => False)
  | .ref a, [.ref b] => (match M a, M b with
    | some (.lst ds), some (.lst zs) => ds.length + zs.length ≤ 16777216 ∧ Q .non (put M a (.lst (ds ++ zs)))
    | _, _ => False)
  | _, _ => False
def gPop : DMt := fun x xs M Q => match x, xs with
  | .ref a, [] => (match M a with
    | some (.lst ds) => (match ds.getLast? with
      | some d => Q d (put M a (.lst ds.dropLast))
      | none => False)
    | _ => False)
  | _, _ => False
def gClear : DMt := fun x xs M Q => match x, xs with
  | .ref a, [] => (match M a with
    | some (.lst ds) => Q .non (put M a (.lst []))
    | _ => False)
  | _, _ => False
section
variable {K : PySem.W.Frag}
theorem md_extend : MtD K gExtend rExtend := fun M H x v xs vs Q0 Q c rx r h q => by
  match x, xs, h with
  | .ref a, [.lst zs], h =>
    obtain ⟨u, us, rfl, r1, r2⟩ := r.uncons
    cases r2.unnil; cases rx
    obtain ⟨b, ws, rfl, hb, mb, rb⟩ := rep_of_lst r1
    have h2 : (match M a with
      | some (.lst ds) => ds.length + zs.length ≤ 16777216 ∧ Q0 .non (put M a (.lst (ds ++ zs)))
      | _ => False) := h
    cases e : M a with
    | none => rw [e] at h2; exact h2.elim
    | some mo =>
      rw [e] at h2
      cases mo with
      | lst ds =>
        obtain ⟨us, ha, ra⟩ := mu_lst c e
        have h2 : ds.length + zs.length ≤ 16777216 ∧ Q0 .non (put M a (.lst (ds ++ zs))) := h2
        refine ⟨a, b, us, ws, rfl, rfl, ha, hb, by rw [ra.length, rb.length, line24]; exact h2.1, ?_⟩
        exact q _ _ _ _ h2.2 rfl (c.write e ⟨_, rfl, ra.append rb⟩) (Stp.write e)
      | _ => exact h2.elim
  | .ref a, [.ref b], h =>
    obtain ⟨u, us, rfl, r1, r2⟩ := r.uncons
    cases r2.unnil; cases rx; cases r1
    have h2 : (match M a, M b with
      | some (.lst ds), some (.lst zs) => ds.length + zs.length ≤ 16777216 ∧ Q0 .non (put M a (.lst (ds ++ zs)))
      | _, _ => False) := h
    cases e : M a with
    | none => rw [e] at h2; exact h2.elim
    | some mo =>
      cases e2 : M b with
      | none => rw [e, e2] at h2; cases mo <;> exact h2.elim
      | some mo2 =>
        rw [e, e2] at h2
        cases mo with
        | lst ds =>
          cases mo2 with
          | lst zs =>
            obtain ⟨us, ha, ra⟩ := mu_lst c e
            obtain ⟨ws, hb, rb⟩ := mu_lst c e2
            have h2 : ds.length + zs.length ≤ 16777216 ∧ Q0 .non (put M a (.lst (ds ++ zs))) := h2
            refine ⟨a, b, us, ws, rfl, rfl, ha, hb, by rw [ra.length, rb.length, line24]; exact h2.1, ?_⟩
            exact q _ _ _ _ h2.2 rfl (c.write e ⟨_, rfl, ra.append rb⟩) (Stp.write e)
          | _ => exact h2.elim
        | _ => cases mo2 <;> exact h2.elim
theorem md_pop : MtD K gPop rPop := fun M H x v xs vs Q0 Q c rx r h q => by
  match x, xs, h with
  | .ref a, [], h =>
    cases r.unnil; cases rx
    have h2 : (match M a with
      | some (.lst ds) => (match ds.getLast? with
        | some d => Q0 d (put M a (.lst ds.dropLast))
        | none => False)
      | _ => False) := h
    cases e : M a with
    | none => rw [e] at h2; exact h2.elim
    | some mo =>
      rw [e] at h2
      cases mo with
      | lst ds =>
        obtain ⟨us, ha, ra⟩ := mu_lst c e
        have h3 : (match ds.getLast? with
          | some d => Q0 d (put M a (.lst ds.dropLast))
          | none => False) := h2
        cases e3 : ds.getLast? with
        | none => rw [e3] at h3; exact h3.elim
        | some d =>
          rw [e3] at h3
          rw [List.getLast?_eq_getElem?] at e3
          obtain ⟨y, hy, ry⟩ := ra.get e3
          refine ⟨a, us, y, rfl, rfl, ha, by rw [ra.length]; exact hy, ?_⟩
          have st := Stp.write (H := H) (o := .lst us.dropLast) (mo' := .lst ds.dropLast) e
          exact q _ _ _ _ h3 (ry.stp st) (c.write e ⟨_, rfl, ra.dropLast⟩) st
      | _ => exact h2.elim
theorem md_clear : MtD K gClear rClear := fun M H x v xs vs Q0 Q c rx r h q => by
  match x, xs, h with
  | .ref a, [], h =>
    cases r.unnil; cases rx
    have h2 : (match M a with
      | some (.lst ds) => Q0 .non (put M a (.lst []))
      | _ => False) := h
    cases e : M a with
    | none => rw [e] at h2; exact h2.elim
    | some mo =>
      rw [e] at h2
      cases mo with
      | lst ds =>
        obtain ⟨us, ha, ra⟩ := mu_lst c e
        exact ⟨a, us, rfl, rfl, ha, q _ _ _ _ h2 rfl (c.write e ⟨_, rfl, .nil⟩) (Stp.write e)⟩
      | _ => exact h2.elim
end
/-! ### f(*e, ..), [*e, ..] -/
def dStar (te : DTE) (tl : DTA) : DTA := fun τ M Q E => te τ M (fun d M1 => match d with
  | .lst xs => tl τ M1 (fun ys M2 => Q (xs ++ ys) M2) E
  | .tup xs => tl τ M1 (fun ys M2 => Q (xs ++ ys) M2) E
  | .ref a => (match M1 a with
    | some (.lst xs) => tl τ M1 (fun ys M2 => Q (xs ++ ys) M2) E
    | _ => False)
  | _ => False) E
theorem da_star {X : Cx} {W : WX} {e : Expr} {es : List Expr} {te : DTE} {tl : DTA} {p : Pos} (he : DE X W e te) (hr : DA X W es tl) (hs : starEach (.Starred e p :: es) X.env = (true, eval e X.env) :: starEach es X.env := by rfl) : DA X W (.Starred e p :: es) (dStar te tl) :=
  PA.of (StX.pa_star he hr hs) fun σ H Q ⟨τ, M, Q0, E0, S, h⟩ => S.sub h fun d M1 v H1 h1 r1 S1 s1 => by
    have go : ∀ {xs : List D} {vs : List V} {a : Addr}, v = .ref a → (SqT X.K H1 a vs ∨ SqL X.K H1 a vs) → Reps X.K M1 H1 xs vs → tl τ M1 (fun ys M2 => Q0 (xs ++ ys) M2) E0 → ∃ p xs, v = V.ref p ∧ (SqT X.K H1 p xs ∨ SqL X.K H1 p xs) ∧ lif X.K W (RA X.K) tl σ H1 fun ys H2 => Q (xs ++ ys) H2 :=
      fun {xs vs a} e hv rv h => ⟨a, vs, e, hv, S1.sub h fun ys M2 us H2 h2 r2 S2 s2 => S2.end_ h2 ((rv.stp s2).append r2)⟩
    cases d with
    | lst xs =>
      obtain ⟨a, vs, e, ha, ma, ra⟩ := rep_of_lst r1
      exact go e (.inr (.inl (.inl ha))) ra h1
    | tup xs =>
      obtain ⟨a, vs, e, ha, ra⟩ := rep_of_tup r1
      exact go e (.inl (sqT_of ha)) ra h1
    | ref a =>
      have h2 : (match M1 a with
        | some (.lst xs) => tl τ M1 (fun ys M2 => Q0 (xs ++ ys) M2) E0
        | _ => False) := h1
      cases em : M1 a with
      | none => rw [em] at h2; exact h2.elim
      | some mo =>
        rw [em] at h2
        cases mo with
        | lst xs =>
          obtain ⟨vs, ha, ra⟩ := mu_lst S1.co em
          exact go r1 (.inr (.inl (.inl ha))) ra h2
        | _ => exact h2.elim
    | _ => exact h1.elim
end DL

namespace DL
open PySem L2
/-! ### walks over a list that may change: at each turn it holds what it held -/
abbrev DTR := DR (Addr × List D)
def ItR (K : PySem.W.Frag) (M : Mu) (H : Hp) (q : Addr × List D) (J : It) : Prop := ∀ M' H', Cor K M' H' → M' q.1 = some (.lst q.2) →
  (∀ i, q.2.length ≤ i → J.stop i H') ∧ (∀ i, i < q.2.length → J.go i H') ∧ ∀ i d v H2, q.2[i]? = some d → J.yld i H' v H2 → Rep K M' H2 d v ∧ Cor K M' H2 ∧ Stp M' H' M' H2
abbrev DIR (X : Cx) (W : WX) (tg iter : Expr) (tr : DTR) : Prop := PI X tg iter (lif X.K W (ItR X.K) tr)
theorem it_ref {K : PySem.W.Frag} {M : Mu} {H : Hp} {a : Addr} {ds : List D} : ItR K M H (a, ds) (Itl K a) := fun M' H' c m => by
  obtain ⟨vs, ha, r⟩ := mu_lst c m
  have q : SqL K H' a vs := .inl (.inl ha)
  refine ⟨fun i h => ⟨vs, q, by rw [r.length]; exact h⟩, fun i h => ?_, fun i d v H2 h y => ?_⟩
  · obtain ⟨v, h1, _⟩ := r.get (List.getElem?_eq_getElem h)
    exact ⟨vs, v, q, h1⟩
  · obtain ⟨rfl, y⟩ := y
    obtain ⟨u, h1, h2⟩ := r.get h
    have := y vs q
    rw [h1] at this
    cases this
    exact ⟨h2, c, Stp.refl M' _⟩
def diRef (te : DTE) : DTR := fun τ M Q E => te τ M (fun d M1 => match d with
  | .ref a => (match M1 a with
    | some (.lst ds) => Q (a, ds) M1
    | _ => False)
  | _ => False) E
def wForR (a : Addr) (all : List D) (g : DTG) (tb : DTS) (D0 : DEnds) : List D → DSt → Mu → Prop
  | [], τ, M => M a = some (.lst all) ∧ D0.nx τ M
  | d :: ds, τ, M => M a = some (.lst all) ∧ g d τ M (fun τ1 M1 => tb { D0 with nx := wForR a all g tb D0 ds, ct := wForR a all g tb D0 ds, bk := D0.nx } τ1 M1) (D0.ex τ)
def dForR (tr : DTR) (g : DTG) (tb : DTS) : DTS := fun D0 τ M => tr τ M (fun q M1 => wForR q.1 q.2 g tb D0 q.2 τ M1) (D0.ex τ)
section
variable {X : Cx} {W : WX} {a b c e o i elt tg iter : Expr} {rest es : List Expr} {ta tb te to : DTE} {tt : DTT} {pos p : Pos} {x : Str} {g : DTG} {tr : DTR} {ifs : List Expr} {scope : Scope} {own : List (Str × Nat)} {vs : List Nat}
theorem di_ref {tg : Expr} (h : DE X W e te) : DIR X W tg e (diRef te) := PI.of (pi_any h) fun σ H R ⟨τ, M, Q0, E0, S, h⟩ => S.sub h fun d M1 v H1 h1 r1 S1 s1 => by
  cases d with
  | ref a =>
    cases r1
    have h2 : (match M1 a with
      | some (.lst ds) => Q0 (a, ds) M1
      | _ => False) := h1
    cases em : M1 a with
    | none => rw [em] at h2; exact h2.elim
    | some mo =>
      rw [em] at h2
      cases mo with
      | lst ds =>
        obtain ⟨vs, ha, ra⟩ := mu_lst S1.co em
        exact .inr (.inl ⟨a, rfl, ⟨vs, .inl (.inl ha)⟩, S1.end_ (d := (a, ds)) h2 it_ref⟩)
      | _ => exact h2.elim
  | _ => exact h1.elim
theorem ds_forR {body : List Stmt} {tb : DTS} (G : Gd X W) (hi : DIR X W tg iter tr) (hg : DG X W tg g) (hb : DSs X W body tb) (hs : ∀ x, foldedSetIterable iter X.env x = pure x := by intro _; rfl) :
    DS X W (.For tg iter body [] pos) (dForR tr g tb) :=
  PS.of (ps_for G.own G.calm hi hg hb hs) fun D1 σ H ⟨τ, M, D0, S, h⟩ => S.sub h fun q M1 J H1 h1 r1 S1 s1 => by
    obtain ⟨a, ds⟩ := q
    have h1 : wForR a ds g tb D0 ds τ M1 := h1
    refine ⟨fun i m σ2 H2 => m = ds.length - i ∧ i ≤ ds.length ∧ ∃ τ2 M2, Stp M1 H1 M2 H2 ∧ SitS X.K W τ2 M2 σ2 H2 D0 D1 ∧ wForR a ds g tb D0 (ds.drop i) τ2 M2, ⟨ds.length, rfl, Nat.zero_le _, τ, M1, Stp.refl M1 H1, S1, h1⟩, ?_⟩
    rintro i m σ2 H2 ⟨rfl, hi, τ2, M2, s2, S2, h2⟩
    by_cases hlt : i < ds.length
    · have e : ds.drop i = ds[i] :: ds.drop (i + 1) := List.drop_eq_getElem_cons hlt
      rw [e] at h2
      obtain ⟨k1, k2, k3⟩ := r1 M2 H2 S2.co h2.1
      refine .inr ⟨k2 i hlt, fun σ3 H3 => ∃ τ3 M3, Stp M1 H1 M3 H3 ∧ SitS X.K W τ3 M3 σ3 H3 D0 D1 ∧ wForR a ds g tb D0 (ds.drop (i + 1)) τ3 M3, fun σ3 H3 q => ⟨ds.length - (i + 1), by omega, rfl, hlt, q⟩, fun x H3 y => ?_⟩
      obtain ⟨y1, y2, y3⟩ := k3 i ds[i] x H3 (List.getElem?_eq_getElem hlt) y
      have S3 := S2.go (S2.rs.stp y3) y2 y3
      refine ⟨ds[i], τ2, M2, _, D0.ex τ2, y1, ⟨S3.rs, S3.co, fun τ4 M4 σ4 H4 h4 r4 c4 s4 => ?_, fun x M' c d H' h r c' s' => S3.xc x τ2 M' c d σ2 H' h r (S3.rs.stp s') c' s'⟩, h2.2⟩
      have S4 := S3.go r4 c4 s4
      exact ⟨τ4, M4, { D0 with nx := wForR a ds g tb D0 (ds.drop (i + 1)), ct := wForR a ds g tb D0 (ds.drop (i + 1)), bk := D0.nx }, ⟨S4.rs, S4.co, fun a b c d h r c' s => ⟨a, b, (s2.trans (y3.trans s4)).trans s, S4.go r c' s, h⟩, S4.rt, S4.nx, fun a b c d h r c' s => ⟨a, b, (s2.trans (y3.trans s4)).trans s, S4.go r c' s, h⟩, S4.xc⟩, h4⟩
    · have e : i = ds.length := by omega
      rw [e, List.drop_length] at h2
      obtain ⟨k1, k2, k3⟩ := r1 M2 H2 S2.co h2.1
      exact .inl ⟨k1 i (show ds.length ≤ i by omega), S2.next h2.2⟩
/-! comprehensions -/
def wTsR (a : Addr) (all : List D) (g : DTG) (tt : DTT) (vs : List Nat) (τ : DSt) (inn : DSt → Mu → (Mu → Prop) → Prop) (Nx : Mu → Prop) : List D → Mu → Prop
  | [], M => M a = some (.lst all) ∧ Nx M
  | d :: ds, M => M a = some (.lst all) ∧ g d (wipeD τ vs) M (fun τ2 M2 => tt τ2 M2 (fun b M3 => if b = true then inn τ2 M3 (wTsR a all g tt vs τ inn Nx ds) else wTsR a all g tt vs τ inn Nx ds M3) noX) noX
def dLcR (tr : DTR) (g : DTG) (tt : DTT) (vs : List Nat) (te : DTE) : DTE := fun τ M Q E => tr τ M (fun q M1 => ∀ p, M1 p = none → wTsR q.1 q.2 g tt vs τ (dEm p te) (fun M2 => Q (.ref p) M2) q.2 (put M1 p (.lst []))) E
theorem turnsR_ok {K : PySem.W.Frag} {inn : DSt → Mu → (Mu → Prop) → Prop} {innL : L2.St → Hp → (Hp → Prop) → Prop} (hin : Inn K inn innL) {τ : DSt} {σ : L2.St} {M M1 : Mu} {H H1 : Hp} {a : Addr} {ds : List D} {J : It} {Nx0 : Mu → Prop} {Nx : Hp → Prop}
    (hJ : ItR K M H (a, ds) J) (rs : RepS K M H τ σ) (hN : ∀ M' H', Nx0 M' → Cor K M' H' → Stp M H M' H' → Nx H') (s1 : Stp M H M1 H1) (c1 : Cor K M1 H1) (h : wTsR a ds g tt vs τ inn Nx0 ds M1) :
    wTurns (lifGw K W0 g vs) (lif K W0 RB tt) vs σ innL Nx J H1 := by
  refine ⟨fun i m H2 => m = ds.length - i ∧ i ≤ ds.length ∧ ∃ M2, Stp M H M2 H2 ∧ Cor K M2 H2 ∧ wTsR a ds g tt vs τ inn Nx0 (ds.drop i) M2, ⟨ds.length, rfl, Nat.zero_le _, M1, s1, c1, h⟩, ?_⟩
  rintro i m H2 ⟨rfl, hi, M2, s2, c2, h2⟩
  by_cases hlt : i < ds.length
  · have e : ds.drop i = ds[i] :: ds.drop (i + 1) := List.drop_eq_getElem_cons hlt
    rw [e] at h2
    obtain ⟨k1, k2, k3⟩ := hJ M2 H2 c2 h2.1
    refine .inr ⟨k2 i hlt, fun H3 => ∃ M3, Stp M H M3 H3 ∧ Cor K M3 H3 ∧ wTsR a ds g tt vs τ inn Nx0 (ds.drop (i + 1)) M3, fun H3 q => ⟨ds.length - (i + 1), by omega, rfl, hlt, q⟩, fun x H3 y => ?_⟩
    obtain ⟨y1, y2, y3⟩ := k3 i ds[i] x H3 (List.getElem?_eq_getElem hlt) y
    have s3 := s2.trans y3
    refine ⟨ds[i], wipeD τ vs, M2, _, noX, y1, ⟨(rs.stp s3).wipe vs, y2, fun τ4 M4 σ4 H4 h4 r4 c4 s4 hw => ⟨hw.trans (wipe_wipe σ vs), ?_⟩, fun _ _ _ _ _ z => z.elim⟩, h2.2⟩
    refine ⟨τ4, M4, _, noX, ⟨r4, c4, fun b M5 b' H5 h5 r5 c5 s5 => ?_, fun _ _ _ _ _ z => z.elim⟩, h4⟩
    cases r5
    cases b with
    | false => exact ⟨M5, s3.trans (s4.trans s5), c5, h5⟩
    | true =>
      simp only [if_true] at h5 ⊢
      exact hin τ4 σ4 M5 H5 _ _ (r4.stp s5) c5 (fun M' H' n c' s' => ⟨M', s3.trans (s4.trans (s5.trans s')), c', n⟩) h5
  · have e : i = ds.length := by omega
    rw [e, List.drop_length] at h2
    obtain ⟨k1, k2, k3⟩ := hJ M2 H2 c2 h2.1
    exact .inl ⟨k1 i (show ds.length ≤ i by omega), hN M2 H2 h2.2 c2 s2⟩
def fClR (X : Cx) (W : WX) (tg iter : Expr) (ifs : List Expr) (tr : DTR) (g : DTG) (tt : DTT) (vs : List Nat) : Cl := ⟨tg, iter, ifs, lif X.K W (ItR X.K) tr, lifGw X.K W0 g vs, lif X.K W0 RB tt, vs⟩
theorem lif_lcR {σ : L2.St} {H : Hp} {Q : VK} (h : lif X.K W (RD X.K) (dLcR tr g tt vs te) σ H Q) : tLcN (fClR X W tg iter ifs tr g tt vs) [] (lif X.K W0 (RD X.K) te) σ H Q := by
  obtain ⟨τ, M, Q0, E0, S, h⟩ := h
  refine S.sub h fun q M1 J H1 h1 r1 S1 s1 => ?_
  obtain ⟨a, ds⟩ := q
  intro D hD
  exact turnsR_ok (em_ok D) r1 S1.rs (fun M' H' n c' s' => S1.q (.ref D) M' (.ref D) H' n rfl c' s') (Stp.newM hD) (S1.co.newM hD (mo := .lst []) ⟨[], rfl, .nil⟩) (h1 D (S1.co.free hD))
structure BlkR (B : Cx) (tg : Expr) (g : DTG) (ifs : List Expr) (tt : DTT) (vs : List Nat) (elt : Expr) (te : DTE) : Prop where
  g : DGw B W0 tg g vs
  t : DTs B W0 ifs tt
  e : DE B W0 elt te
theorem blkR_ok {B : Cx} (hK : B.K = X.K) (h : BlkR B tg g ifs tt vs elt te) : ClOk B (fClR X W tg iter ifs tr g tt vs) ∧ (∀ x ∈ ([] : List Cl), ClIn B x) ∧ PE B elt (lif X.K W0 (RD X.K) te) := by
  rw [← hK]
  refine ⟨⟨by rw [fClR, ← hK]; exact h.g, by rw [fClR, ← hK]; exact h.t⟩, fun x hx => ?_, h.e⟩
  cases hx
theorem de_lcR (own : List (Str × Nat)) (G : Gd X W) (hi : DIR X W tg iter tr) (hb : ∀ (s : Shared) (H : Hp) (C : Addr) (cl : List (Str × Addr)) (fp : List Addr), Gd (X.blk s H scope (compEnvC scope cl C X.env) fp) W0 → BlkR (X.blk s H scope (compEnvC scope cl C X.env) fp) tg g ifs tt (own.map (·.2)) elt te)
    (ok : blkC X.N X.env.scope scope own = true := by first | kernel_rfl | decide +kernel) (hs : ∀ x, foldedSetIterable iter X.env x = pure x := by intro _; rfl) : DE X W (.ListComp elt [⟨tg, iter, ifs, 0⟩] scope pos) (dLcR tr g tt (own.map (·.2)) te) :=
  PE.of (pe_lcN (c := fClR X W tg iter ifs tr g tt (@List.map (Str × Nat) Nat (fun p => p.2) own)) (cs := []) G.calm G.nd hi (blkOk_by ok) rfl (show Dec (own.map (·.2)) [] from trivial) (fun B ⟨s, H, C, cl, fp, e⟩ => by subst e; exact blkR_ok rfl (hb s H C cl fp (G.blk ..))) hs) fun σ H Q h => lif_lcR h
theorem ds_setLcR {spos py : Pos} {t : DTE} (j : Nat) (own : List (Str × Nat)) (G : Gd X W) (hi : DIR X W tg iter tr) (hb : ∀ (s : Shared) (H : Hp) (C : Addr) (cl : List (Str × Addr)) (fp : List Addr), Gd (X.blk s H scope (compEnvC scope cl C X.env) fp) W0 → BlkR (X.blk s H scope (compEnvC scope cl C X.env) fp) tg g ifs tt (own.map (·.2)) elt te)
    (hq : ∀ σ H Q, lif X.K W (RD X.K) t σ H Q → lif X.K W (RD X.K) (dLcR tr g tt (own.map (·.2)) te) σ H Q) (ok : blkC X.N X.env.scope scope own = true := by first | kernel_rfl | decide +kernel) (hs : ∀ x, foldedSetIterable iter X.env x = pure x := by intro _; rfl)
    (hy : X.N[j]? = some x := by rfl) (hyl : X.env.scope.names.lookup x = some .local := by rfl) (hsw : swapsWith (.ListComp elt [⟨tg, iter, ifs, 0⟩] scope pos) (some (.Name x py)) spos.line X.env = pure true := by rfl) :
    DS X W (.Assign [.Name x py] (.ListComp elt [⟨tg, iter, ifs, 0⟩] scope pos) spos) (dSet j t) :=
  PS.of (ps_setLcN (c := fClR X W tg iter ifs tr g tt (@List.map (Str × Nat) Nat (fun p => p.2) own)) (cs := []) G.calm G.nd hy hyl hsw hi (blkOk_by ok) rfl (show Dec (own.map (·.2)) [] from trivial) (fun B ⟨s, H, C, cl, fp, e⟩ => by subst e; exact blkR_ok rfl (hb s H C cl fp (G.blk ..))) hs) fun D1 σ H ⟨τ, M, D0, S, h⟩ =>
    lif_lcR (hq σ H _ (S.sub h fun d M1 v H1 h1 r1 S1 s1 => S1.nx _ M1 _ H1 h1 (S1.rs.set r1 j) S1.co (Stp.refl M1 H1)))
end
end DL

namespace DL
open PySem L2
/-! ### lists of texts compared -/
def okT (x : Tx) : Prop := ∀ c ∈ x, c < 1114112
theorem canLay_strs : ∀ {xs : List Tx}, (∀ x ∈ xs, okT x) → PyData.canLayAll0 (pds (xs.map D.str)) = true
  | [], _ => by simp [pds, PyData.canLayAll0]
  | x :: xs, h => by
    have h1 : PyData.canLay0 (pd (.str x)) = true := by
      unfold pd PyData.canLay0
      show (sx x).cps.all (· < 0x110000) = true
      rw [Array.all_eq_true]
      intro i hi
      have := h x (List.mem_cons_self ..) ((sx x).cps[i]) (by
        have : (sx x).cps[i] ∈ (sx x).cps.toList := by rw [Array.mem_toList_iff]; exact Array.getElem_mem hi
        exact this)
      exact decide_eq_true this
    rw [List.map_cons]
    unfold pds PyData.canLayAll0
    rw [h1, canLay_strs fun y hy => h y (List.mem_cons_of_mem _ hy)]
    rfl
theorem plains_strs : ∀ (xs : List Tx), plains (xs.map D.str) = true
  | [] => rfl
  | x :: xs => by
    rw [List.map_cons]
    unfold plains
    rw [plains_strs xs]
    rfl
theorem eqv_strs : ∀ (xs ys : List Tx), PyData.eqvAll (pds (xs.map D.str)) (pds (ys.map D.str)) = decide (xs = ys)
  | [], [] => by simp [pds, PyData.eqvAll]
  | [], _ :: _ => by simp [pds, PyData.eqvAll]
  | _ :: _, [] => by simp [pds, PyData.eqvAll]
  | x :: xs, y :: ys => by
    rw [List.map_cons, List.map_cons]
    unfold pds PyData.eqvAll
    rw [eqv_strs xs ys]
    unfold pd PyData.eqv
    rw [Bool.eq_iff_iff, Bool.and_eq_true, beq_iff_eq, decide_eq_true_iff, decide_eq_true_iff]
    constructor
    · rintro ⟨h1, h2⟩; rw [sx_inj h1, h2]
    · intro h; injection h with h1 h2; rw [h1, h2]; exact ⟨rfl, rfl⟩
theorem eqvL_strs (xs ys : List Tx) : PyData.eqv (.list (pds (xs.map D.str))) (.list (pds (ys.map D.str))) = decide (xs = ys) := by
  unfold PyData.eqv
  exact eqv_strs xs ys
theorem depth_strs : ∀ (xs : List Tx), PyData.depthAll (pds (xs.map D.str)) = 0
  | [] => by simp [pds, PyData.depthAll]
  | x :: xs => by
    rw [List.map_cons]
    unfold pds PyData.depthAll
    rw [depth_strs xs]
    unfold pd PyData.depth
    rfl
theorem eqOk_strs {xs : List Tx} (h : ∀ x ∈ xs, okT x) : eqOk (.lst (xs.map D.str)) = true := by
  unfold eqOk
  rw [Bool.and_eq_true]
  refine ⟨by unfold plain; exact plains_strs xs, ?_⟩
  unfold SeqAt.shaped
  rw [Bool.and_eq_true]
  unfold pd
  refine ⟨by unfold PyData.canLay0; exact canLay_strs h, ?_⟩
  unfold PyData.depth
  rw [depth_strs]
  decide
/-! ### rows of texts -/
def txs (ts : List Tx) : List D := ts.map D.str
theorem txs_app (a b : List Tx) : txs (a ++ b) = txs a ++ txs b := List.map_append
theorem inD_txs {w : Tx} : ∀ {ws : List Tx}, inD (.str w) (txs ws) = decide (w ∈ ws)
  | [] => rfl
  | x :: ws => by
    have h := inD_txs (w := w) (ws := ws)
    show (eqF (.str x) (.str w) || inD (.str w) (txs ws)) = _
    rw [h]
    have e : eqF (.str x) (.str w) = decide (w = x) := by
      show (x == w) = decide (w = x)
      rw [Bool.eq_iff_iff, beq_iff_eq, decide_eq_true_iff]
      exact eq_comm
    rw [e, ← Bool.decide_or]
    exact decide_eq_decide.mpr (by simp [List.mem_cons])
theorem flat_txs : ∀ {ws : List Tx}, (txs ws).all flatD = true
  | [] => rfl
  | x :: ws => by
    show (flatD (.str x) && (txs ws).all flatD) = true
    rw [flat_txs]; rfl
end DL

namespace DL
open PySem L2
/-! ### how the readings reduce: rows for simp, one a form -/
/-- the rows are no rows by rfl: then a proof by simp names each step, and nothing is unfolded twice -/
theorem pq {a b : Prop} (h : a ↔ b) : a = b := propext h
/-- simp looks not into what stands in the type of another argument: so the continuations are kept as they are until they are reached -/
inductive Lk {α : Type} (a : α) : Type where
  | mk
def onSome {α : Type} {K : α → Prop} (_ : Lk K) (o : Option α) : Prop := match o with
  | some a => K a
  | none => False
def onBl {K : Bool → Prop} (_ : Lk K) (d : D) : Prop := match d with
  | .bl b => K b
  | _ => False
def onInt {K : Int → Prop} (_ : Lk K) (d : D) : Prop := match d with
  | .int i => K i
  | _ => False
def onStr {K : Tx → Prop} (_ : Lk K) (d : D) : Prop := match d with
  | .str y => K y
  | _ => False
def onVar {K : D → Prop} (_ : Lk K) (o : Option (Option D)) : Prop := match o with
  | some (some d) => K d
  | _ => False
def onML {K : List D → Prop} (_ : Lk K) (o : Option MO) : Prop := match o with
  | some (.lst ds) => K ds
  | _ => False
def onML2 {K : List D → Prop} {L : List (DKey × D) → Prop} (_ : Lk K) (_ : Lk L) (o : Option MO) : Prop := match o with
  | some (.lst ds) => K ds
  | some (.dK kvs) => L kvs
  | _ => False
def onML3 {K : List D → Prop} {L : List (DKey × D) → Prop} (_ : Lk K) (_ : Lk L) (o : Option MO) : Prop := match o with
  | some (.lst ds) => K ds
  | some (.dK kvs) => L kvs
  | some (.fK kvs _) => L kvs
  | _ => False
def onDR {K : List (DKey × D) → Prop} (_ : Lk K) (o : Option MO) : Prop := match o with
  | some (.dK kvs) => K kvs
  | some (.fK kvs _) => K kvs
  | _ => False
def onFK {K : List (DKey × D) → HO → Prop} (_ : Lk K) (o : Option MO) : Prop := match o with
  | some (.fK kvs u) => K kvs u
  | _ => False
theorem onML3_l {K : List D → Prop} {L : List (DKey × D) → Prop} {ds : List D} : onML3 (K := K) (L := L) ⟨⟩ ⟨⟩ (some (.lst ds)) = K ds := pq Iff.rfl
theorem onML3_d {K : List D → Prop} {L : List (DKey × D) → Prop} {ds : List (DKey × D)} : onML3 (K := K) (L := L) ⟨⟩ ⟨⟩ (some (.dK ds)) = L ds := pq Iff.rfl
theorem onML3_f {K : List D → Prop} {L : List (DKey × D) → Prop} {ds : List (DKey × D)} {u : HO} : onML3 (K := K) (L := L) ⟨⟩ ⟨⟩ (some (.fK ds u)) = L ds := pq Iff.rfl
theorem onDR_d {L : List (DKey × D) → Prop} {ds : List (DKey × D)} : onDR (K := L) ⟨⟩ (some (.dK ds)) = L ds := pq Iff.rfl
theorem onDR_f {L : List (DKey × D) → Prop} {ds : List (DKey × D)} {u : HO} : onDR (K := L) ⟨⟩ (some (.fK ds u)) = L ds := pq Iff.rfl
theorem onFK_f {L : List (DKey × D) → HO → Prop} {ds : List (DKey × D)} {u : HO} : onFK (K := L) ⟨⟩ (some (.fK ds u)) = L ds u := pq Iff.rfl
def onDK {K : List (DKey × D) → Prop} (_ : Lk K) (o : Option MO) : Prop := match o with
  | some (.dK kvs) => K kvs
  | _ => False
def truK {K : Bool → Prop} (_ : Lk K) (M : Mu) (d : D) : Prop := match d with
  | .str x => x.length ≤ 16777216 ∧ K (!x.isEmpty)
  | d => match truD M d with
    | some b => K b
    | none => False
def frzK {K : DK} (_ : Lk K) (d : D) (M : Mu) : Prop := match d with
  | .ref a => (match M a with
    | some (.lst ds) => K (.lst ds) (del M a)
    | _ => False)
  | _ => False
def isiK {K : Bool → Prop} (_ : Lk K) (o : Option String) (T : String) : Prop := match o with
  | some n => ["bool", "int", "str", "list", "tuple", "dict"].contains T = true ∧ K (isaB n T)
  | none => False
def rng1K {K : List D → Mu → Prop} (_ : Lk K) (ds : List D) (M : Mu) : Prop := match ds with
  | [.int j] => -(2 ^ 62) ≤ j ∧ j < 2 ^ 62 ∧ K (upTo 0 j.toNat) M
  | _ => False
def rng2K {K : List D → Mu → Prop} (_ : Lk K) (ds : List D) (M : Mu) : Prop := match ds with
  | [.int i, .int j] => (-(2 ^ 62) ≤ i ∧ i < 2 ^ 62 ∧ -(2 ^ 62) ≤ j ∧ j < 2 ^ 62) ∧ K (upTo i (j - i).toNat) M
  | _ => False
def fzK {K : Addr → List D → Prop} (_ : Lk K) (o : Option (Option D)) (M : Mu) : Prop := match o with
  | some (some (.ref a)) => (match M a with
    | some (.lst ds) => K a ds
    | _ => False)
  | _ => False
def fmtK {K : DK} (_ : Lk K) (d : D) (M : Mu) : Prop := match d with
  | .str y => y.length ≤ 16777216 ∧ K (.str y) M
  | .int i => i.natAbs.log2 < 1920 ∧ K (.str (intT i)) M
  | _ => False
def opK {K : DK} (_ : Lk K) (g : DOp) (x y : D) (M : Mu) : Prop := g x y M K
def unK {K : DK} (_ : Lk K) (g : DUn) (x : D) (M : Mu) : Prop := g x M K
def cbK {K : DK} (_ : Lk K) (g : DCb) (ds : List D) (M : Mu) : Prop := g ds M K
def mtK {K : DK} (_ : Lk K) (g : DMt) (x : D) (ds : List D) (M : Mu) : Prop := g x ds M K
def slK {K : DK} (_ : Lk K) (x : D) (lo hi : Option Int) (M : Mu) : Prop := gSl x lo hi M K
def callK {K : DK} {L : DX} (_ : Lk K) (_ : Lk L) (sp : DSp) (ds : List D) (M : Mu) : Prop := sp ds M K L
theorem onSome_s {α : Type} {a : α} {k : α → Prop} : onSome (K := k) ⟨⟩ (some a) = k a := pq Iff.rfl
theorem onBl_b {b : Bool} {k : Bool → Prop} : onBl (K := k) ⟨⟩ (.bl b) = k b := pq Iff.rfl
theorem onInt_i {b : Int} {k : Int → Prop} : onInt (K := k) ⟨⟩ (.int b) = k b := pq Iff.rfl
theorem onVar_s {d : D} {k : D → Prop} : onVar (K := k) ⟨⟩ (some (some d)) = k d := pq Iff.rfl
theorem onML_l {ds : List D} {k : List D → Prop} : onML (K := k) ⟨⟩ (some (.lst ds)) = k ds := pq Iff.rfl
theorem onML2_l {ds : List D} {k : List D → Prop} {l : List (DKey × D) → Prop} : onML2 (K := k) (L := l) ⟨⟩ ⟨⟩ (some (.lst ds)) = k ds := pq Iff.rfl
theorem onML2_d {ds : List (DKey × D)} {k : List D → Prop} {l : List (DKey × D) → Prop} : onML2 (K := k) (L := l) ⟨⟩ ⟨⟩ (some (.dK ds)) = l ds := pq Iff.rfl
theorem onDK_d {ds : List (DKey × D)} {l : List (DKey × D) → Prop} : onDK (K := l) ⟨⟩ (some (.dK ds)) = l ds := pq Iff.rfl
section
variable {M : Mu} {Q : DK} {k : Bool → Prop} {τ : DSt} {E : DX} {te ta tb : DTE} {tl : DTA}
theorem tru_n : truK (K := k) ⟨⟩ M .non = k false := pq Iff.rfl
theorem tru_b {b : Bool} : truK (K := k) ⟨⟩ M (.bl b) = k b := pq Iff.rfl
theorem tru_i {i : Int} : truK (K := k) ⟨⟩ M (.int i) = k (i != 0) := pq Iff.rfl
theorem tru_s {x : Tx} : truK (K := k) ⟨⟩ M (.str x) = (x.length ≤ 16777216 ∧ k (!x.isEmpty)) := pq Iff.rfl
theorem tru_l {x : List D} : truK (K := k) ⟨⟩ M (.lst x) = k (!x.isEmpty) := pq Iff.rfl
theorem tru_t {x : List D} : truK (K := k) ⟨⟩ M (.tup x) = k (!x.isEmpty) := pq Iff.rfl
theorem tru_r {a : Addr} : truK (K := k) ⟨⟩ M (.ref a) = onML2 (K := fun ds => k !ds.isEmpty) (L := fun kvs => k !kvs.isEmpty) ⟨⟩ ⟨⟩ (M a) := by
  show (match (match M a with
    | some (.lst ds) => some !ds.isEmpty
    | some (.dK kvs) => some !kvs.isEmpty
    | _ => none) with
    | some b => k b
    | none => False) = _
  unfold onML2
  cases M a with
  | none => rfl
  | some mo => cases mo <;> rfl
theorem r_var {i : Nat} : dVar i τ M Q E = onVar (K := fun d => Q d M) ⟨⟩ τ[i]? := pq Iff.rfl
theorem r_test {Qb : Bool → Mu → Prop} : dTest te τ M Qb E = te τ M (fun d M1 => onBl (K := fun b => Qb b M1) ⟨⟩ d) E := pq Iff.rfl
theorem r_tru {Qb : Bool → Mu → Prop} : dTru te τ M Qb E = te τ M (fun d M1 => truK (K := fun b => Qb b M1) ⟨⟩ M1 d) E := pq Iff.rfl
theorem r_andV : dAndV ta tb τ M Q E = ta τ M (fun d M1 => onBl (K := fun b => if b = true then tb τ M1 Q E else Q (.bl false) M1) ⟨⟩ d) E := pq Iff.rfl
theorem r_orV : dOrV ta tb τ M Q E = ta τ M (fun d M1 => onBl (K := fun b => if b = true then Q (.bl true) M1 else tb τ M1 Q E) ⟨⟩ d) E := pq Iff.rfl
theorem r_notV : dNotV ta τ M Q E = ta τ M (fun d M1 => onBl (K := fun b => Q (.bl (!b)) M1) ⟨⟩ d) E := pq Iff.rfl
theorem r_frz : dFrz te τ M Q E = te τ M (fun d M1 => frzK (K := Q) ⟨⟩ d M1) E := pq Iff.rfl
theorem frz_r {a : Addr} : frzK (K := Q) ⟨⟩ (.ref a) M = onML (K := fun ds => Q (.lst ds) (del M a)) ⟨⟩ (M a) := pq Iff.rfl
theorem r_osome {Qo : Option Int → Mu → Prop} : doSome te τ M Qo E = te τ M (fun d M1 => onInt (K := fun i => Qo (some i) M1) ⟨⟩ d) E := pq Iff.rfl
theorem sl_s {x : Tx} {lo hi : Option Int} : slK (K := Q) ⟨⟩ (.str x) lo hi M = (x.length ≤ 16777216 ∧ Q (.str (cut x lo hi)) M) := pq Iff.rfl
theorem sl_l {x : List D} {lo hi : Option Int} : slK (K := Q) ⟨⟩ (.lst x) lo hi M = Q (.lst (cut x lo hi)) M := pq Iff.rfl
theorem sl_t {x : List D} {lo hi : Option Int} : slK (K := Q) ⟨⟩ (.tup x) lo hi M = (¬ (HT.sIx x.length 0 lo = 0 ∧ HT.sIx x.length x.length hi = x.length) ∧ Q (.tup (cut x lo hi)) M) := pq Iff.rfl
theorem sl_r {a : Addr} {lo hi : Option Int} : slK (K := Q) ⟨⟩ (.ref a) lo hi M = onML (K := fun ds => Q (.lst (cut ds lo hi)) M) ⟨⟩ (M a) := pq Iff.rfl
/-! operators -/
theorem add_i {i j : Int} : opK (K := Q) ⟨⟩ gAdd (.int i) (.int j) M = Q (.int (i + j)) M := pq Iff.rfl
theorem add_s {a b : Tx} : opK (K := Q) ⟨⟩ gAdd (.str a) (.str b) M = (a.length + b.length ≤ 16777216 ∧ Q (.str (a ++ b)) M) := pq Iff.rfl
theorem add_l {a b : List D} : opK (K := Q) ⟨⟩ gAdd (.lst a) (.lst b) M = (a.length + b.length ≤ 16777216 ∧ Q (.lst (a ++ b)) M) := pq Iff.rfl
theorem add_t {a b : List D} : opK (K := Q) ⟨⟩ gAdd (.tup a) (.tup b) M = (a ≠ [] ∧ a.length + b.length ≤ 16777216 ∧ Q (.tup (a ++ b)) M) := pq Iff.rfl
theorem add_rl {p : Addr} {b : List D} : opK (K := Q) ⟨⟩ gAdd (.ref p) (.lst b) M = onML (K := fun a => a.length + b.length ≤ 16777216 ∧ Q (.lst (a ++ b)) M) ⟨⟩ (M p) := pq Iff.rfl
theorem add_lr {p : Addr} {a : List D} : opK (K := Q) ⟨⟩ gAdd (.lst a) (.ref p) M = onML (K := fun b => a.length + b.length ≤ 16777216 ∧ Q (.lst (a ++ b)) M) ⟨⟩ (M p) := pq Iff.rfl
theorem sub_i {i j : Int} : opK (K := Q) ⟨⟩ gSub (.int i) (.int j) M = Q (.int (i - j)) M := pq Iff.rfl
theorem mul_i {i j : Int} : opK (K := Q) ⟨⟩ gMul (.int i) (.int j) M = (CMul i j ∧ Q (.int (i * j)) M) := pq Iff.rfl
theorem div_i {i j : Int} : opK (K := Q) ⟨⟩ gDiv (.int i) (.int j) M = (CDiv i j ∧ Q (.int (i / j)) M) := pq Iff.rfl
theorem mod_i {i j : Int} : opK (K := Q) ⟨⟩ gMod (.int i) (.int j) M = (0 < j ∧ Q (.int (i % j)) M) := pq Iff.rfl
theorem pow_i {i j : Int} : opK (K := Q) ⟨⟩ gPow (.int i) (.int j) M = (CPow i j ∧ Q (.int (i ^ j.toNat)) M) := pq Iff.rfl
theorem neg_i {i : Int} : unK (K := Q) ⟨⟩ gNeg (.int i) M = Q (.int (-i)) M := pq Iff.rfl
theorem cmp_i {p : Int → Int → Bool} {i j : Int} : opK (K := Q) ⟨⟩ (gInt p) (.int i) (.int j) M = Q (.bl (p i j)) M := pq Iff.rfl
variable {nb : Bool → Bool}
theorem eq_i {i j : Int} : opK (K := Q) ⟨⟩ (gEqN nb) (.int i) (.int j) M = Q (.bl (nb (decide (i = j)))) M := pq Iff.rfl
theorem eq_s {i j : Tx} : opK (K := Q) ⟨⟩ (gEqN nb) (.str i) (.str j) M = Q (.bl (nb (decide (i = j)))) M := pq Iff.rfl
theorem eq_b {i j : Bool} : opK (K := Q) ⟨⟩ (gEqN nb) (.bl i) (.bl j) M = Q (.bl (nb (decide (i = j)))) M := pq Iff.rfl
theorem eq_n : opK (K := Q) ⟨⟩ (gEqN nb) .non .non M = Q (.bl (nb true)) M := pq Iff.rfl
theorem eq_l {a b : List D} : opK (K := Q) ⟨⟩ (gEqN nb) (.lst a) (.lst b) M = (eqOk (.lst a) = true ∧ eqOk (.lst b) = true ∧ Q (.bl (nb (PyData.eqv (.list (pds a)) (.list (pds b))))) M) := pq Iff.rfl
theorem eq_t {a b : List D} : opK (K := Q) ⟨⟩ (gEqN nb) (.tup a) (.tup b) M = (eqOk (.tup a) = true ∧ eqOk (.tup b) = true ∧ Q (.bl (nb (PyData.eqv (.tuple (pds a)) (.tuple (pds b))))) M) := pq Iff.rfl
theorem eq_rl {p : Addr} {b : List D} : opK (K := Q) ⟨⟩ (gEqN nb) (.ref p) (.lst b) M = onML (K := fun a => eqOk (.lst a) = true ∧ eqOk (.lst b) = true ∧ Q (.bl (nb (PyData.eqv (.list (pds a)) (.list (pds b))))) M) ⟨⟩ (M p) := pq Iff.rfl
theorem eq_lr {p : Addr} {a : List D} : opK (K := Q) ⟨⟩ (gEqN nb) (.lst a) (.ref p) M = onML (K := fun b => eqOk (.lst a) = true ∧ eqOk (.lst b) = true ∧ Q (.bl (nb (PyData.eqv (.list (pds a)) (.list (pds b))))) M) ⟨⟩ (M p) := pq Iff.rfl
theorem tt {P : Prop} : (true = true ∧ P) = P := by simp
theorem eq_ni {i : Int} : opK (K := Q) ⟨⟩ (gEqN nb) .non (.int i) M = Q (.bl (nb false)) M := tt
theorem eq_in {i : Int} : opK (K := Q) ⟨⟩ (gEqN nb) (.int i) .non M = Q (.bl (nb false)) M := tt
theorem eq_ns {i : Tx} : opK (K := Q) ⟨⟩ (gEqN nb) .non (.str i) M = Q (.bl (nb false)) M := tt
theorem eq_sn {i : Tx} : opK (K := Q) ⟨⟩ (gEqN nb) (.str i) .non M = Q (.bl (nb false)) M := tt
theorem eq_nb {i : Bool} : opK (K := Q) ⟨⟩ (gEqN nb) .non (.bl i) M = Q (.bl (nb false)) M := tt
theorem eq_bn {i : Bool} : opK (K := Q) ⟨⟩ (gEqN nb) (.bl i) .non M = Q (.bl (nb false)) M := tt
theorem eq_is {i : Int} {x : Tx} : opK (K := Q) ⟨⟩ (gEqN nb) (.int i) (.str x) M = Q (.bl (nb false)) M := tt
theorem eq_si {i : Int} {x : Tx} : opK (K := Q) ⟨⟩ (gEqN nb) (.str x) (.int i) M = Q (.bl (nb false)) M := tt
theorem ix_l {ds : List D} {i : Int} : opK (K := Q) ⟨⟩ gIx (.lst ds) (.int i) M = onSome (K := fun d => Q d M) ⟨⟩ (atI ds i) := by
  show (match atI ds i with | some d => Q d M | none => False) = _
  cases atI ds i <;> rfl
theorem ix_t {ds : List D} {i : Int} : opK (K := Q) ⟨⟩ gIx (.tup ds) (.int i) M = onSome (K := fun d => Q d M) ⟨⟩ (atI ds i) := by
  show (match atI ds i with | some d => Q d M | none => False) = _
  cases atI ds i <;> rfl
theorem ix_s {x : Tx} {i : Int} : opK (K := Q) ⟨⟩ gIx (.str x) (.int i) M = (x.length ≤ 16777216 ∧ onSome (K := fun c => Q (.str [c]) M) ⟨⟩ (atI x i)) := by
  show (x.length ≤ 16777216 ∧ (match atI x i with | some c => Q (.str [c]) M | none => False)) = _
  cases atI x i <;> rfl
theorem ix_ri {a : Addr} {i : Int} : opK (K := Q) ⟨⟩ gIx (.ref a) (.int i) M = onML3 (K := fun ds => onSome (K := fun d => Q d M) ⟨⟩ (atI ds i)) (L := fun kvs => onSome (K := fun d => Q d M) ⟨⟩ (lookK kvs (.inl i))) ⟨⟩ ⟨⟩ (M a) := by
  show (match M a with
    | some (.lst ds) => (match atI ds i with | some d => Q d M | none => False)
    | some (.dK kvs) => (match lookK kvs (.inl i) with | some d => Q d M | none => False)
    | some (.fK kvs _) => (match lookK kvs (.inl i) with | some d => Q d M | none => False)
    | _ => False) = _
  cases M a with
  | none => rfl
  | some mo => cases mo with
    | lst ds => show (match atI ds i with | some d => Q d M | none => False) = onSome (K := fun d => Q d M) ⟨⟩ (atI ds i); cases atI ds i <;> rfl
    | dK kvs => show (match lookK kvs (.inl i) with | some d => Q d M | none => False) = onSome (K := fun d => Q d M) ⟨⟩ (lookK kvs (.inl i)); cases lookK kvs (.inl i) <;> rfl
    | fK kvs u => show (match lookK kvs (.inl i) with | some d => Q d M | none => False) = onSome (K := fun d => Q d M) ⟨⟩ (lookK kvs (.inl i)); cases lookK kvs (.inl i) <;> rfl
    | _ => rfl
theorem ix_rs {a : Addr} {x : Tx} : opK (K := Q) ⟨⟩ gIx (.ref a) (.str x) M = onDR (K := fun kvs => onSome (K := fun d => Q d M) ⟨⟩ (lookK kvs (.inr x))) ⟨⟩ (M a) := by
  show (match M a with
    | some (.dK kvs) => (match lookK kvs (.inr x) with | some d => Q d M | none => False)
    | some (.fK kvs _) => (match lookK kvs (.inr x) with | some d => Q d M | none => False)
    | _ => False) = _
  cases M a with
  | none => rfl
  | some mo => cases mo with
    | dK kvs => show (match lookK kvs (.inr x) with | some d => Q d M | none => False) = onSome (K := fun d => Q d M) ⟨⟩ (lookK kvs (.inr x)); cases lookK kvs (.inr x) <;> rfl
    | fK kvs u => show (match lookK kvs (.inr x) with | some d => Q d M | none => False) = onSome (K := fun d => Q d M) ⟨⟩ (lookK kvs (.inr x)); cases lookK kvs (.inr x) <;> rfl
    | _ => rfl
theorem in_ss {c : Nat} {z : Tx} : opK (K := Q) ⟨⟩ (gInN nb) (.str [c]) (.str z) M = Q (.bl (nb (decide (c ∈ z)))) M := pq Iff.rfl
theorem in_l {x : D} {ys : List D} : opK (K := Q) ⟨⟩ (gInN nb) x (.lst ys) M = (flatD x = true ∧ ys.all flatD = true ∧ Q (.bl (nb (inD x ys))) M) := by
  cases x <;> first
    | rfl
    | (rename_i w; cases w with
      | nil => rfl
      | cons a l => cases l <;> rfl)
theorem in_t {x : D} {ys : List D} : opK (K := Q) ⟨⟩ (gInN nb) x (.tup ys) M = (flatD x = true ∧ ys.all flatD = true ∧ Q (.bl (nb (inD x ys))) M) := by
  cases x <;> first
    | rfl
    | (rename_i w; cases w with
      | nil => rfl
      | cons a l => cases l <;> rfl)
theorem in_ir {i : Int} {a : Addr} : opK (K := Q) ⟨⟩ (gInN nb) (.int i) (.ref a) M = onML3 (K := fun ys => ys.all flatD = true ∧ Q (.bl (nb (inD (.int i) ys))) M) (L := fun kvs => Q (.bl (nb (lookK kvs (.inl i)).isSome)) M) ⟨⟩ ⟨⟩ (M a) := pq Iff.rfl
theorem in_sr {x : Tx} {a : Addr} : opK (K := Q) ⟨⟩ (gInN nb) (.str x) (.ref a) M = onML3 (K := fun ys => ys.all flatD = true ∧ Q (.bl (nb (inD (.str x) ys))) M) (L := fun kvs => Q (.bl (nb (lookK kvs (.inr x)).isSome)) M) ⟨⟩ ⟨⟩ (M a) := by
  cases x with
  | nil => rfl
  | cons c l => cases l <;> rfl
theorem isn_n : opK (K := Q) ⟨⟩ (gIsNN nb) .non .non M = Q (.bl (nb true)) M := pq Iff.rfl
theorem isn_b {b : Bool} : opK (K := Q) ⟨⟩ (gIsNN nb) (.bl b) .non M = Q (.bl (nb false)) M := pq Iff.rfl
theorem isn_i {b : Int} : opK (K := Q) ⟨⟩ (gIsNN nb) (.int b) .non M = Q (.bl (nb false)) M := pq Iff.rfl
theorem isn_s {b : Tx} : opK (K := Q) ⟨⟩ (gIsNN nb) (.str b) .non M = Q (.bl (nb false)) M := pq Iff.rfl
theorem isn_r {b : Addr} : opK (K := Q) ⟨⟩ (gIsNN nb) (.ref b) .non M = Q (.bl (nb false)) M := pq Iff.rfl
theorem isn_l {b : List D} : opK (K := Q) ⟨⟩ (gIsNN nb) (.lst b) .non M = Q (.bl (nb false)) M := pq Iff.rfl
theorem isn_t {b : List D} : opK (K := Q) ⟨⟩ (gIsNN nb) (.tup b) .non M = Q (.bl (nb false)) M := pq Iff.rfl
/-! built-in functions -/
theorem len_s {x : Tx} : cbK (K := Q) ⟨⟩ gLen [.str x] M = (x.length ≤ 16777216 ∧ Q (.int x.length) M) := pq Iff.rfl
theorem len_c {ns : List Int} : cbK (K := Q) ⟨⟩ gLen [.scr ns] M = Q (.int ns.length) M := pq Iff.rfl
theorem len_l {x : List D} : cbK (K := Q) ⟨⟩ gLen [.lst x] M = Q (.int x.length) M := pq Iff.rfl
theorem len_t {x : List D} : cbK (K := Q) ⟨⟩ gLen [.tup x] M = Q (.int x.length) M := pq Iff.rfl
theorem len_r {a : Addr} : cbK (K := Q) ⟨⟩ gLen [.ref a] M = onML2 (K := fun ds => Q (.int ds.length) M) (L := fun kvs => Q (.int kvs.length) M) ⟨⟩ ⟨⟩ (M a) := pq Iff.rfl
theorem int_i {i : Int} : cbK (K := Q) ⟨⟩ gInt1 [.int i] M = Q (.int i) M := pq Iff.rfl
theorem int_b {b : Bool} : cbK (K := Q) ⟨⟩ gInt1 [.bl b] M = Q (.int (if b then 1 else 0)) M := pq Iff.rfl
theorem min_ii {i j : Int} : cbK (K := Q) ⟨⟩ gMin2 [.int i, .int j] M = Q (.int (if j < i then j else i)) M := pq Iff.rfl
theorem max_ii {i j : Int} : cbK (K := Q) ⟨⟩ gMax2 [.int i, .int j] M = Q (.int (if j > i then j else i)) M := pq Iff.rfl
theorem list_l {x : List D} : cbK (K := Q) ⟨⟩ gList [.lst x] M = Q (.lst x) M := pq Iff.rfl
theorem list_t {x : List D} : cbK (K := Q) ⟨⟩ gList [.tup x] M = Q (.lst x) M := pq Iff.rfl
theorem list_r {a : Addr} : cbK (K := Q) ⟨⟩ gList [.ref a] M = onML (K := fun ds => Q (.lst ds) M) ⟨⟩ (M a) := pq Iff.rfl
theorem list_c {ns : List Int} : cbK (K := Q) ⟨⟩ gList [.scr ns] M = Q (.lst (ns.map D.int)) M := pq Iff.rfl
theorem listM_c {ns : List Int} : cbK (K := Q) ⟨⟩ gListM [.scr ns] M = (∀ p, M p = none → Q (.ref p) (put M p (.lst (ns.map D.int)))) := pq Iff.rfl
theorem listM_l {x : List D} : cbK (K := Q) ⟨⟩ gListM [.lst x] M = (∀ p, M p = none → Q (.ref p) (put M p (.lst x))) := pq Iff.rfl
theorem listM_t {x : List D} : cbK (K := Q) ⟨⟩ gListM [.tup x] M = (∀ p, M p = none → Q (.ref p) (put M p (.lst x))) := pq Iff.rfl
theorem listM_r {a : Addr} : cbK (K := Q) ⟨⟩ gListM [.ref a] M = onML (K := fun ds => ∀ p, M p = none → Q (.ref p) (put M p (.lst ds))) ⟨⟩ (M a) := pq Iff.rfl
theorem isi_ {d : D} {T : String} : cbK (K := Q) ⟨⟩ gIsi [d, .ty T] M = isiK (K := fun b => Q (.bl b) M) ⟨⟩ (tyD M d) T := pq Iff.rfl
theorem isi_k {n T : String} {k : Bool → Prop} : isiK (K := k) ⟨⟩ (some n) T = (["bool", "int", "str", "list", "tuple", "dict"].contains T = true ∧ k (isaB n T)) := pq Iff.rfl
theorem ty_n : tyD M .non = some "NoneType" := rfl
theorem ty_b {b : Bool} : tyD M (.bl b) = some "bool" := rfl
theorem ty_i {b : Int} : tyD M (.int b) = some "int" := rfl
theorem ty_s {b : Tx} : tyD M (.str b) = some "str" := rfl
theorem ty_l {b : List D} : tyD M (.lst b) = some "list" := rfl
theorem ty_t {b : List D} : tyD M (.tup b) = some "tuple" := rfl
theorem it_s {x : Tx} : isTy "str" M (.str x) = True := by show ("str" = "str") = True; simp
theorem it_l {x : List D} : isTy "list" M (.lst x) = True := by show ("list" = "list") = True; simp
def isTyM (T : String) (o : Option MO) : Prop := match o with
  | some (.lst _) => T = "list"
  | some (.dK _) => T = "dict"
  | _ => False
theorem it_r {T : String} {a : Addr} : isTy T M (.ref a) = isTyM T (M a) := pq Iff.rfl
theorem itM_l {x : List D} : isTyM "list" (some (.lst x)) = True := by show ("list" = "list") = True; simp
theorem itM_d {x : List (DKey × D)} : isTyM "dict" (some (.dK x)) = True := by show ("dict" = "dict") = True; simp
theorem app_r {a : Addr} {y : D} : mtK (K := Q) ⟨⟩ gAppend (.ref a) [y] M = onML (K := fun ds => ds.length < 16777216 ∧ Q .non (put M a (.lst (ds ++ [y])))) ⟨⟩ (M a) := pq Iff.rfl
theorem rev_r {a : Addr} : mtK (K := Q) ⟨⟩ gReverse (.ref a) [] M = onML (K := fun ds => Q .non (put M a (.lst ds.reverse))) ⟨⟩ (M a) := pq Iff.rfl
theorem join_l {s : Tx} {ds : List D} : mtK (K := Q) ⟨⟩ gJoin (.str s) [.lst ds] M = (∃ ys : List Tx, ds = ys.map D.str ∧ (ys.map (·.length)).sum + ys.length * s.length ≤ 16777216 ∧ Q (.str (joinT s ys)) M) := pq Iff.rfl
theorem join_t {s : Tx} {ds : List D} : mtK (K := Q) ⟨⟩ gJoin (.str s) [.tup ds] M = (∃ ys : List Tx, ds = ys.map D.str ∧ (ys.map (·.length)).sum + ys.length * s.length ≤ 16777216 ∧ Q (.str (joinT s ys)) M) := pq Iff.rfl
theorem join_r {s : Tx} {a : Addr} : mtK (K := Q) ⟨⟩ gJoin (.str s) [.ref a] M = onML (K := fun ds => ∃ ys : List Tx, ds = ys.map D.str ∧ (ys.map (·.length)).sum + ys.length * s.length ≤ 16777216 ∧ Q (.str (joinT s ys)) M) ⟨⟩ (M a) := pq Iff.rfl
theorem starts_s {a b : Tx} : mtK (K := Q) ⟨⟩ gStarts (.str a) [.str b] M = Q (.bl (b.isPrefixOf a)) M := pq Iff.rfl
/-! targets, walks -/
variable {d : D} {Qs : DSt → Mu → Prop}
def tupK (n : Nat) (u : DTGs) (d : D) (τ : DSt) (M : Mu) (Q : DSt → Mu → Prop) : Prop := match d with
  | .tup ds => ds.length = n ∧ u ds τ M Q (fun _ _ => False)
  | _ => False
theorem r_gtup {n : Nat} {u : DTGs} {ds : List D} : dgTup n u (.tup ds) τ M Qs E = (ds.length = n ∧ u ds τ M Qs (fun _ _ => False)) := pq Iff.rfl
theorem r_glst {n : Nat} {u : DTGs} {ds : List D} : dgLst n u (.lst ds) τ M Qs E = (ds.length = n ∧ u ds τ M Qs (fun _ _ => False)) := pq Iff.rfl
theorem r_gnil : dgNil [] τ M Qs E = Qs τ M := pq Iff.rfl
theorem r_gcons {i : Nat} {u : DTGs} {r : List D} : dgCons i u (d :: r) τ M Qs E = u r (τ.set i (some d)) M Qs E := pq Iff.rfl
def setK {K : Mu → Prop} (_ : Lk K) (g : DSet) (o i d : D) (M : Mu) : Prop := g o i d M K
theorem set_r {a : Addr} {k : Int} {Qm : Mu → Prop} : setK (K := Qm) ⟨⟩ gSetA (.ref a) (.int k) d M = onML2 (K := fun ds => onSome (K := fun j => Qm (put M a (.lst (ds.set j d)))) ⟨⟩ (ixN ds.length k)) (L := fun kvs => kvs.length < 16777216 ∧ Qm (put M a (.dK (putD kvs (.inl k) d)))) ⟨⟩ ⟨⟩ (M a) := by
  show (match M a with
    | some (.lst ds) => (match ixN ds.length k with | some j => Qm (put M a (.lst (ds.set j d))) | none => False)
    | some (.dK kvs) => kvs.length < 16777216 ∧ Qm (put M a (.dK (putD kvs (.inl k) d)))
    | _ => False) = _
  cases M a with
  | none => rfl
  | some mo => cases mo with
    | lst ds => show (match ixN ds.length k with | some j => Qm (put M a (.lst (ds.set j d))) | none => False) = onSome (K := fun j => Qm (put M a (.lst (ds.set j d)))) ⟨⟩ (ixN ds.length k); cases ixN ds.length k <;> rfl
    | _ => rfl
theorem set_rs {a : Addr} {x : Tx} {Qm : Mu → Prop} : setK (K := Qm) ⟨⟩ gSetA (.ref a) (.str x) d M = onDK (K := fun kvs => kvs.length < 16777216 ∧ Qm (put M a (.dK (putD kvs (.inr x) d)))) ⟨⟩ (M a) := pq Iff.rfl
theorem str_i {i : Int} : cbK (K := Q) ⟨⟩ gStr1 [.int i] M = (i.natAbs.log2 < 1920 ∧ Q (.str (intT i)) M) := pq Iff.rfl
theorem str_s {x : Tx} : cbK (K := Q) ⟨⟩ gStr1 [.str x] M = Q (.str x) M := pq Iff.rfl
theorem ext_l {a : Addr} {zs : List D} : mtK (K := Q) ⟨⟩ gExtend (.ref a) [.lst zs] M = onML (K := fun ds => ds.length + zs.length ≤ 16777216 ∧ Q .non (put M a (.lst (ds ++ zs)))) ⟨⟩ (M a) := pq Iff.rfl
theorem pop_r {a : Addr} : mtK (K := Q) ⟨⟩ gPop (.ref a) [] M = onML (K := fun ds => onSome (K := fun d => Q d (put M a (.lst ds.dropLast))) ⟨⟩ ds.getLast?) ⟨⟩ (M a) := by
  show (match M a with
    | some (.lst ds) => (match ds.getLast? with
      | some d => Q d (put M a (.lst ds.dropLast))
      | none => False)
    | _ => False) = _
  cases M a with
  | none => rfl
  | some mo => cases mo with
    | lst ds => show (match ds.getLast? with | some d => Q d (put M a (.lst ds.dropLast)) | none => False) = onSome (K := fun d => Q d (put M a (.lst ds.dropLast))) ⟨⟩ ds.getLast?; cases ds.getLast? <;> rfl
    | _ => rfl
theorem clr_r {a : Addr} : mtK (K := Q) ⟨⟩ gClear (.ref a) [] M = onML (K := fun _ => Q .non (put M a (.lst []))) ⟨⟩ (M a) := pq Iff.rfl
theorem ends_s {a b : Tx} : mtK (K := Q) ⟨⟩ gEnds (.str a) [.str b] M = Q (.bl (b.isSuffixOf a)) M := pq Iff.rfl
theorem ins_r {a : Addr} {i : Int} {y : D} : mtK (K := Q) ⟨⟩ gInsert (.ref a) [.int i, y] M = onML (K := fun ds => ds.length < 16777216 ∧ 0 ≤ i ∧ i < 2 ^ 62 ∧ Q .non (put M a (.lst (ds.take i.toNat ++ [y] ++ ds.drop i.toNat)))) ⟨⟩ (M a) := pq Iff.rfl
theorem r_any {Ql : List D → Mu → Prop} : diAny te τ M Ql E = te τ M (fun d M1 => onSome (K := fun ds => Ql ds M1) ⟨⟩ (itemsD d)) E := by
  unfold diAny
  congr 1
  funext d M1
  cases itemsD d <;> rfl
def scrK {K : List D → Prop} (_ : Lk K) (d : D) : Prop := match d with
  | .scr ns => K (ns.map D.int)
  | _ => False
theorem scr_c {K : List D → Prop} {ns : List Int} : scrK (K := K) ⟨⟩ (.scr ns) = K (ns.map D.int) := pq Iff.rfl
theorem r_scr {Ql : List D → Mu → Prop} : diScr te τ M Ql E = te τ M (fun d M1 => scrK (K := fun ds => Ql ds M1) ⟨⟩ d) E := by
  unfold diScr
  congr 1
theorem items_s {x : Tx} : itemsD (.str x) = some (x.map fun c => D.str [c]) := rfl
theorem items_l {x : List D} : itemsD (.lst x) = some x := rfl
theorem items_t {x : List D} : itemsD (.tup x) = some x := rfl
theorem r_rng1 {Ql : List D → Mu → Prop} : diRng1 tl τ M Ql E = tl τ M (fun ds M1 => rng1K (K := Ql) ⟨⟩ ds M1) E := pq Iff.rfl
theorem r_rng2 {Ql : List D → Mu → Prop} : diRng2 tl τ M Ql E = tl τ M (fun ds M1 => rng2K (K := Ql) ⟨⟩ ds M1) E := pq Iff.rfl
theorem rng1_i {j : Int} {Ql : List D → Mu → Prop} : rng1K (K := Ql) ⟨⟩ [.int j] M = (-(2 ^ 62) ≤ j ∧ j < 2 ^ 62 ∧ Ql (upTo 0 j.toNat) M) := pq Iff.rfl
theorem rng2_i {i j : Int} {Ql : List D → Mu → Prop} : rng2K (K := Ql) ⟨⟩ [.int i, .int j] M = ((-(2 ^ 62) ≤ i ∧ i < 2 ^ 62 ∧ -(2 ^ 62) ≤ j ∧ j < 2 ^ 62) ∧ Ql (upTo i (j - i).toNat) M) := pq Iff.rfl
theorem r_fz {i : Nat} {t : DTS} {D0 : DEnds} : dFz i t D0 τ M = fzK (K := fun a ds => t D0 (τ.set i (some (.lst ds))) (del M a)) ⟨⟩ τ[i]? M := by
  unfold dFz fzK
  cases τ[i]? with
  | none => rfl
  | some o => cases o with
    | none => rfl
    | some d => cases d with
      | ref a => show (match M a with | some (.lst ds) => t D0 (τ.set i (some (.lst ds))) (del M a) | _ => False) = (match M a with | some (.lst ds) => t D0 (τ.set i (some (.lst ds))) (del M a) | _ => False); rfl
      | _ => rfl
theorem fz_r {a : Addr} {k : Addr → List D → Prop} : fzK (K := k) ⟨⟩ (some (some (.ref a))) M = onML (K := fun ds => k a ds) ⟨⟩ (M a) := pq Iff.rfl
end
/-! unfolding, whole readings only -/
theorem onStr_s {y : Tx} {k : Tx → Prop} : onStr (K := k) ⟨⟩ (.str y) = k y := pq Iff.rfl
theorem fmt_s {y : Tx} {M : Mu} {Q : DK} : fmtK (K := Q) ⟨⟩ (.str y) M = (y.length ≤ 16777216 ∧ Q (.str y) M) := pq Iff.rfl
theorem fmt_i {i : Int} {M : Mu} {Q : DK} : fmtK (K := Q) ⟨⟩ (.int i) M = (i.natAbs.log2 < 1920 ∧ Q (.str (intT i)) M) := pq Iff.rfl
theorem ex_mk {nx : DSt → Mu → Prop} {rt : DK} {bk ct : DSt → Mu → Prop} {xc : XD → DSt → Mu → Prop} {τ : DSt} : DEnds.ex ⟨nx, rt, bk, ct, xc⟩ τ = (fun x M => xc x τ M) := funext fun _ => funext fun _ => pq Iff.rfl
section
variable {nx : DSt → Mu → Prop} {rt : DK} {bk ct : DSt → Mu → Prop} {xc : XD → DSt → Mu → Prop}
theorem nx_mk : DEnds.nx ⟨nx, rt, bk, ct, xc⟩ = nx := funext fun _ => funext fun _ => pq Iff.rfl
theorem rt_mk : DEnds.rt ⟨nx, rt, bk, ct, xc⟩ = rt := funext fun _ => funext fun _ => pq Iff.rfl
theorem bk_mk : DEnds.bk ⟨nx, rt, bk, ct, xc⟩ = bk := funext fun _ => funext fun _ => pq Iff.rfl
theorem ct_mk : DEnds.ct ⟨nx, rt, bk, ct, xc⟩ = ct := funext fun _ => funext fun _ => pq Iff.rfl
theorem xc_mk : DEnds.xc ⟨nx, rt, bk, ct, xc⟩ = xc := funext fun _ => funext fun _ => funext fun _ => pq Iff.rfl
end
section
variable {d : D} {g : DOp} {gu : DUn} {gc : DCb} {gm : DMt} {gs : DSet} {tg : DTG} {T : String} {ta tb te to : DTE} {t u : DTT} {tl : DTA} {sp : DSp} {a b : DTS} {ti : DTI} {i : Nat} {l h : DTO} {τ : DSt} {M : Mu} {Q : DK} {E : DX} {Qb : Bool → Mu → Prop} {Ql : List D → Mu → Prop} {Qo : Option Int → Mu → Prop} {Qs : DSt → Mu → Prop} {D0 : DEnds} {ts : List DTE} {acc : Tx} {Qt : Tx → Mu → Prop} {p : Addr} {Nx : Mu → Prop}
theorem u_c : dC d τ M Q E = Q d M := pq Iff.rfl
theorem u_op : dOp g ta tb τ M Q E = ta τ M (fun x M1 => tb τ M1 (fun y M2 => opK (K := Q) ⟨⟩ g x y M2) E) E := pq Iff.rfl
theorem u_un : dUn gu ta τ M Q E = ta τ M (fun x M1 => unK (K := Q) ⟨⟩ gu x M1) E := pq Iff.rfl
theorem u_and : dAnd t u τ M Qb E = t τ M (fun b M1 => if b = true then u τ M1 Qb E else Qb false M1) E := pq Iff.rfl
theorem u_or : dOr t u τ M Qb E = t τ M (fun b M1 => if b = true then Qb true M1 else u τ M1 Qb E) E := pq Iff.rfl
theorem u_not : dNot t τ M Qb E = t τ M (fun b M1 => Qb (!b) M1) E := pq Iff.rfl
theorem u_if : dIf t ta tb τ M Q E = t τ M (fun b M1 => if b = true then ta τ M1 Q E else tb τ M1 Q E) E := pq Iff.rfl
theorem u_anil : daNil τ M Ql E = Ql [] M := pq Iff.rfl
theorem u_acons : daCons te tl τ M Ql E = te τ M (fun d M1 => tl τ M1 (fun ds M2 => Ql (d :: ds) M2) E) E := pq Iff.rfl
theorem u_lst : dLst tl τ M Q E = tl τ M (fun ds M1 => ds.length ≤ 16777216 ∧ Q (.lst ds) M1) E := pq Iff.rfl
theorem u_lstM : dLstM tl τ M Q E = tl τ M (fun ds M1 => ds.length ≤ 16777216 ∧ ∀ p, M1 p = none → Q (.ref p) (put M1 p (.lst ds))) E := pq Iff.rfl
theorem u_tup : dTup tl τ M Q E = tl τ M (fun ds M1 => ds.length ≤ 16777216 ∧ Q (.tup ds) M1) E := pq Iff.rfl
theorem u_call : dCall sp tl τ M Q E = tl τ M (fun ds M1 => callK (K := Q) (L := E) ⟨⟩ ⟨⟩ sp ds M1) E := pq Iff.rfl
theorem u_sl : dSl te l h τ M Q E = te τ M (fun d M1 => l τ M1 (fun lo M2 => h τ M2 (fun hi M3 => slK (K := Q) ⟨⟩ d lo hi M3) E) E) E := pq Iff.rfl
theorem u_onone : doNone τ M Qo E = Qo none M := pq Iff.rfl
theorem u_cb : dCB gc tl τ M Q E = tl τ M (fun ds M1 => cbK (K := Q) ⟨⟩ gc ds M1) E := pq Iff.rfl
theorem u_mt : dMt T gm to tl τ M Q E = to τ M (fun d M1 => isTy T M1 d ∧ tl τ M1 (fun ds M2 => mtK (K := Q) ⟨⟩ gm d ds M2) E) E := pq Iff.rfl
theorem u_mt0 : dMt0 T gm to τ M Q E = to τ M (fun d M1 => isTy T M1 d ∧ mtK (K := Q) ⟨⟩ gm d [] M1) E := pq Iff.rfl
theorem u_pass : dPass D0 τ M = D0.nx τ M := pq Iff.rfl
theorem u_seq : dSeq a b D0 τ M = a { D0 with nx := b D0 } τ M := pq Iff.rfl
theorem u_set : dSet i te D0 τ M = te τ M (fun d M1 => D0.nx (τ.set i (some d)) M1) (D0.ex τ) := pq Iff.rfl
theorem u_asg : dAsg te tg D0 τ M = te τ M (fun d M1 => tg d τ M1 D0.nx (D0.ex τ)) (D0.ex τ) := pq Iff.rfl
theorem u_drop : dDrop te D0 τ M = te τ M (fun _ M1 => D0.nx τ M1) (D0.ex τ) := pq Iff.rfl
theorem u_ret : dRet te D0 τ M = te τ M D0.rt (D0.ex τ) := pq Iff.rfl
theorem u_retN : dRetN D0 τ M = D0.rt .non M := pq Iff.rfl
theorem u_ifs : dIfS t a b D0 τ M = t τ M (fun c M1 => if c = true then a D0 τ M1 else b D0 τ M1) (D0.ex τ) := pq Iff.rfl
theorem u_brk : dBrk D0 τ M = D0.bk τ M := pq Iff.rfl
theorem u_cnt : dCnt D0 τ M = D0.ct τ M := pq Iff.rfl
theorem u_for : dFor ti tg a D0 τ M = ti τ M (fun ds M1 => wFor tg a D0 ds τ M1) (D0.ex τ) := pq Iff.rfl
theorem u_gname : dgName i d τ M Qs E = Qs (τ.set i (some d)) M := pq Iff.rfl
theorem u_gsub : dgSub ta tb gs d τ M Qs E = ta τ M (fun o M1 => tb τ M1 (fun i M2 => setK (K := fun M3 => Qs τ M3) ⟨⟩ gs o i d M2) E) E := pq Iff.rfl
theorem u_fs : dFs ts τ M Q E = dJs ts [] τ M (fun out M1 => Q (.str out) M1) E := pq Iff.rfl
theorem u_fmt : dFmt te τ M Q E = te τ M (fun x M1 => fmtK (K := Q) ⟨⟩ x M1) E := pq Iff.rfl
theorem u_js0 : dJs [] acc τ M Qt E = Qt acc M := pq Iff.rfl
theorem u_js : dJs (te :: ts) acc τ M Qt E = te τ M (fun x M1 => onStr (K := fun y => (acc ++ y).length ≤ 16777216 ∧ dJs ts (acc ++ y) τ M1 Qt E) ⟨⟩ x) E := pq Iff.rfl
theorem u_em : dEm p te τ M Nx = te τ M (fun y M1 => ∃ acc, M1 p = some (.lst acc) ∧ acc.length < sizeLine ∧ Nx (put M1 p (.lst (acc ++ [y])))) noX := pq Iff.rfl
def onRef {K : Addr → Prop} (_ : Lk K) (d : D) : Prop := match d with
  | .ref a => K a
  | _ => False
theorem onRef_r {K : Addr → Prop} {a : Addr} : onRef (K := K) ⟨⟩ (.ref a) = K a := pq Iff.rfl
theorem u_dict {prs : List (DTE × DTE)} : dDict prs τ M Q E = ∀ p, M p = none → dPairs prs τ (put M p (.dK [])) (fun ps M2 => M2 p = some (.dK []) ∧ ∃ kvs : List (DKey × D), ps = kvs.map (fun q => (kD q.1, q.2)) ∧ kvs.length ≤ 15 ∧ Q (.ref p) (put M2 p (.dK (mergeD [] kvs)))) E := pq Iff.rfl
theorem u_dict0 : dDict0 τ M Q E = ∀ p, M p = none → Q (.ref p) (put M p (.dK [])) := pq Iff.rfl
theorem u_dp0 {Qp : List (D × D) → Mu → Prop} : dPairs [] τ M Qp E = Qp [] M := pq Iff.rfl
theorem u_dp1 {Qp : List (D × D) → Mu → Prop} {prs : List (DTE × DTE)} : dPairs ((ta, tb) :: prs) τ M Qp E = ta τ M (fun x M1 => tb τ M1 (fun y M2 => dPairs prs τ M2 (fun ps M3 => Qp ((x, y) :: ps) M3) E) E) E := pq Iff.rfl
def starK {K : List D → Mu → Prop} (_ : Lk K) (d : D) (M : Mu) : Prop := match d with
  | .lst xs => K xs M
  | .tup xs => K xs M
  | .ref a => (match M a with
    | some (.lst xs) => K xs M
    | _ => False)
  | _ => False
theorem star_l {xs : List D} : starK (K := Ql) ⟨⟩ (.lst xs) M = Ql xs M := pq Iff.rfl
theorem star_t {xs : List D} : starK (K := Ql) ⟨⟩ (.tup xs) M = Ql xs M := pq Iff.rfl
theorem star_r {a : Addr} : starK (K := Ql) ⟨⟩ (.ref a) M = onML (K := fun xs => Ql xs M) ⟨⟩ (M a) := pq Iff.rfl
theorem u_star : dStar te tl τ M Ql E = te τ M (fun d M1 => starK (K := fun xs M2 => tl τ M2 (fun ys M3 => Ql (xs ++ ys) M3) E) ⟨⟩ d M1) E := pq Iff.rfl
theorem u_ref {Qr : Addr × List D → Mu → Prop} : diRef te τ M Qr E = te τ M (fun d M1 => onRef (K := fun p => onML (K := fun ds => Qr (p, ds) M1) ⟨⟩ (M1 p)) ⟨⟩ d) E := by
  unfold diRef
  congr 1
theorem u_forR {tr : DTR} : dForR tr tg a D0 τ M = tr τ M (fun q M1 => wForR q.1 q.2 tg a D0 q.2 τ M1) (D0.ex τ) := pq Iff.rfl
theorem u_forK : dForK te tg a D0 τ M = te τ M (fun d M1 => onRef (K := fun p => onFK (K := fun kvs u => wForK p kvs u tg a D0 (keysOf kvs) τ M1) ⟨⟩ (M1 p)) ⟨⟩ d) (D0.ex τ) := pq Iff.rfl
theorem u_lock : dLock i a D0 τ M = onVar (K := fun d => onRef (K := fun p => onDK (K := fun kvs => ∀ u, a ⟨fun τ' M' => M' p = some (.fK kvs u) ∧ D0.nx τ' (put M' p (.dK kvs)), fun d M' => M' p = some (.fK kvs u) ∧ D0.rt d (put M' p (.dK kvs)), fun τ' M' => M' p = some (.fK kvs u) ∧ D0.bk τ' (put M' p (.dK kvs)),
    fun τ' M' => M' p = some (.fK kvs u) ∧ D0.ct τ' (put M' p (.dK kvs)), fun _ _ _ => False⟩ τ (put M p (.fK kvs u))) ⟨⟩ (M p)) ⟨⟩ d) ⟨⟩ τ[i]? := by
  unfold dLock
  cases τ[i]? with
  | none => rfl
  | some o => cases o with
    | none => rfl
    | some d => cases d with
      | _ => rfl
theorem u_kd {kvs : List (Tx × Tx)} : dKd kvs te τ M Q E = te τ M (fun d M1 => onStr (K := fun z => onSome (K := fun v => Q (.str v) M1) ⟨⟩ (kvs.lookup z)) ⟨⟩ d) E := by
  unfold dKd
  congr 1
  funext d M1
  cases d with
  | str z => show (match kvs.lookup z with | some v => Q (.str v) M1 | none => False) = onSome (K := fun v => Q (.str v) M1) ⟨⟩ (kvs.lookup z); cases kvs.lookup z <;> rfl
  | _ => rfl
theorem u_yes : dYes τ M Qb E = Qb true M := pq Iff.rfl
theorem u_never : dNever D0 τ M = False := pq Iff.rfl
end
end DL

namespace DL
open PySem L2 He

/-! ### own classes: promises by positional arguments -/
section
variable {X : Cx} {W : WX} {k : Nat} {A : Around} {g : Addr} {sp : Sp} {pins : List (Addr × Obj)} {σ : L2.St} {H : Hp} {s : Shared} {Q : VK} {us : List Value} {vs : List V}
theorem run_S (F : FnR X.prog X.w X.K X.mg X.base (L2.CX X.prog X.w) k g sp) (tk : Takes X W) (hr : Room k A) (e0 : Env0 X.prog X.w X.K X.mg X.base A X.stack s H) (I : Inv X pins σ H s) (r : Vals vs us) (h : sp vs H Q (WE W σ)) :
    wpAny (model X.prog X.w) A (call (.ref g) us) (EP X pins σ Q) X.xe s := by
  refine wpAny_call (codeAny_mono (F A X.stack s H us vs Q (WE W σ) hr e0 r h) fun r s' hq => ?_)
  cases r with
  | error e => exact passAt tk σ pins H s e s' I hq
  | ok fl =>
    cases fl with
    | ret u => exact I.after hq
    | next => exact False.elim hq
    | brk => exact False.elim hq
    | cont => exact False.elim hq
end
/-- what stands at the class C by the name m is a def that keeps sp -/
structure FnC (P : Program) (w : World) (K : PySem.W.Frag) (mg : Str → Option Value) (base : Heap) (k : Nat) (C m : Str) (sp : DSp) : Prop where
  at_ : PySem.W.findIn K (.ref (ga K C)) m = some (some (.ref (ma K (ga K C) m)))
  fn : PySem.W.isFn K (.ref (ma K (ga K C) m)) = true
  kp : PySem.W.keepIn K (.ref (ma K (ga K C) m)) = true
  run : FnR P w K mg base (L2.CX P w) k (ma K (ga K C) m) (lsp K sp)
theorem FnC.mono {P : Program} {w : World} {K : PySem.W.Frag} {mg : Str → Option Value} {base : Heap} {j k : Nat} {C m : Str} {sp : DSp} (F : FnC P w K mg base j C m sp) (h : j ≤ k) : FnC P w K mg base k C m sp := ⟨F.at_, F.fn, F.kp, F.run.mono h⟩
theorem _root_.L2.FnOk.fnR {P : Program} {w : World} {K : PySem.W.Frag} {mg : Str → Option Value} {base : Heap} {CX : CXT} {k : Nat} {f : Addr} {fd : FuncData} {ps : List Str} {sp : Sp} (F : FnOk P w K mg base CX k f fd ps sp) (hb : Binds K fd ps []) : FnR P w K mg base CX k f sp := by
  have q := F.raw hb .nil
  simpa using q
theorem FnC.of {P : Program} {w : World} {K : PySem.W.Frag} {mg : Str → Option Value} {base : Heap} {k : Nat} {C m : Str} {fd : FuncData} {ps : List Str} {sp : DSp} (F : FnOk P w K mg base (L2.CX P w) k (ma K (ga K C) m) fd ps (lsp K sp))
    (M : Meth K (ga K C) m (ma K (ga K C) m)) (hb : Binds K fd ps []) : FnC P w K mg base k C m sp := ⟨M.at_, M.fn, M.kp, F.fnR hb⟩
theorem FnC.ofR {P : Program} {w : World} {K : PySem.W.Frag} {mg : Str → Option Value} {base : Heap} {k : Nat} {C m : Str} {sp : DSp} (F : FnR P w K mg base (L2.CX P w) k (ma K (ga K C) m) (lsp K sp))
    (M : Meth K (ga K C) m (ma K (ga K C) m)) : FnC P w K mg base k C m sp := ⟨M.at_, M.fn, M.kp, F⟩
theorem FnC.meth {P : Program} {w : World} {K : PySem.W.Frag} {mg : Str → Option Value} {base : Heap} {k : Nat} {C m : Str} {sp : DSp} (F : FnC P w K mg base k C m sp) : Meth K (ga K C) m (ma K (ga K C) m) := ⟨F.at_, F.fn, F.kp⟩

section
variable {K : PySem.W.Frag} {W : WX} {τ : DSt} {M : Mu} {σ : L2.St} {H : Hp} {E0 : DX} {sp : DSp} {ds : List D} {vs : List V} {G : DK} {Q1 : VK}
theorem Sit.call {α β : Type} {R : Mu → Hp → α → β → Prop} {Q0 : α → Mu → Prop} {Q : β → Hp → Prop} (S : Sit K W R τ M σ H Q0 E0 Q) (r : Reps K M H ds vs) (h : sp ds M G E0)
    (k : ∀ d M1 v H1, G d M1 → Rep K M1 H1 d v → Sit K W R τ M1 σ H1 Q0 E0 Q → Stp M H M1 H1 → Q1 v H1) : lsp K sp vs H Q1 (WE W σ) :=
  ⟨ds, M, G, E0, r, S.co, h, fun d M' v H' g r c s => k d M' v H' g r (S.go c s) s, S.e⟩
theorem SitS.call {D0 : DEnds} {D1 : Ends} (S : SitS K W τ M σ H D0 D1) (r : Reps K M H ds vs) (h : sp ds M G (D0.ex τ))
    (k : ∀ d M1 v H1, G d M1 → Rep K M1 H1 d v → SitS K W τ M1 σ H1 D0 D1 → Stp M H M1 H1 → Q1 v H1) : lsp K sp vs H Q1 (WE W σ) :=
  ⟨ds, M, G, D0.ex τ, r, S.co, h, fun d M' v H' g r c s => k d M' v H' g r (S.go (S.rs.stp s) c s) s, fun x M' c d H' h r c' s => S.xc x τ M' c d σ H' h r (S.rs.stp s) c' s⟩
theorem SitG.call {Q0 : DSt → Mu → Prop} {Q : L2.St → Hp → Prop} (S : SitG K W τ M σ H Q0 E0 Q) (r : Reps K M H ds vs) (h : sp ds M G E0)
    (k : ∀ d M1 v H1, G d M1 → Rep K M1 H1 d v → SitG K W τ M1 σ H1 Q0 E0 Q → Stp M H M1 H1 → Q1 v H1) : lsp K sp vs H Q1 (WE W σ) :=
  ⟨ds, M, G, E0, r, S.co, h, fun d M' v H' g r c s => k d M' v H' g r ⟨S.rs.stp s, c, fun a b c d h r' c' s' => S.q a b c d h r' c' (s.trans s'), fun x M' c d H' h r c' s' => S.e x M' c d H' h r c' (s.trans s')⟩ s, S.e⟩
theorem mu_ins {a : Addr} {C : Str} {fs : List (Str × D)} (c : Cor K M H) (e : M a = some (.ins C fs)) : ∃ dx gs, H a = some (.ins (ga K C) dx gs) ∧ gs.map (·.1) = fs.map (·.1) ∧ Reps K M H (fs.map (·.2)) (gs.map (·.2)) := by
  obtain ⟨o, h1, dx, gs, rfl, h2, h3⟩ := c a _ e
  exact ⟨dx, gs, h1, h2, h3⟩
end
/-! fields by names -/
def putG {α : Type} (f : Str) (x : α) : List (Str × α) → List (Str × α)
  | [] => [(f, x)]
  | (g, y) :: r => if g = f then (g, x) :: r else (g, y) :: putG f x r
theorem putG_F (f : Str) (v : V) : ∀ fs : List (Str × V), putG f v fs = putF f v fs
  | [] => rfl
  | (g, x) :: r => by
    unfold putG putF
    rw [putG_F f v r]
section
variable {K : PySem.W.Frag} {M : Mu} {H : Hp}
theorem fld_get {f : Str} : ∀ {fs : List (Str × D)} {gs : List (Str × V)} {d : D}, gs.map (·.1) = fs.map (·.1) → Reps K M H (fs.map (·.2)) (gs.map (·.2)) → fs.lookup f = some d → ∃ v, gs.lookup f = some v ∧ Rep K M H d v
  | [], _, _, _, _, e => by cases e
  | (g, x) :: r, [], _, h, _, _ => by cases h
  | (g, x) :: r, (g', y) :: r', d, h, hr, e => by
    obtain ⟨h1, h2⟩ := List.cons.inj h
    have h1 : g' = g := h1
    subst h1
    obtain ⟨v, u, e1, r1, r2⟩ := hr.uncons
    obtain ⟨e2, e3⟩ := List.cons.inj e1
    subst e2 e3
    rw [List.lookup_cons] at e ⊢
    cases q : (f == g') with
    | true =>
      rw [q] at e
      cases e
      exact ⟨_, rfl, r1⟩
    | false =>
      rw [q] at e
      exact fld_get h2 r2 e
theorem fld_put {f : Str} {d : D} {v : V} (rd : Rep K M H d v) : ∀ {fs : List (Str × D)} {gs : List (Str × V)}, gs.map (·.1) = fs.map (·.1) → Reps K M H (fs.map (·.2)) (gs.map (·.2)) →
    (putF f v gs).map (·.1) = (putG f d fs).map (·.1) ∧ Reps K M H ((putG f d fs).map (·.2)) ((putF f v gs).map (·.2))
  | [], [], _, _ => ⟨rfl, .cons rd .nil⟩
  | [], _ :: _, h, _ => by cases h
  | _ :: _, [], h, _ => by cases h
  | (g, x) :: r, (g', y) :: r', h, hr => by
    obtain ⟨h1, h2⟩ := List.cons.inj h
    have h1 : g' = g := h1
    subst h1
    obtain ⟨w, u, e1, r1, r2⟩ := hr.uncons
    obtain ⟨e2, e3⟩ := List.cons.inj e1
    subst e2 e3
    unfold putF putG
    by_cases q : g' = f
    · rw [if_pos q, if_pos q]
      exact ⟨congrArg (g' :: ·) h2, .cons rd r2⟩
    · rw [if_neg q, if_neg q]
      obtain ⟨i1, i2⟩ := fld_put rd h2 r2
      exact ⟨congrArg (g' :: ·) i1, .cons r1 i2⟩
end

/-! ### readings -/
def dFld (C f : Str) (te : DTE) : DTE := fun τ M Q E => te τ M (fun d M1 => match d with
  | .ref a => (match M1 a with
    | some (.ins c fs) => c = C ∧ (match fs.lookup f with
      | some x => Q x M1
      | none => False)
    | _ => False)
  | _ => False) E
def dSetF (C f : Str) (to tv : DTE) : DTS := fun D0 τ M => tv τ M (fun y M1 => to τ M1 (fun d M2 => match d with
  | .ref a => (match M2 a with
    | some (.ins c fs) => c = C ∧ fs.length < 1000 ∧ D0.nx τ (put M2 a (.ins C (putG f y fs)))
    | _ => False)
  | _ => False) (D0.ex τ)) (D0.ex τ)
def dMake (C : Str) (sp : DSp) (ta : DTA) : DTE := fun τ M Q E => ta τ M (fun ds M1 => ∀ p, M1 p = none → sp (.ref p :: ds) (put M1 p (.ins C [])) (fun d M2 => d = .non ∧ Q (.ref p) M2) E) E
/-- the instance of C that is meant -/
def isIns (C : Str) (M : Mu) (d : D) : Prop := match d with
  | .ref a => (match M a with
    | some (.ins c _) => c = C
    | _ => False)
  | _ => False
/-- an operator, a method by its def: x is an instance of C -/
def dMet (C : Str) (sp : DSp) (to : DTE) (ta : DTA) : DTE := fun τ M Q E => to τ M (fun x M1 => ta τ M1 (fun ds M2 => isIns C M2 x ∧ sp (x :: ds) M2 Q E) E) E
/-- x op y by x's class | y's class -/
def dBinL (C : Str) (sp : DSp) (ta tb : DTE) : DTE := fun τ M Q E => ta τ M (fun x M1 => tb τ M1 (fun y M2 => isIns C M2 x ∧ ((∃ z, y = .str z) ∨ isIns C M2 y) ∧ sp [x, y] M2 Q E) E) E
def dBinR (C : Str) (sp : DSp) (ta tb : DTE) : DTE := fun τ M Q E => ta τ M (fun x M1 => tb τ M1 (fun y M2 => (∃ z, x = .str z) ∧ isIns C M2 y ∧ sp [y, x] M2 Q E) E) E
/-- y in x -/
def dInO (C : Str) (sp : DSp) (ta tb : DTE) : DTE := fun τ M Q E => ta τ M (fun y M1 => tb τ M1 (fun x M2 => isIns C M2 x ∧ sp [x, y] M2 (fun r M3 => match r with
  | .bl b => Q (.bl b) M3
  | _ => False) E) E) E
/-- x[y] -/
def dGetO (C : Str) (sp : DSp) (ta tb : DTE) : DTE := fun τ M Q E => ta τ M (fun x M1 => tb τ M1 (fun y M2 => isIns C M2 x ∧ sp [x, y] M2 Q E) E) E
/-- x[y] = v -/
def dgSetO (C : Str) (sp : DSp) (to ti : DTE) : DTG := fun d τ M Q E => to τ M (fun x M1 => ti τ M1 (fun y M2 => isIns C M2 x ∧ sp [x, y, d] M2 (fun _ M3 => Q τ M3) E) E) E
/-- x op= e, x a name -/
def dAugO (C : Str) (sp : DSp) (i : Nat) (te : DTE) : DTS := fun D0 τ M => match τ[i]? with
  | some (some x) => te τ M (fun y M1 => isIns C M1 x ∧ sp [x, y] M1 (fun r M2 => D0.nx (τ.set i (some r)) M2) (D0.ex τ)) (D0.ex τ)
  | _ => False
def dProp (C : Str) (sp : DSp) (te : DTE) : DTE := fun τ M Q E => te τ M (fun d M1 => isIns C M1 d ∧ sp [d] M1 Q E) E
/-- a field that is a list: what len, list and a walk over the object ask -/
def onRows (C f : Str) (M : Mu) (d : D) (K : List D → Prop) : Prop := match d with
  | .ref a => (match M a with
    | some (.ins c fs) => c = C ∧ (match fs.lookup f with
      | some (.lst ds) => K ds
      | _ => False)
    | _ => False)
  | _ => False
def gLenO (C f : Str) : DCb := fun xs M Q => match xs with
  | [d] => onRows C f M d fun ds => Q (.int ds.length) M
  | _ => False
def gListO (C f : Str) : DCb := fun xs M Q => match xs with
  | [d] => onRows C f M d fun ds => Q (.lst ds) M
  | _ => False
def gListOM (C f : Str) : DCb := fun xs M Q => match xs with
  | [d] => onRows C f M d fun ds => ∀ p, M p = none → Q (.ref p) (put M p (.lst ds))
  | _ => False
theorem isIns_at {C : Str} {K : PySem.W.Frag} {M : Mu} {H : Hp} {x : D} {v : V} (h : isIns C M x) (r : Rep K M H x v) (c : Cor K M H) : ∃ a fs dx gs, x = .ref a ∧ v = .ref a ∧ M a = some (.ins C fs) ∧ H a = some (.ins (ga K C) dx gs) ∧ gs.map (·.1) = fs.map (·.1) := by
  cases x with
  | ref a =>
    cases r
    have h2 : (match M a with
      | some (.ins c _) => c = C
      | _ => False) := h
    cases e : M a with
    | none => rw [e] at h2; exact h2.elim
    | some mo =>
      rw [e] at h2
      cases mo with
      | ins c' fs =>
        cases h2
        obtain ⟨dx, gs, h1, h3, _⟩ := mu_ins c e
        exact ⟨a, fs, dx, gs, rfl, rfl, e, h1, h3⟩
      | _ => exact h2.elim
  | _ => exact h.elim
theorem onRows_at {C f : Str} {K : PySem.W.Frag} {M : Mu} {H : Hp} {x : D} {v : V} {L : List D → Prop} (h : onRows C f M x L) (r : Rep K M H x v) (c : Cor K M H) :
    ∃ a dx gs l ds vs, v = .ref a ∧ H a = some (.ins (ga K C) dx gs) ∧ gs.lookup f = some (.ref l) ∧ H l = some (.lst vs) ∧ M l = none ∧ Reps K M H ds vs ∧ L ds := by
  cases x with
  | ref a =>
    cases r
    have h2 : (match M a with
      | some (.ins c fs) => c = C ∧ (match fs.lookup f with
        | some (.lst ds) => L ds
        | _ => False)
      | _ => False) := h
    cases e : M a with
    | none => rw [e] at h2; exact h2.elim
    | some mo =>
      rw [e] at h2
      cases mo with
      | ins c' fs =>
        obtain ⟨h3, h4⟩ := h2
        subst h3
        obtain ⟨dx, gs, h1, h3, h5⟩ := mu_ins c e
        cases q : fs.lookup f with
        | none => rw [q] at h4; exact h4.elim
        | some d =>
          rw [q] at h4
          cases d with
          | lst ds =>
            obtain ⟨v, h6, h7⟩ := fld_get h3 h5 q
            obtain ⟨l, vs, rfl, h8, h9, h10⟩ := rep_of_lst h7
            exact ⟨a, dx, gs, l, ds, vs, rfl, h1, h6, h8, h9, h10, h4⟩
          | _ => exact h4.elim
      | _ => exact h2.elim
  | _ => exact h.elim
end DL

namespace DL
open PySem L2 He
abbrev FC (X : Cx) (k : Nat) (C m : Str) (sp : DSp) : Prop := FnC X.prog X.w X.K X.mg X.base k C m sp
section
variable {X : Cx} {W : WX} {a b e o i : Expr} {es : List Expr} {ta tb te to tv ti : DTE} {tl : DTA} {C f m x : Str} {sp : DSp} {k : Nat} {pos pos' apos p p2 : Pos}
/-- the class as a value -/
theorem de_cls (hm : X.mg C = some (.ref (ga X.K C))) (hg : Gl X C := by rfl) (hd : (C == ("__debug__" : Str)) = false := by decide) : DE X W (.Name C pos) (dC (.cl C)) :=
  de_glob (v := .ref (ga X.K C)) hg hm rfl (fun M H => rfl) hd
/-! ### fields -/
theorem de_fld (c : Cls X.K (ga X.K C)) (n : NoAttr X.K (ga X.K C) f) (he : DE X W e te) (hb : attributeBase e f X.env (eval e X.env) = eval e X.env := by rfl) : DE X W (.Attribute e f pos) (dFld C f te) :=
  PE.of (pe_fld he hb) fun σ H Q ⟨τ, M, Q0, E0, S, h⟩ => S.sub h fun d M1 v H1 h1 r1 S1 s1 => by
    cases d with
    | ref a =>
      cases r1
      have h2 : (match M1 a with
        | some (.ins c fs) => c = C ∧ (match fs.lookup f with
          | some x => Q0 x M1
          | none => False)
        | _ => False) := h1
      cases q : M1 a with
      | none => rw [q] at h2; exact h2.elim
      | some mo =>
        rw [q] at h2
        cases mo with
        | ins c' fs =>
          obtain ⟨h3, h4⟩ := h2
          subst h3
          obtain ⟨dx, gs, g1, g2, g3⟩ := mu_ins S1.co q
          cases e1 : fs.lookup f with
          | none => rw [e1] at h4; exact h4.elim
          | some y =>
            rw [e1] at h4
            obtain ⟨v, g4, g5⟩ := fld_get g2 g3 e1
            exact ⟨a, _, dx, gs, v, rfl, g1, c, n, g4, S1.end_ h4 g5⟩
        | _ => exact h2.elim
    | _ => exact h1.elim
theorem ds_setF (c : Cls X.K (ga X.K C)) (n : NoAttr X.K (ga X.K C) f) (ho : DE X W o to) (hv : DE X W e tv) (hs : swapsWith e (some (.Attribute o f pos')) pos.line X.env = pure false := by rfl) : DS X W (.Assign [.Attribute o f pos'] e pos) (dSetF C f to tv) :=
  PS.of (ps_fld ho hv hs) fun D1 σ H ⟨τ, M, D0, S, h⟩ => S.sub h fun y M1 v1 H1 h1 r1 S1 s1 => S1.sub h1 fun d M2 v2 H2 h2 r2 S2 s2 => by
    cases d with
    | ref a =>
      cases r2
      have h3 : (match M2 a with
        | some (.ins c fs) => c = C ∧ fs.length < 1000 ∧ D0.nx τ (put M2 a (.ins C (putG f y fs)))
        | _ => False) := h2
      cases q : M2 a with
      | none => rw [q] at h3; exact h3.elim
      | some mo =>
        rw [q] at h3
        cases mo with
        | ins c' fs =>
          obtain ⟨h4, h5, h6⟩ := h3
          subst h4
          obtain ⟨dx, gs, g1, g2, g3⟩ := mu_ins S2.co q
          obtain ⟨p1, p3⟩ := fld_put (f := f) (r1.stp s2) g2 g3
          have hl := congrArg List.length g2
          rw [List.length_map, List.length_map] at hl
          have st : Stp M2 H2 (put M2 a (.ins c' (putG f y fs))) (upd H2 a (.ins (ga X.K c') dx (putF f v1 gs))) := Stp.write q
          exact ⟨a, _, dx, gs, rfl, g1, c, n, by rw [hl]; exact h5, S2.nx τ _ σ _ h6 (S2.rs.stp st) (S2.co.write q ⟨dx, _, rfl, p1, p3⟩) st⟩
        | _ => exact h3.elim
    | _ => exact h2.elim

/-! ### C(..) -/
theorem run_makeS {pins : List (Addr × Obj)} {σ : L2.St} {H : Hp} {s : Shared} {Q : VK} {us : List Value} {vs : List V} {Ca fa : Addr} {spv : Sp} (M : Mk X.K Ca fa) (F : FnR X.prog X.w X.K X.mg X.base (L2.CX X.prog X.w) k fa spv) (tk : Takes X W) (hr : Room (k + 1) X.A) (I : Inv X pins σ H s) (r : Vals vs us)
    (h : ∀ x dx, H x = Option.none → H dx = Option.none → dx ≠ x → spv (V.ref x :: vs) (upd (upd H dx (.own x)) x (.ins Ca dx [])) (fun v H2 => v = .non ∧ Q (.ref x) H2) (WE W σ)) :
    wpAny (model X.prog X.w) X.A (call (.ref Ca) us) (EP X pins σ Q) X.xe s := by
  have hq := h (s.heap.objs.size + 1) s.heap.objs.size (I.hok.fresh (Nat.le_succ _)) (I.hok.fresh (Nat.le_refl _)) (Nat.ne_of_lt (Nat.lt_succ_self _))
  have I2 := Inv.made (C := Ca) I
  have r2 : Vals (V.ref (s.heap.objs.size + 1) :: vs) (Value.ref (s.heap.objs.size + 1) :: us) := .cons rfl r
  refine wpAny_call (make_map (f := fa) I.kIn M.makes M.init (beq_iff_eq.mp M.fn) (codeAny_mono (F _ X.stack _ _ (Value.ref (s.heap.objs.size + 1) :: us) _ _ (WE W σ) (hr.make Ca us []) (I2.env0.make Ca us []) r2 hq) fun r s' hq' => ?_))
  cases r with
  | error e => exact passAt tk σ pins _ _ e s' I2 hq'
  | ok fl =>
    cases fl with
    | ret u =>
      obtain ⟨v, H', I3, rv, ev, q3⟩ := I2.after hq'
      subst ev
      exact ⟨rv, ⟨V.ref (s.heap.objs.size + 1), H', I3, rfl, q3⟩⟩
    | next => exact False.elim hq'
    | brk => exact False.elim hq'
    | cont => exact False.elim hq'
theorem make_of {τ : DSt} {M : Mu} {σ : L2.St} {H : Hp} {Q0 : DK} {E0 : DX} {Q : VK} {ds : List D} {vs : List V} (S : Sit X.K W (RD X.K) τ M σ H Q0 E0 Q) (r : Reps X.K M H ds vs)
    (h : ∀ p, M p = none → sp (.ref p :: ds) (put M p (.ins C [])) (fun d M2 => d = .non ∧ Q0 (.ref p) M2) E0) (x dx : Addr) (hx : H x = none) (hd : H dx = none) (hn : dx ≠ x) :
    lsp X.K sp (V.ref x :: vs) (upd (upd H dx (.own x)) x (.ins (ga X.K C) dx [])) (fun v H2 => v = .non ∧ Q (.ref x) H2) (WE W σ) := by
  have s1 : Stp M H M (upd H dx (.own x)) := Stp.new hd
  have hx' : upd H dx (.own x) x = none := by rw [upd_ne (Ne.symm hn)]; exact hx
  have s2 : Stp M (upd H dx (.own x)) (put M x (.ins C [])) (upd (upd H dx (.own x)) x (.ins (ga X.K C) dx [])) := Stp.newM hx'
  have st := s1.trans s2
  exact ⟨.ref x :: ds, _, _, E0, .cons rfl (r.stp st), (S.co.new hd).newM hx' ⟨dx, [], rfl, rfl, .nil⟩, h x (S.co.free hx),
    fun d M' v H' q r c s' => by obtain ⟨rfl, q⟩ := q; exact ⟨r, S.q _ M' _ H' q rfl c (st.trans s')⟩, fun y M' c d H' q r c' s' => S.e y M' c d H' q r c' (st.trans s')⟩
theorem de_make (F : FC X k C "__init__" sp) (M : Mk X.K (ga X.K C) (ma X.K (ga X.K C) "__init__")) (G : Gd X W) (hm : X.mg C = some (.ref (ga X.K C))) (hr : Room (k + 1) X.A) (ha : DA X W (e :: es) tl) (hg : Gl X C := by rfl) (hdb : (C == ("__debug__" : Str)) = false := by decide)
    (he : starEach (e :: es) X.env = (false, eval e X.env) :: starEach es X.env := by rfl) (hpl : (backTo pos (starEach es X.env)).any (·.1) = false := by rfl) : DE X W (.Call (.Name C p) (e :: es) [] pos) (dMake C sp tl) := by
  refine ⟨fun pins s σ H Q I h => ?_⟩
  refine wpAny_Call_Name_kw (ld_glob I hg hm ?_ hdb)
  obtain ⟨τ, M0, Q0, E0, S, h⟩ := h
  refine PySem.W.callWith_K (h₀ := X.base) I.ok.mod.kin M.kp (thn (ha.run pos pins s σ H _ I (S.sub (Q1 := fun vs H1 => ∀ x dx, H1 x = none → H1 dx = none → dx ≠ x → lsp X.K sp (V.ref x :: vs) (upd (upd H1 dx (.own x)) x (.ins (ga X.K C) dx [])) (fun v H2 => v = .non ∧ Q (.ref x) H2) (WE W σ)) h
    fun ds M1 vs H1 h1 r1 S1 s1 => make_of S1 r1 h1)) fun us s1 ⟨vs, H1, I1, r, q⟩ => ⟨I1.kIn, ?_⟩) he hpl
  exact run_makeS M F.run G.tk hr I1 r q
theorem de_make0 (F : FC X k C "__init__" sp) (M : Mk X.K (ga X.K C) (ma X.K (ga X.K C) "__init__")) (G : Gd X W) (hm : X.mg C = some (.ref (ga X.K C))) (hr : Room (k + 1) X.A) (hg : Gl X C := by rfl) (hdb : (C == ("__debug__" : Str)) = false := by decide) :
    DE X W (.Call (.Name C p) [] [] pos) (dMake C sp daNil) := by
  refine ⟨fun pins s σ H Q I h => ?_⟩
  refine wpAny_Call_Name_kw (ld_glob I hg hm ?_ hdb)
  obtain ⟨τ, M0, Q0, E0, S, h⟩ := h
  exact PySem.W.callWith_K0 I.kIn M.kp (run_makeS (us := []) M F.run G.tk hr I .nil (make_of S .nil h))
def starP (M : Mu) (L : List D → Prop) : D → Prop
  | .lst xs => L xs
  | .tup xs => L xs
  | .ref a => (match M a with
    | some (.lst xs) => L xs
    | _ => False)
  | _ => False
theorem star_D {K : PySem.W.Frag} {M : Mu} {H : Hp} {d : D} {v : V} {L : List D → Prop} (r : Rep K M H d v) (c : Cor K M H) (h : starP M L d) : ∃ a ds vs, v = .ref a ∧ (SqT K H a vs ∨ SqL K H a vs) ∧ Reps K M H ds vs ∧ L ds := by
  cases d with
  | lst ds =>
    obtain ⟨a, vs, rfl, ha, _, ra⟩ := rep_of_lst r
    exact ⟨a, ds, vs, rfl, .inr (.inl (.inl ha)), ra, h⟩
  | tup ds =>
    obtain ⟨a, vs, rfl, ha, ra⟩ := rep_of_tup r
    exact ⟨a, ds, vs, rfl, .inl (sqT_of ha), ra, h⟩
  | ref a =>
    cases r
    have h2 : (match M a with
      | some (.lst xs) => L xs
      | _ => False) := h
    cases e : M a with
    | none => rw [e] at h2; exact h2.elim
    | some mo =>
      rw [e] at h2
      cases mo with
      | lst ds =>
        obtain ⟨vs, ha, ra⟩ := mu_lst c e
        exact ⟨a, ds, vs, rfl, .inr (.inl (.inl ha)), ra, h2⟩
      | _ => exact h2.elim
  | _ => exact h.elim
theorem de_makeS (F : FC X k C "__init__" sp) (M : Mk X.K (ga X.K C) (ma X.K (ga X.K C) "__init__")) (G : Gd X W) (hm : X.mg C = some (.ref (ga X.K C))) (hr : Room (k + 1) X.A) (he : DE X W e te) (hg : Gl X C := by rfl) (hdb : (C == ("__debug__" : Str)) = false := by decide)
    (hst : starEach [.Starred e p2] X.env = [(true, eval e X.env)] := by rfl) : DE X W (.Call (.Name C p) [.Starred e p2] [] pos) (dMake C sp (dStar te daNil)) := by
  refine ⟨fun pins s σ H Q I h => ?_⟩
  refine wpAny_Call_Name_kw (ld_glob I hg hm ?_ hdb)
  obtain ⟨τ, M0, Q0, E0, S, h⟩ := h
  refine PySem.W.callWith_S (h₀ := X.base) I.ok.mod.kin M.kp (thn (he.run pins s σ H _ I (S.sub (Q1 := fun y H1 => ∃ a xs, y = V.ref a ∧ (SqT X.K H1 a xs ∨ SqL X.K H1 a xs) ∧ ∀ x dx, H1 x = none → H1 dx = none → dx ≠ x → lsp X.K sp (V.ref x :: xs) (upd (upd H1 dx (.own x)) x (.ins (ga X.K C) dx [])) (fun v H2 => v = .non ∧ Q (.ref x) H2) (WE W σ)) h
    fun d M1 v H1 h1 r1 S1 s1 => ?_)) fun v s1 ⟨y, H1, I1, ry, a, xs, ey, hxs, q⟩ => ?_) hst
  · obtain ⟨a, ds, vs, e1, e2, e3, e4⟩ := star_D (L := fun xs => ∀ p, M1 p = none → sp (.ref p :: (xs ++ [])) (put M1 p (.ins C [])) (fun d M2 => d = .non ∧ Q0 (.ref p) M2) E0) r1 S1.co (by cases d <;> exact h1)
    exact ⟨a, vs, e1, e2, make_of S1 e3 (fun p hp => by have := e4 p hp; rwa [List.append_nil] at this)⟩
  · subst ey
    obtain rfl : v = Value.ref a := ry
    exact StX.star_any I1 hxs fun us s2 I2 rv => ⟨I2.kIn, run_makeS M F.run G.tk hr I2 rv q⟩
end
end DL

namespace DL
open PySem L2 He
section
variable {X : Cx} {W : WX} {a b e o i : Expr} {es : List Expr} {ta tb te to tv ti : DTE} {tl : DTA} {C f m x : Str} {sp : DSp} {k : Nat} {pos pos' apos p p2 : Pos}
/-- a class in which subscripts are no sequence's -/
abbrev NoSq (K : PySem.W.Frag) (C : Str) : Prop := PySem.W.noSeq K (ga K C) = true
/-- one call of a method, from values -/
theorem run_C {pins : List (Addr × Obj)} {σ : L2.St} {H : Hp} {s : Shared} {Q : VK} {us : List Value} {vs : List V} {A : Around} (F : FC X k C m sp) (G : Gd X W) (hr : Room k A) (e0 : Env0 X.prog X.w X.K X.mg X.base A X.stack s H) (I : Inv X pins σ H s) (r : Vals vs us)
    (h : lsp X.K sp vs H Q (WE W σ)) : wpAny (model X.prog X.w) A (call (.ref (ma X.K (ga X.K C) m)) us) (EP X pins σ Q) X.xe s := run_S F.run G.tk hr e0 I r h
/-- v in o -/
theorem in_O {pins : List (Addr × Obj)} {τ : DSt} {M : Mu} {σ : L2.St} {H : Hp} {s : Shared} {Q0 : DK} {E0 : DX} {Q : VK} {x y : D} {v u : V} {vv uu : Value} (F : FC X k C "__contains__" sp) (G : Gd X W) (hr : Room k X.A) (I : Inv X pins σ H s)
    (S : Sit X.K W (RD X.K) τ M σ H Q0 E0 Q) (rx : Rep X.K M H x v) (ry : Rep X.K M H y u) (r1 : RelV v vv) (r2 : RelV u uu) (h : isIns C M x ∧ sp [x, y] M (fun r M3 => match r with
      | .bl b => Q0 (.bl b) M3
      | _ => False) E0) : wpAny (model X.prog X.w) X.A (compareOp .In uu vv) (EP X pins σ Q) X.xe s := by
  obtain ⟨a, fs, dx, gs, rfl, rfl, hM, hH, _⟩ := isIns_at h.1 rx S.co
  cases r1
  obtain ⟨mA, O, _⟩ := ins_get I.hok hH
  obtain ⟨od, J, _⟩ := O.look
  obtain ⟨m0, hF⟩ := I.fr
  refine PySem.W.in_K hF I.ok.mod.kin J F.at_ F.fn ?_
  refine thn (run_C (us := [.ref a, uu]) (vs := [.ref a, u]) F G hr I.env0 I (.cons rfl (.cons r2 .nil)) (S.call (Q1 := fun z H' => ∃ b, z = .bl b ∧ Q (.bl b) H') (.cons rx (.cons ry .nil)) h.2 fun d M1 z H1 h1 r S1 s1 => ?_)) fun w s1 ⟨z, H1, I1, rz, b, ez, q⟩ => ?_
  · cases d with
    | bl b => exact ⟨b, r, S1.end_ h1 rfl⟩
    | _ => exact h1.elim
  · subst ez
    cases rz
    exact wpAny_truthy_bool ⟨.bl b, H1, I1, rfl, q⟩
theorem de_inO (F : FC X k C "__contains__" sp) (G : Gd X W) (hr : Room k X.A) (ha : DE X W a ta) (hb : DE X W b tb) (hm : behindInMarks .In b = false) : DE X W (.Compare a [.In] [b] pos) (dInO C sp ta tb) :=
  ⟨fun pins s σ H Q I ⟨τ, M, Q0, E0, S, h⟩ => wpAny_Compare1 (thn (ha.run pins s σ H _ I (S.sub (Q1 := fun u H1 => ∃ y M1, Rep X.K M1 H1 y u ∧ Sit X.K W (RD X.K) τ M1 σ H1 Q0 E0 Q ∧ tb τ M1 (fun x M2 => isIns C M2 x ∧ sp [x, y] M2 (fun r M3 => match r with
      | .bl b => Q0 (.bl b) M3
      | _ => False) E0) E0) h fun d M1 v H1 h1 r1 S1 s1 => ⟨d, M1, r1, S1, h1⟩)) fun u s1 ⟨uv, H1, I1, ru, y, M1, ry, S1, h1⟩ =>
    thn (hb.run pins s1 σ H1 _ I1 (S1.sub (Q1 := fun v H2 => ∃ x M2, Rep X.K M2 H2 x v ∧ Rep X.K M2 H2 y uv ∧ Sit X.K W (RD X.K) τ M2 σ H2 Q0 E0 Q ∧ isIns C M2 x ∧ sp [x, y] M2 (fun r M3 => match r with
      | .bl b => Q0 (.bl b) M3
      | _ => False) E0) h1 fun d M2 v H2 h2 r2 S2 s2 => ⟨d, M2, r2, ry.stp s2, S2, h2⟩)) fun w s2 ⟨vv, H2, I2, rv, x, M2, rx, ry2, S2, h2⟩ => in_O F G hr I2 S2 rx ry2 rv ru h2) hm⟩
theorem dt_inO (F : FC X k C "__contains__" sp) (G : Gd X W) (hr : Room k X.A) (ha : DE X W a ta) (hb : DE X W b tb) (hm : behindInMarks .In b = false) : DT X W (.Compare a [.In] [b] pos) (dTest (dInO C sp ta tb)) :=
  ⟨fun pins s σ H Q I h0 => by
    obtain ⟨τ, M, Q0, E0, S, h⟩ := lif_test h0
    refine wpAny_isTrue_Compare1 (thn (ha.run pins s σ H _ I (S.sub (Q1 := fun u H1 => ∃ y M1, Rep X.K M1 H1 y u ∧ Sit X.K W (RD X.K) τ M1 σ H1 Q0 E0 _ ∧ tb τ M1 (fun x M2 => isIns C M2 x ∧ sp [x, y] M2 (fun r M3 => match r with
        | .bl b => Q0 (.bl b) M3
        | _ => False) E0) E0) h fun d M1 v H1 h1 r1 S1 s1 => ⟨d, M1, r1, S1, h1⟩)) fun u s1 ⟨uv, H1, I1, ru, y, M1, ry, S1, h1⟩ =>
      thn (hb.run pins s1 σ H1 _ I1 (S1.sub (Q1 := fun v H2 => ∃ x M2, Rep X.K M2 H2 x v ∧ Rep X.K M2 H2 y uv ∧ Sit X.K W (RD X.K) τ M2 σ H2 Q0 E0 _ ∧ isIns C M2 x ∧ sp [x, y] M2 (fun r M3 => match r with
        | .bl b => Q0 (.bl b) M3
        | _ => False) E0) h1 fun d M2 v H2 h2 r2 S2 s2 => ⟨d, M2, r2, ry.stp s2, S2, h2⟩)) fun w s2 ⟨vv, H2, I2, rv, x, M2, rx, ry2, S2, h2⟩ => thn (in_O F G hr I2 S2 rx ry2 rv ru h2) fun c s3 ⟨z, H3, I3, r3, kk, ez, q3⟩ => ?_) hm
    subst ez
    cases r3
    exact wpAny_truthy_bool ⟨H3, I3, q3⟩⟩
end
end DL

namespace DL
open PySem L2 He
section
variable {X : Cx} {W : WX} {a b e o i : Expr} {es : List Expr} {ta tb te to tv ti : DTE} {tl : DTA} {C f m x : Str} {sp : DSp} {k : Nat} {pos pos' apos p p2 : Pos}
/-- o[i] -/
theorem de_getO (F : FC X k C "__getitem__" sp) (hf : PySem.W.fnIn X.K (ma X.K (ga X.K C) "__getitem__") = true) (G : Gd X W) (hr : Room (k + 1) X.A) (ha : DE X W a ta) (hb : DE X W b tb)
    (hsl : ∀ o i, subscripted b true o i = runValue (.builtin "lifetime.subscript" ⟨[o, i], []⟩) := by intro _ _; with_unfolding_all rfl) : DE X W (.Subscript a b pos) (dGetO C sp ta tb) :=
  ⟨fun pins s σ H Q I ⟨τ, M, Q0, E0, S, h⟩ => PyProof.Rows.Subscript_ (thn (ha.run pins s σ H _ I (S.sub (Q1 := fun u H1 => ∃ y M1, Rep X.K M1 H1 y u ∧ Sit X.K W (RD X.K) τ M1 σ H1 Q0 E0 Q ∧ tb τ M1 (fun x M2 => isIns C M2 y ∧ sp [y, x] M2 Q0 E0) E0) h fun d M1 v H1 h1 r1 S1 s1 => ⟨d, M1, r1, S1, h1⟩)) fun u s1 ⟨uv, H1, I1, ru, y, M1, ry, S1, h1⟩ =>
    thn (hb.run pins s1 σ H1 _ I1 (S1.sub (Q1 := fun v H2 => ∃ x M2, Rep X.K M2 H2 x v ∧ Rep X.K M2 H2 y uv ∧ Sit X.K W (RD X.K) τ M2 σ H2 Q0 E0 Q ∧ isIns C M2 y ∧ sp [y, x] M2 Q0 E0) h1 fun d M2 v H2 h2 r2 S2 s2 => ⟨d, M2, r2, ry.stp s2, S2, h2⟩)) fun w s2 ⟨vv, H2, I2, rv, x, M2, rx, ry2, S2, h2⟩ => by
      obtain ⟨a, fs, dx, gs, rfl, rfl, hM, hH, _⟩ := isIns_at h2.1 ry2 S2.co
      cases ru
      obtain ⟨mA, O, _⟩ := ins_get I2.hok hH
      obtain ⟨od, J, _⟩ := O.look
      obtain ⟨m0, hF⟩ := I2.fr
      refine PySem.W.sub_K hF I2.ok.mod.kin J F.at_ hf F.fn ?_ (hsl _ _)
      exact run_C (us := [.ref a, w]) (vs := [.ref a, vv]) F G hr.in1 I2.env0.in1 I2 (.cons rfl (.cons rv .nil)) (S2.call (.cons ry2 (.cons rx .nil)) h2.2 fun d M1 z H1 h1 r S1 s1 => S1.end_ h1 r))⟩
/-- o[i] = v -/
theorem dg_setO (F : FC X k C "__setitem__" sp) (nq : NoSq X.K C) (G : Gd X W) (hr : Room k X.A) (ho : DE X W o to) (hi : DE X W i ti) (ha : ∀ v, assign (.Subscript o i pos) X.env v = (do
      let ov ← holding [v] (eval o X.env)
      let iv ← holding [v, ov] (eval i X.env)
      standAt pos
      holding [v, ov, iv] (setItem ov iv v)
      release [v, ov, iv] []) := by intro _; rfl) : DG X W (.Subscript o i pos) (dgSetO C sp to ti) := by
  refine ⟨fun pins s σ H v u Q I r h => ?_⟩
  obtain ⟨d, τ, M, Q0, E0, rd, S, h⟩ := h
  rw [ha]
  refine wpAny_bind (wpAny_holding (thn (ho.run pins s σ H _ I (S.sub (Q1 := fun z H1 => ∃ x M1, Rep X.K M1 H1 x z ∧ Rep X.K M1 H1 d v ∧ SitG X.K W τ M1 σ H1 Q0 E0 Q ∧ ti τ M1 (fun y M2 => isIns C M2 x ∧ sp [x, y, d] M2 (fun _ M3 => Q0 τ M3) E0) E0) h
    fun x M1 z H1 h1 r1 S1 s1 => ⟨x, M1, r1, rd.stp s1, S1, h1⟩)) fun ov s1 ⟨x1, H1, I1, r1, x, M1, rx, rd1, S1, h1⟩ => ?_))
  refine wpAny_bind (wpAny_holding (thn (hi.run pins s1 σ H1 _ I1 (S1.sub (Q1 := fun z H2 => ∃ y M2, Rep X.K M2 H2 y z ∧ Rep X.K M2 H2 x x1 ∧ Rep X.K M2 H2 d v ∧ SitG X.K W τ M2 σ H2 Q0 E0 Q ∧ isIns C M2 x ∧ sp [x, y, d] M2 (fun _ M3 => Q0 τ M3) E0) h1
    fun y M2 z H2 h2 r2 S2 s2 => ⟨y, M2, r2, rx.stp s2, rd1.stp s2, S2, h2⟩)) fun iv s2 ⟨y1, H2, I2, r2, y, M2, ry, rx2, rd2, S2, h2⟩ => ?_))
  obtain ⟨a, fs, dx, gs, rfl, rfl, hM, hH, _⟩ := isIns_at h2.1 rx2 S2.co
  cases r1
  obtain ⟨mA, O, _⟩ := ins_get I2.hok hH
  obtain ⟨od, J, _⟩ := O.look
  obtain ⟨m0, hF⟩ := I2.fr
  refine wpAny_bind (wpAny_standAt (wpAny_bind (wpAny_holding (PySem.W.ksp_setItem hF I2.ok.mod.kin J nq F.at_ F.fn ?_))))
  refine thn (run_C (us := [.ref a, iv, u]) (vs := [.ref a, y1, v]) F G hr I2.env0 I2 (.cons rfl (.cons r2 (.cons r .nil))) (S2.call (Q1 := fun _ H' => Q σ H') (.cons rx2 (.cons ry (.cons rd2 .nil))) h2.2 fun d M3 z H3 h3 r3 S3 s3 => S3.q τ M3 σ H3 h3 S3.rs S3.co (Stp.refl M3 H3))) fun w s3 ⟨z, H3, I3, rz, q3⟩ => ?_
  exact wpAny_release ⟨σ, H3, I3, q3⟩

/-! ### operators -/
/-- what the classes must have for x op y: x of C (the def at the operator's name), y of C or a text -/
structure OpC (K : PySem.W.Frag) (C : Str) (op : Operator) : Prop where
  sf : PySem.W.selfFirst K (ga K C) = true
  rc : ∃ rc, PySem.W.findIn K (.ref (ga K C)) (dunderR op.info.2) = some rc ∧ (rc = none ∨ ∃ g : Addr, rc = some (.ref g))
  s1 : ∃ fo, PySem.W.findIn K (.type "str") (PySem.dunder op.info.2) = some fo
  s2 : ∃ ro, PySem.W.findIn K (.type "str") (dunderR op.info.2) = some ro
  su : PySem.W.subIn K (.type "str") (.ref (ga K C)) = some false
def opCB (C : Str) (op : Operator) (K : PySem.W.Frag) : Bool := PySem.W.selfFirst K (ga K C) && ((match PySem.W.findIn K (.ref (ga K C)) (dunderR op.info.2) with
    | some none => true
    | some (some (.ref _)) => true
    | _ => false) && ((PySem.W.findIn K (.type "str") (PySem.dunder op.info.2)).isSome && ((PySem.W.findIn K (.type "str") (dunderR op.info.2)).isSome && decide (PySem.W.subIn K (.type "str") (.ref (ga K C)) = some false))))
theorem opCB_ok {C : Str} {op : Operator} {K : PySem.W.Frag} (h : opCB C op K = true) : OpC K C op := by
  obtain ⟨h1, h⟩ := ba h
  obtain ⟨h2, h⟩ := ba h
  obtain ⟨h3, h⟩ := ba h
  obtain ⟨h4, h5⟩ := ba h
  refine ⟨h1, ?_, Option.isSome_iff_exists.mp h3, Option.isSome_iff_exists.mp h4, of_decide_eq_true h5⟩
  split at h2
  · rename_i e; exact ⟨_, e, .inl rfl⟩
  · rename_i g e; exact ⟨_, e, .inr ⟨g, rfl⟩⟩
  · cases h2
theorem bin_O {op : Operator} {pins : List (Addr × Obj)} {τ : DSt} {M : Mu} {σ : L2.St} {H : Hp} {s : Shared} {Q0 : DK} {E0 : DX} {Q : VK} {x y : D} {v u : V} {vv uu : Value} (F : FC X k C (PySem.dunder op.info.2) sp) (O : OpC X.K C op) (G : Gd X W) (hr : Room k X.A) (I : Inv X pins σ H s)
    (S : Sit X.K W (RD X.K) τ M σ H Q0 E0 Q) (rx : Rep X.K M H x v) (ry : Rep X.K M H y u) (r1 : RelV v vv) (r2 : RelV u uu) (h : isIns C M x ∧ ((∃ z, y = .str z) ∨ isIns C M y) ∧ sp [x, y] M Q0 E0) : wpAny (model X.prog X.w) X.A (binaryOp op vv uu) (EP X pins σ Q) X.xe s := by
  obtain ⟨h0, h1, h⟩ := h
  obtain ⟨a, fs, dx, gs, rfl, rfl, hM, hH, _⟩ := isIns_at h0 rx S.co
  cases r1
  obtain ⟨mA, O1, _⟩ := ins_get I.hok hH
  obtain ⟨od, J, _⟩ := O1.look
  obtain ⟨m0, hF⟩ := I.fr
  have run : wpAny (model X.prog X.w) X.A (call (.ref (ma X.K (ga X.K C) (PySem.dunder op.info.2))) [.ref a, uu]) (PySem.W.CmpBack (EP X pins σ Q)) X.xe s := by
    refine wpAny_mono (run_C (us := [.ref a, uu]) (vs := [.ref a, u]) (Q := Q) F G hr I.env0 I (.cons rfl (.cons r2 .nil)) (S.call (.cons rx (.cons ry .nil)) h fun d M1 z H1 h1 r S1 s1 => S1.end_ h1 r)) (fun w s' z => ?_) fun _ _ z => z
    obtain ⟨z', H', I', rz, qz⟩ := z
    exact SlX.cmpback rz ⟨z', H', I', rz, qz⟩
  rcases h1 with ⟨z, rfl⟩ | h1
  · cases ry
    obtain ⟨t, rfl⟩ := r2
    obtain ⟨rc, e1, e2⟩ := O.rc
    obtain ⟨fo, e3⟩ := O.s1
    obtain ⟨ro, e4⟩ := O.s2
    exact PySem.W.ksp_binT (T := "str") hF I.ok.mod.kin J rfl O.sf F.at_ F.fn e1 e2 e3 e4 O.su run
  · obtain ⟨b, fs2, dx2, gs2, rfl, rfl, hM2, hH2, _⟩ := isIns_at h1 ry S.co
    cases r2
    obtain ⟨mA2, O2, _⟩ := ins_get I.hok hH2
    obtain ⟨od2, J2, _⟩ := O2.look
    exact PySem.W.binop_K hF I.ok.mod.kin J J2.type O.sf F.at_ F.fn run
theorem de_binL {op : Operator} (F : FC X k C (PySem.dunder op.info.2) sp) (O : OpC X.K C op) (G : Gd X W) (hr : Room k X.A) (ha : DE X W a ta) (hb : DE X W b tb) : DE X W (.BinOp a op b pos) (dBinL C sp ta tb) :=
  ⟨fun pins s σ H Q I ⟨τ, M, Q0, E0, S, h⟩ => wpAny_BinOp (thn (ha.run pins s σ H _ I (S.sub (Q1 := fun u H1 => ∃ y M1, Rep X.K M1 H1 y u ∧ Sit X.K W (RD X.K) τ M1 σ H1 Q0 E0 Q ∧ tb τ M1 (fun x M2 => isIns C M2 y ∧ ((∃ z, x = .str z) ∨ isIns C M2 x) ∧ sp [y, x] M2 Q0 E0) E0) h fun d M1 v H1 h1 r1 S1 s1 => ⟨d, M1, r1, S1, h1⟩)) fun u s1 ⟨uv, H1, I1, ru, y, M1, ry, S1, h1⟩ =>
    thn (hb.run pins s1 σ H1 _ I1 (S1.sub (Q1 := fun v H2 => ∃ x M2, Rep X.K M2 H2 x v ∧ Rep X.K M2 H2 y uv ∧ Sit X.K W (RD X.K) τ M2 σ H2 Q0 E0 Q ∧ isIns C M2 y ∧ ((∃ z, x = .str z) ∨ isIns C M2 x) ∧ sp [y, x] M2 Q0 E0) h1 fun d M2 v H2 h2 r2 S2 s2 => ⟨d, M2, r2, ry.stp s2, S2, h2⟩)) fun w s2 ⟨vv, H2, I2, rv, x, M2, rx, ry2, S2, h2⟩ =>
      bin_O F O G hr I2 S2 ry2 rx ru rv h2)⟩

/-! x op= e -/
structure InC (K : PySem.W.Frag) (C : Str) (op : Operator) : Prop where
  sf : PySem.W.selfFirst K (ga K C) = true
theorem ds_augO {op : Operator} (j : Nat) (F : FC X k C (dunderI op.info.2) sp) (O : PySem.W.selfFirst X.K (ga X.K C) = true) (G : Gd X W) (hr : Room k X.A) (he : DE X W e te) (hi : X.N[j]? = some x := by rfl) (hx : Loc X.env.scope x := by first | exact .inl rfl | exact .inr rfl)
    (hf : X.fn x = true ∨ X.env.scope.names.lookup x = some .local := by first | exact .inl rfl | exact .inr rfl) : DS X W (.AugAssign (.Name x pos') op e pos) (dAugO C sp j te) := by
  refine ⟨fun pins s σ H D1 I h => ?_⟩
  obtain ⟨τ, M, D0, S, h⟩ := h
  unfold dAugO at h
  split at h
  · rename_i d ed
    obtain ⟨v, e1, rd⟩ := S.rs.get ed
    obtain ⟨m, hn, hl⟩ := I.loc
    have vis : Vis X.env.scope x := by rcases hx with k | k; exact .inl k; exact .inr (.inl k)
    obtain ⟨u, r, l⟩ := hl j x v hi e1 vis
    refine wpAny_AugAssign_Name ?_
    have go : wpAny (model X.prog X.w) X.A (eval e X.env) (fun w s₂ => wpAny (model X.prog X.w) X.A (inplaceOp op u w) (fun r s₃ => wpAny (model X.prog X.w) X.A (storeName X.env x r) (fun _ => SP X pins D1 .next) X.xe s₃) X.xe s₂) X.xe s := by
      refine thn (he.run pins s σ H _ I (S.sub (Q1 := fun z H1 => ∃ y M1, Rep X.K M1 H1 y z ∧ Rep X.K M1 H1 d v ∧ SitS X.K W τ M1 σ H1 D0 D1 ∧ isIns C M1 d ∧ sp [d, y] M1 (fun r M2 => D0.nx (τ.set j (some r)) M2) (D0.ex τ)) h fun y M1 z H1 h1 r1 S1 s1 => ⟨y, M1, r1, rd.stp s1, S1, h1⟩)) fun w s1 ⟨z, H1, I1, rz, y, M1, ry, rd1, S1, h1⟩ => ?_
      obtain ⟨a, fs, dx, gs, rfl, rfl, hM, hH, _⟩ := isIns_at h1.1 rd1 S1.co
      cases r
      obtain ⟨mA, O1, _⟩ := ins_get I1.hok hH
      obtain ⟨od, J, _⟩ := O1.look
      obtain ⟨m0, hF⟩ := I1.fr
      refine PySem.W.ksp_inplace hF I1.ok.mod.kin J O F.at_ F.fn ?_
      refine wpAny_mono (run_C (us := [.ref a, w]) (vs := [.ref a, z]) (Q := fun z' H' => D1.nx (σ.set j (some z')) H') F G hr I1.env0 I1 (.cons rfl (.cons rz .nil)) (S1.call (.cons rd1 (.cons ry .nil)) h1.2 fun d2 M2 z2 H2 h2 r2 S2 s2 => S2.nx _ M2 _ H2 h2 (S2.rs.set r2 j) S2.co (Stp.refl M2 H2))) (fun w' s' z => ?_) fun _ _ z => z
      obtain ⟨z', H', I', rz', qz⟩ := z
      exact SlX.cmpback rz' (store_ok I' G.nd hi hx rz' (fun s3 I3 => ⟨_, H', I3, qz⟩) hf)
    rcases l with ⟨hk, hm⟩ | ⟨hk, c, hc, hcell⟩
    · exact wpAny_loadName_local I.ok.kind hk hn hm go
    · rcases hk with hk | hk
      · exact wpAny_loadName_cell I.ok.kind hk hc hcell go
      · rcases hx with k | k
        · have : X.env.scope.names.lookup x = some .free := hk
          rw [k] at this; cases this
        · have : X.env.scope.names.lookup x = some .free := hk
          rw [k] at this; cases this
  · exact h.elim
end
end DL

namespace DL
open PySem L2 He
section
open PySem.W PySem.Calls PyProof.Rows
variable {prog : Program} {w : World} {A : Around} {E : Value → Shared → Prop} {s : Shared} {K : Frag} {x C L f f1 : Addr} {h₀ : Heap} {m : Str → Option Value} {ox : Obj} {od : Option Obj}
/-- a text op an instance: the class's reflected def -/
theorem bin_refl {op : Operator} {b : Value} {Q : Value → Shared → Prop} (F : Fr h₀ L s.heap m) (X₀ : K.In h₀) (I : InstAt s.heap x ox C od) (hb : typeOf b = pure (.type "str")) (hc : selfFirst K C = true)
    (hs : findIn K (.ref C) (PySem.dunder op.info.2) = some (some (.ref f1))) (hr : findIn K (.ref C) (dunderR op.info.2) = some (some (.ref f))) (hf : isFn K (.ref f) = true)
    (h1 : findIn K (.type "str") (PySem.dunder op.info.2) = some none) (h2 : findIn K (.type "str") (dunderR op.info.2) = some none)
    (h : wpAny (model prog w) A (call (.ref f) [.ref x, b]) (PySem.W.CmpBack Q) E s) : wpAny (model prog w) A (binaryOp op b (.ref x)) Q E s := by
  have X := X₀.keeps F.keep
  obtain ⟨cd, rest, hcd, hm⟩ := ksp_first hc
  rcases hi : op.info with ⟨sym, nm'⟩
  rw [hi] at hs hr h1 h2
  dsimp only at hs hr h1 h2
  have one := ksp_try X I hr hf h
  obtain ⟨hh, g, d, tt, os⟩ := s
  have L1 : Looks (model prog w) hh (typeOf (.ref x)) (.ref C) := I.type
  have L2 : Looks (model prog w) hh (typeOf b) (.type "str") := Looks.of_pure hb
  have L3 : Looks (model prog w) hh (fillsNumberSlot (.ref C) nm') true := fills_K X hcd hm hs
  have L4 : Looks (model prog w) hh (fillsNumberSlot (.type "str") nm') false := ksp_fillsT X h1 h2
  have hne : (Value.type "str" == Value.ref C) = false := Bool.eq_false_iff.mpr fun q => by cases beq_iff_eq.mp q
  simp only [binaryOp, hi]
  refine wpAny_holding (wpAny_bind ?_)
  unfold binaryOp1
  refine wpAny_bind (L2.at (wpAny_bind (L1.at (wpAny_bind (L4.at ?_)))))
  simp only [hne, Bool.false_eq_true, if_false]
  refine wpAny_bind (L3.at ?_)
  ksp_lk
  refine wpAny_mono one (fun r s' hr' => ?_) fun _ _ e => e
  obtain ⟨v, rfl, hq⟩ := hr'
  ksp_lk
  exact hq
end
section
variable {X : Cx} {W : WX} {a b e o i : Expr} {es : List Expr} {ta tb te to tv ti : DTE} {tl : DTA} {C f m x : Str} {sp : DSp} {k : Nat} {pos pos' apos p p2 : Pos}
structure OpR' (K : PySem.W.Frag) (C : Str) (op : Operator) : Prop where
  sf : PySem.W.selfFirst K (ga K C) = true
  fw : ∃ g : Addr, PySem.W.findIn K (.ref (ga K C)) (PySem.dunder op.info.2) = some (some (.ref g))
  s1 : PySem.W.findIn K (.type "str") (PySem.dunder op.info.2) = some none
  s2 : PySem.W.findIn K (.type "str") (dunderR op.info.2) = some none
def opRB (C : Str) (op : Operator) (K : PySem.W.Frag) : Bool := PySem.W.selfFirst K (ga K C) && ((match PySem.W.findIn K (.ref (ga K C)) (PySem.dunder op.info.2) with
    | some (some (.ref _)) => true
    | _ => false) && (decide (PySem.W.findIn K (.type "str") (PySem.dunder op.info.2) = some none) && decide (PySem.W.findIn K (.type "str") (dunderR op.info.2) = some none)))
theorem opRB_ok {C : Str} {op : Operator} {K : PySem.W.Frag} (h : opRB C op K = true) : OpR' K C op := by
  obtain ⟨h1, h⟩ := ba h
  obtain ⟨h2, h⟩ := ba h
  obtain ⟨h3, h4⟩ := ba h
  refine ⟨h1, ?_, of_decide_eq_true h3, of_decide_eq_true h4⟩
  split at h2
  · rename_i g e; exact ⟨g, e⟩
  · cases h2
theorem de_binR {op : Operator} (F : FC X k C (dunderR op.info.2) sp) (O : OpR' X.K C op) (G : Gd X W) (hr : Room k X.A) (ha : DE X W a ta) (hb : DE X W b tb) : DE X W (.BinOp a op b pos) (dBinR C sp ta tb) :=
  ⟨fun pins s σ H Q I ⟨τ, M, Q0, E0, S, h⟩ => wpAny_BinOp (thn (ha.run pins s σ H _ I (S.sub (Q1 := fun u H1 => ∃ y M1, Rep X.K M1 H1 y u ∧ Sit X.K W (RD X.K) τ M1 σ H1 Q0 E0 Q ∧ tb τ M1 (fun x M2 => (∃ z, y = .str z) ∧ isIns C M2 x ∧ sp [x, y] M2 Q0 E0) E0) h fun d M1 v H1 h1 r1 S1 s1 => ⟨d, M1, r1, S1, h1⟩)) fun u s1 ⟨uv, H1, I1, ru, y, M1, ry, S1, h1⟩ =>
    thn (hb.run pins s1 σ H1 _ I1 (S1.sub (Q1 := fun v H2 => ∃ x M2, Rep X.K M2 H2 x v ∧ Rep X.K M2 H2 y uv ∧ Sit X.K W (RD X.K) τ M2 σ H2 Q0 E0 Q ∧ (∃ z, y = .str z) ∧ isIns C M2 x ∧ sp [x, y] M2 Q0 E0) h1 fun d M2 v H2 h2 r2 S2 s2 => ⟨d, M2, r2, ry.stp s2, S2, h2⟩)) fun w s2 ⟨vv, H2, I2, rv, x, M2, rx, ry2, S2, h2⟩ => by
      obtain ⟨⟨z, rfl⟩, h3, h4⟩ := h2
      obtain ⟨a, fs, dx, gs, rfl, rfl, hM, hH, _⟩ := isIns_at h3 rx S2.co
      cases rv
      have e3 : uv = V.str (sx z) := ry2
      subst e3
      obtain ⟨t, rfl⟩ := ru
      obtain ⟨mA, O1, _⟩ := ins_get I2.hok hH
      obtain ⟨od, J, _⟩ := O1.look
      obtain ⟨m0, hF⟩ := I2.fr
      obtain ⟨g1, e1⟩ := O.fw
      refine bin_refl hF I2.ok.mod.kin J rfl O.sf e1 F.at_ F.fn O.s1 O.s2 ?_
      refine wpAny_mono (run_C (us := [.ref a, .str (sx z) t]) (vs := [.ref a, .str (sx z)]) (Q := Q) F G hr I2.env0 I2 (.cons rfl (.cons ⟨t, rfl⟩ .nil)) (S2.call (.cons rx (.cons ry2 .nil)) h4 fun d M1 z H1 h1 r S1 s1 => S1.end_ h1 r)) (fun w s' z => ?_) fun _ _ z => z
      obtain ⟨z', H', I', rz, qz⟩ := z
      exact SlX.cmpback rz ⟨z', H', I', rz, qz⟩)⟩
/-- ~o -/
def dInv (C : Str) (sp : DSp) (te : DTE) : DTE := fun τ M Q E => te τ M (fun d M1 => isIns C M1 d ∧ sp [d] M1 Q E) E
theorem de_inv (F : FC X k C "__invert__" sp) (G : Gd X W) (hr : Room k X.A) (ha : DE X W a ta) : DE X W (.UnaryOp .Invert a pos) (dInv C sp ta) :=
  ⟨fun pins s σ H Q I ⟨τ, M, Q0, E0, S, h⟩ => PyProof.Rows.UnaryOp_ (thn (ha.run pins s σ H _ I (S.sub (Q1 := fun u H1 => ∃ y M1, Rep X.K M1 H1 y u ∧ Sit X.K W (RD X.K) τ M1 σ H1 Q0 E0 Q ∧ isIns C M1 y ∧ sp [y] M1 Q0 E0) h fun d M1 v H1 h1 r1 S1 s1 => ⟨d, M1, r1, S1, h1⟩)) fun u s1 ⟨uv, H1, I1, ru, y, M1, ry, S1, h2⟩ => by
      obtain ⟨a, fs, dx, gs, rfl, rfl, hM, hH, _⟩ := isIns_at h2.1 ry S1.co
      cases ru
      obtain ⟨mA, O, _⟩ := ins_get I1.hok hH
      obtain ⟨od, J, _⟩ := O.look
      obtain ⟨m0, hF⟩ := I1.fr
      refine PySem.W.ksp_inv hF I1.ok.mod.kin J F.at_ F.fn ?_
      exact run_C (us := [.ref a]) (vs := [.ref a]) F G hr I1.env0 I1 (.cons rfl .nil) (S1.call (.cons ry .nil) h2.2 fun d M1 z H1 h1 r S1 s1 => S1.end_ h1 r))⟩
/-! ### o.m(..) -/
theorem lookup_none {f : Str} : ∀ {fs : List (Str × D)} {gs : List (Str × V)}, gs.map (·.1) = fs.map (·.1) → (¬ f ∈ fs.map (·.1)) → gs.lookup f = none
  | [], [], _, _ => rfl
  | [], _ :: _, h, _ => by cases h
  | _ :: _, [], h, _ => by cases h
  | (g, x) :: r, (g', y) :: r', h, n => by
    obtain ⟨h1, h2⟩ := List.cons.inj h
    have h1 : g' = g := h1
    subst h1
    rw [List.lookup_cons]
    have q : (f == g') = false := Bool.eq_false_iff.mpr fun z => n (by rw [beq_iff_eq.mp z]; exact List.mem_cons_self ..)
    rw [q]
    exact lookup_none h2 fun z => n (List.mem_cons_of_mem _ z)
/-- the instance has no attribute of that name -/
def noF (M : Mu) (m : Str) (d : D) : Prop := match d with
  | .ref a => (match M a with
    | some (.ins _ fs) => ¬ m ∈ fs.map (·.1)
    | _ => False)
  | _ => False
theorem noF_at {m : Str} {M : Mu} {a : Addr} {c : Str} {fs : List (Str × D)} (h : noF M m (.ref a)) (e : M a = some (.ins c fs)) : ¬ m ∈ fs.map (·.1) := by
  have h2 : (match M a with
    | some (.ins _ fs) => ¬ m ∈ fs.map (·.1)
    | _ => False) := h
  rw [e] at h2
  exact h2
def dMeth (C m : Str) (sp : DSp) (to : DTE) (ta : DTA) : DTE := fun τ M Q E => to τ M (fun x M1 => isIns C M1 x ∧ noF M1 m x ∧ ta τ M1 (fun ds M2 => sp (x :: ds) M2 Q E) E) E
theorem de_meth {pl : Sem Bool} (F : FC X k C m sp) (c : Cls X.K (ga X.K C)) (G : Gd X W) (hr : Room k X.A) (ho : DE X W o to) (ha : DA X W (e :: es) tl)
    (hst : starEach (e :: es) X.env = (false, eval e X.env) :: starEach es X.env := by rfl) (hpl : (backTo pos (starEach es X.env)).any (·.1) = false := by rfl)
    (ht : eval (.Call (.Attribute o m apos) (e :: es) [] pos) X.env = (do
      let ov ← eval o X.env
      standAt apos.atName
      let (f, first) ← holding [ov] (getMethod ov m pl)
      callWith pos f first (backTo pos (starEach (e :: es) X.env)) (backToKw pos (keywordEach [] X.env))) := by rfl) : DE X W (.Call (.Attribute o m apos) (e :: es) [] pos) (dMeth C m sp to tl) := by
  refine ⟨fun pins s σ H Q I h => ?_⟩
  obtain ⟨τ, M, Q0, E0, S, h⟩ := h
  refine PySem.W.methodCall_KW (pl := pl) (thn (ho.run pins s σ H _ I (S.sub (Q1 := fun u H1 => ∃ y M1, Rep X.K M1 H1 y u ∧ Sit X.K W (RD X.K) τ M1 σ H1 Q0 E0 Q ∧ isIns C M1 y ∧ noF M1 m y ∧ tl τ M1 (fun ds M2 => sp (y :: ds) M2 Q0 E0) E0) h fun d M1 v H1 h1 r1 S1 s1 => ⟨d, M1, r1, S1, h1⟩)) fun u s1 ⟨uv, H1, I1, ru, y, M1, ry, S1, h1, h2, h3⟩ => ?_) ht
  obtain ⟨a, fs, dx, gs, rfl, rfl, hM, hH, hk⟩ := isIns_at h1 ry S1.co
  cases ru
  refine getmeth_ok I1 hH c F.meth (lookup_none hk (noF_at h2 hM)) ?_
  refine PySem.W.callWith_K (first := [.ref a]) (h₀ := X.base) I1.ok.mod.kin F.kp (thn (ha.run pos pins s1 σ H1 _ I1 (S1.sub (Q1 := fun vs H2 => lsp X.K sp (V.ref a :: vs) H2 Q (WE W σ)) h3 fun ds M2 vs H2 h4 r4 S4 s4 => S4.call (.cons (ry.stp s4) r4) h4 fun d M5 z H5 h5 r5 S5 s5 => S5.end_ h5 r5)) fun us s2 ⟨vs, H2, I2, r, q2⟩ => ⟨I2.kIn, ?_⟩) hst hpl
  exact run_C (us := .ref a :: us) (vs := .ref a :: vs) F G hr I2.env0 I2 (.cons rfl r) q2
theorem de_meth0 {pl : Sem Bool} (F : FC X k C m sp) (c : Cls X.K (ga X.K C)) (G : Gd X W) (hr : Room k X.A) (ho : DE X W o to)
    (ht : eval (.Call (.Attribute o m apos) [] [] pos) X.env = (do
      let ov ← eval o X.env
      standAt apos.atName
      let (f, first) ← holding [ov] (getMethod ov m pl)
      callWith pos f first (backTo pos (starEach [] X.env)) (backToKw pos (keywordEach [] X.env))) := by rfl) : DE X W (.Call (.Attribute o m apos) [] [] pos) (dMeth C m sp to daNil) := by
  refine ⟨fun pins s σ H Q I h => ?_⟩
  obtain ⟨τ, M, Q0, E0, S, h⟩ := h
  refine PySem.W.methodCall_KW (pl := pl) (thn (ho.run pins s σ H _ I (S.sub (Q1 := fun u H1 => ∃ y M1, Rep X.K M1 H1 y u ∧ Sit X.K W (RD X.K) τ M1 σ H1 Q0 E0 Q ∧ isIns C M1 y ∧ noF M1 m y ∧ daNil τ M1 (fun ds M2 => sp (y :: ds) M2 Q0 E0) E0) h fun d M1 v H1 h1 r1 S1 s1 => ⟨d, M1, r1, S1, h1⟩)) fun u s1 ⟨uv, H1, I1, ru, y, M1, ry, S1, h1, h2, h3⟩ => ?_) ht
  obtain ⟨a, fs, dx, gs, rfl, rfl, hM, hH, hk⟩ := isIns_at h1 ry S1.co
  cases ru
  refine getmeth_ok I1 hH c F.meth (lookup_none hk (noF_at h2 hM)) ?_
  exact PySem.W.callWith_K0 (first := [.ref a]) I1.kIn F.kp (run_C (us := [.ref a]) (vs := [.ref a]) F G hr I1.env0 I1 (.cons rfl .nil) (S1.call (.cons ry .nil) h3 fun d M5 z H5 h5 r5 S5 s5 => S5.end_ h5 r5))
end
end DL

namespace DL
open PySem L2 He
section
variable {X : Cx} {W : WX} {a b e o i : Expr} {es : List Expr} {ta tb te to tv ti : DTE} {tl : DTA} {C f m x : Str} {sp : DSp} {k : Nat} {pos pos' apos p p2 : Pos}
/-! ### properties -/
/-- the getter's def -/
def pgA (K : PySem.W.Frag) (C : Addr) (f : Str) : Addr := match PySem.W.recIn K (ma K C f) "property" with
  | some (.ref g :: _) => g
  | _ => 0
def propB (C f : Str) (K : PySem.W.Frag) : Bool := decide (PySem.W.findIn K (.ref (ga K C)) f = some (some (.ref (ma K (ga K C) f)))) && (decide (PySem.W.specialIn K (.ref (ma K (ga K C) f)) "__get__" = some (some (.builtin "property.__get__"))) &&
  (decide (PySem.W.takesIn K (.ref (ma K (ga K C) f)) = some true) && (match PySem.W.recIn K (ma K (ga K C) f) "property" with
    | some (.ref _ :: _) => true
    | _ => false)))
theorem propB_ok {K : PySem.W.Frag} (h : propB C f K = true) : PropOf K (ga K C) f (ma K (ga K C) f) (pgA K (ga K C) f) := by
  obtain ⟨h1, h⟩ := ba h
  obtain ⟨h2, h⟩ := ba h
  obtain ⟨h3, h4⟩ := ba h
  refine ⟨of_decide_eq_true h1, of_decide_eq_true h2, of_decide_eq_true h3, ?_⟩
  unfold pgA
  split at h4
  · rename_i g r e; exact ⟨r, by rw [e]⟩
  · cases h4
structure FnP (P : Program) (w : World) (K : PySem.W.Frag) (mg : Str → Option Value) (base : Heap) (k : Nat) (C f : Str) (sp : DSp) : Prop where
  of : PropOf K (ga K C) f (ma K (ga K C) f) (pgA K (ga K C) f)
  run : FnR P w K mg base (L2.CX P w) k (pgA K (ga K C) f) (lsp K sp)
def dPrp (C : Str) (sp : DSp) (te : DTE) : DTE := fun τ M Q E => te τ M (fun d M1 => isIns C M1 d ∧ sp [d] M1 Q noX) E
theorem cx_no {outer : List Env} {H : Hp} {s s' : Shared} {e : Value} (h : L2.CX X.prog X.w outer H s (fun _ _ _ => False) e s') : False := by
  obtain ⟨_, _, _, _, _, _, _, _, _, _, _, _, z⟩ := h
  exact z
theorem de_prop (F : FnP X.prog X.w X.K X.mg X.base k C f sp) (c : Cls X.K (ga X.K C)) (hr : Room (k + 1) X.A) (ha : DE X W a ta) (hab : attributeBase a f X.env (eval a X.env) = eval a X.env := by rfl) : DE X W (.Attribute a f pos) (dPrp C sp ta) :=
  ⟨fun pins s σ H Q I ⟨τ, M, Q0, E0, S, h⟩ => attr_of hab (thn (ha.run pins s σ H _ I (S.sub (Q1 := fun u H1 => ∃ y M1, Rep X.K M1 H1 y u ∧ Sit X.K W (RD X.K) τ M1 σ H1 Q0 E0 Q ∧ isIns C M1 y ∧ sp [y] M1 Q0 noX) h fun d M1 v H1 h1 r1 S1 s1 => ⟨d, M1, r1, S1, h1⟩)) fun u s1 ⟨uv, H1, I1, ru, y, M1, ry, S1, h2⟩ => by
    obtain ⟨a, fs, dx, gs, rfl, rfl, hM, hH, _⟩ := isIns_at h2.1 ry S1.co
    cases ru
    obtain ⟨mA, O, _, _, _, _⟩ := ins_get I1.hok hH
    obtain ⟨od, J, _⟩ := O.look
    obtain ⟨rest, hrec⟩ := F.of.rec_
    have I2 := I1.tok (s1.toks + 1)
    have hc : (PySem.W.clsIn X.K (ga X.K C)).isSome = true := by
      obtain ⟨cd, hc, _⟩ := PySem.W.any_some c.hd
      rw [hc]
      rfl
    refine PySem.W.get_bind I1.kIn J (PySem.W.plainGet_of (c.get f)).1 (PySem.W.findObj_data hc F.of.at_ F.of.get F.of.tak) (PySem.W.plainGet_of (c.get f)).2 (wpAny_call (PySem.W.prop_get (s := { s1 with toks := s1.toks + 1 }) I1.kIn hrec ?_))
    refine codeAny_mono (F.run X.A.in1 X.stack { s1 with toks := s1.toks + 1 } H1 [.ref a] [.ref a] Q (fun _ _ _ => False) hr.in1 I2.env0.in1 (.cons rfl .nil) ⟨[.ref a], M1, Q0, noX, .cons ry .nil, S1.co, h2.2, S1.q, fun _ _ _ _ _ z => z.elim⟩) fun r s' hq => ?_
    cases r with
    | error er => exact (cx_no hq).elim
    | ok fl =>
      cases fl with
      | ret u =>
        obtain ⟨v, H', I3, rv, q3⟩ := I2.after hq
        show wpAny _ _ (handedOut u) _ _ _
        rw [PySem.W.handedOut_of (handed_of rv)]
        exact wpAny_pure ⟨v, H', I3, rv, q3⟩
      | next => exact False.elim hq
      | brk => exact False.elim hq
      | cont => exact False.elim hq)⟩
/-! ### staticmethods, constants of a class -/
def readB (C : Str) (K : PySem.W.Frag) : Bool := PySem.W.readsIn K (ga K C) (.type "type") && decide (PySem.W.specialIn K (.ref (ga K C)) "__getattribute__" = some (some (.builtin "type.__getattribute__")))
theorem readB_ok {K : PySem.W.Frag} (h : readB C K = true) : ClX.CRead K (ga K C) (.type "type") := by
  obtain ⟨h1, h2⟩ := ba h
  exact ⟨h1, of_decide_eq_true h2⟩
structure FnT (P : Program) (w : World) (K : PySem.W.Frag) (mg : Str → Option Value) (base : Heap) (k : Nat) (C m : Str) (sp : DSp) : Prop where
  at_ : PySem.W.findCls K (.ref (ga K C)) (.type "type") m = some (.get (.builtin "staticmethod.__get__") (.ref (ma K (ga K C) m)) .none (.ref (ga K C)))
  rc : ∃ rest, PySem.W.recIn K (ma K (ga K C) m) "staticmethod" = some (.ref (He5.wf K (ga K C) "staticmethod" m) :: rest)
  kp : PySem.W.keepIn K (.ref (He5.wf K (ga K C) "staticmethod" m)) = true
  run : FnR P w K mg base (L2.CX P w) k (He5.wf K (ga K C) "staticmethod" m) (lsp K sp)
theorem getst_ok {pins : List (Addr × Obj)} {σ : L2.St} {H : Hp} {s : Shared} {pl : Sem Bool} {A : Around} {E : Value → Shared → Prop} {Q : Value × List Value → Shared → Prop} (I : Inv X pins σ H s) (r : ClX.CRead X.K (ga X.K C) (.type "type")) (F : FnT X.prog X.w X.K X.mg X.base k C m sp)
    (h : ∀ s', Inv X pins σ H s' → Q (.ref (He5.wf X.K (ga X.K C) "staticmethod" m), []) s') : wpAny (model X.prog X.w) A (getMethod (.ref (ga X.K C)) m pl) Q E s := by
  obtain ⟨rest, hp⟩ := F.rc
  refine PySem.W.method_cls I.kIn r.ga ?_
  refine PySem.W.cls_bind I.kIn r.rd F.at_ ?_
  refine wpAny_call (PySem.W.sm_get (s := { s with toks := s.toks + 1 }) I.kIn hp (PySem.W.handed_on rfl ?_))
  exact h _ (I.tok _)
/-- C.m(..), C a class of the module -/
theorem de_smeth {pl : Sem Bool} (F : FnT X.prog X.w X.K X.mg X.base k C m sp) (r : ClX.CRead X.K (ga X.K C) (.type "type")) (G : Gd X W) (hr : Room k X.A) (hm : X.mg C = some (.ref (ga X.K C))) (ha : DA X W (e :: es) tl) (hg : Gl X C := by rfl) (hdb : (C == ("__debug__" : Str)) = false := by decide)
    (hst : starEach (e :: es) X.env = (false, eval e X.env) :: starEach es X.env := by rfl) (hpl : (backTo pos (starEach es X.env)).any (·.1) = false := by rfl)
    (ht : eval (.Call (.Attribute (.Name C p) m apos) (e :: es) [] pos) X.env = (do
      let ov ← eval (.Name C p) X.env
      standAt apos.atName
      let (f, first) ← holding [ov] (getMethod ov m pl)
      callWith pos f first (backTo pos (starEach (e :: es) X.env)) (backToKw pos (keywordEach [] X.env))) := by rfl) : DE X W (.Call (.Attribute (.Name C p) m apos) (e :: es) [] pos) (dCall sp tl) := by
  refine ⟨fun pins s σ H Q I h => ?_⟩
  obtain ⟨τ, M, Q0, E0, S, h⟩ := h
  refine PySem.W.methodCall_KW (pl := pl) (ld_glob I hg hm ?_ hdb) ht
  refine getst_ok I r F fun s1 I1 => ?_
  refine PySem.W.callWith_K (first := []) (h₀ := X.base) I1.ok.mod.kin F.kp (thn (ha.run pos pins s1 σ H _ I1 (S.sub (Q1 := fun vs H2 => lsp X.K sp vs H2 Q (WE W σ)) h fun ds M2 vs H2 h4 r4 S4 s4 => S4.call r4 h4 fun d M5 z H5 h5 r5 S5 s5 => S5.end_ h5 r5)) fun us s2 ⟨vs, H2, I2, r, q2⟩ => ⟨I2.kIn, ?_⟩) hst hpl
  exact run_S F.run G.tk hr I2.env0 I2 r q2
theorem de_smeth0 {pl : Sem Bool} (F : FnT X.prog X.w X.K X.mg X.base k C m sp) (r : ClX.CRead X.K (ga X.K C) (.type "type")) (G : Gd X W) (hr : Room k X.A) (hm : X.mg C = some (.ref (ga X.K C))) (hg : Gl X C := by rfl) (hdb : (C == ("__debug__" : Str)) = false := by decide)
    (ht : eval (.Call (.Attribute (.Name C p) m apos) [] [] pos) X.env = (do
      let ov ← eval (.Name C p) X.env
      standAt apos.atName
      let (f, first) ← holding [ov] (getMethod ov m pl)
      callWith pos f first (backTo pos (starEach [] X.env)) (backToKw pos (keywordEach [] X.env))) := by rfl) : DE X W (.Call (.Attribute (.Name C p) m apos) [] [] pos) (dCall sp daNil) := by
  refine ⟨fun pins s σ H Q I h => ?_⟩
  obtain ⟨τ, M, Q0, E0, S, h⟩ := h
  refine PySem.W.methodCall_KW (pl := pl) (ld_glob I hg hm ?_ hdb) ht
  refine getst_ok I r F fun s1 I1 => ?_
  exact PySem.W.callWith_K0 (first := []) I1.kIn F.kp (run_S (us := []) (vs := []) F.run G.tk hr I1.env0 I1 .nil (S.call .nil h fun d M5 z H5 h5 r5 S5 s5 => S5.end_ h5 r5))
def cvalB (C f : Str) (v : V) (K : PySem.W.Frag) : Bool := match PySem.W.findCls K (.ref (ga K C)) (.type "type") f with
  | some (.val u) => relB v u
  | _ => false
theorem cvalB_ok {K : PySem.W.Frag} {v : V} (h : cvalB C f v K = true) : ∃ u, ClX.CVal K (ga K C) (.type "type") f v u := by
  unfold cvalB at h
  split at h
  · rename_i u e; exact ⟨u, e, relB_ok h⟩
  · cases h
theorem de_cval {d : D} {v : V} (h : ∃ u, ClX.CVal X.K (ga X.K C) (.type "type") f v u) (r : ClX.CRead X.K (ga X.K C) (.type "type")) (hm : X.mg C = some (.ref (ga X.K C))) (rd : ∀ M H, Rep X.K M H d v) (hg : Gl X C := by rfl) (hdb : (C == ("__debug__" : Str)) = false := by decide)
    (hb : attributeBase (.Name C p) f X.env (eval (.Name C p) X.env) = eval (.Name C p) X.env := by rfl) : DE X W (.Attribute (.Name C p) f pos) (dC d) := by
  obtain ⟨u, k⟩ := h
  exact PE.of (ClX.pe_cval (pe_glob (v := .ref (ga X.K C)) hg hm rfl hdb) hb) fun σ H Q ⟨τ, M, Q0, E0, S, h⟩ => ⟨_, _, v, u, rfl, r, k, S.end_ h (rd M H)⟩
/-! ### isinstance(x, C) -/
/-- what isinstance asks of the class -/
structure IsC (K : PySem.W.Frag) (C : Str) : Prop where
  cl : Cls K (ga K C)
  ca : PySem.W.findIn K (.ref (ga K C)) "__class__" = some (some (.builtin "object.__class__"))
  cn : PySem.W.specialIn K (.builtin "object.__class__") "__get__" = some (some (.builtin "getset_descriptor.__get__"))
  ct : PySem.W.takesIn K (.builtin "object.__class__") = some true
  cm : PySem.W.mroIn K (ga K C) (.type "object") = some true
  no : ∀ T ∈ ["NoneType", "bool", "int", "str", "list", "tuple", "dict"], PySem.W.kitOne K (.type T) (.ref (ga K C)) = some false
def isCB (C : Str) (K : PySem.W.Frag) : Bool := decide (PySem.W.findIn K (.ref (ga K C)) "__class__" = some (some (.builtin "object.__class__"))) && (decide (PySem.W.specialIn K (.builtin "object.__class__") "__get__" = some (some (.builtin "getset_descriptor.__get__"))) &&
  (decide (PySem.W.takesIn K (.builtin "object.__class__") = some true) && (decide (PySem.W.mroIn K (ga K C) (.type "object") = some true) && ["NoneType", "bool", "int", "str", "list", "tuple", "dict"].all fun T => decide (PySem.W.kitOne K (.type T) (.ref (ga K C)) = some false))))
theorem isCB_ok {K : PySem.W.Frag} (c : Cls K (ga K C)) (h : isCB C K = true) : IsC K C := by
  obtain ⟨h1, h⟩ := ba h
  obtain ⟨h2, h⟩ := ba h
  obtain ⟨h3, h⟩ := ba h
  obtain ⟨h4, h5⟩ := ba h
  exact ⟨c, of_decide_eq_true h1, of_decide_eq_true h2, of_decide_eq_true h3, of_decide_eq_true h4, fun T hT => of_decide_eq_true (List.all_eq_true.mp h5 T hT)⟩
/-- x is no instance of an own class: its type; or an instance of C -/
def gIsC (C : Str) : DCb := fun xs M Q => match xs with
  | [d, .cl c] => c = C ∧ ((isIns C M d ∧ Q (.bl true) M) ∨ ((∃ n, tyD M d = some n) ∧ Q (.bl false) M))
  | _ => False
theorem cb_isC {K : PySem.W.Frag} (c : IsC K C) : CbD K (gIsC C) (rIsi K) := fun M H xs vs Q0 Q co r h q => by
  match xs, h with
  | [d, .cl c'], h =>
    obtain ⟨h0, h⟩ := h
    subst h0
    obtain ⟨v, u, rfl, r1, r2⟩ := r.uncons
    obtain ⟨w, u, rfl, r3, r4⟩ := r2.uncons
    cases r4.unnil; cases r3
    rcases h with ⟨h1, h2⟩ | ⟨⟨n, h1⟩, h2⟩
    · obtain ⟨a, fs, dx, gs, rfl, rfl, hM, hH, _⟩ := isIns_at h1 r1 co
      exact ⟨.ref a, .ref _, .ref _, .ref _, true, rfl, .own _, .base (.ins hH c.cl c.ca c.cn c.ct c.cm), by unfold PySem.W.kitOne; rw [if_pos (beq_self_eq_true _)], q _ M _ H h2 rfl co (Stp.refl M H)⟩
    · obtain ⟨t1, t2⟩ := ty_rep co r1 h1
      exact ⟨v, .ref _, .type n, .ref _, false, rfl, .own _, t1, c.no n t2, q _ M _ H h2 rfl co (Stp.refl M H)⟩
end
end DL

namespace DL
open PySem L2 He
/-! ### len(o), list(o): the class's __len__ gives len(self.f), its __iter__ iter(self.f) -/
def spLenH (K : PySem.W.Frag) (C f : Str) : Sp := fun vs H Q _ => ∃ a dx gs l xs, vs = [.ref a] ∧ H a = some (.ins (ga K C) dx gs) ∧ gs.lookup f = some (.ref l) ∧ H l = some (.lst xs) ∧ Q (.int xs.length) H
/-- __iter__: a new iterator, younger than the call -/
def spIterS (K : PySem.W.Frag) (C f : Str) (n : Nat) : Sp := fun vs H Q _ => ∃ a dx gs l xs, vs = [.ref a] ∧ H a = some (.ins (ga K C) dx gs) ∧ gs.lookup f = some (.ref l) ∧ H l = some (.lst xs) ∧ ∀ it, H it = none → n ≤ it → Q (.ref it) (upd H it (ItO l it 0))
def FnI (P : Program) (w : World) (K : PySem.W.Frag) (mg : Str → Option Value) (base : Heap) (k : Nat) (g : Addr) (C f : Str) : Prop :=
  ∀ (A : Around) (outer : List Env) (s : Shared) (H : Hp) (us : List Value) (vs : List V) (Q : VK) (E : XK), Room k A → Env0 P w K mg base A outer s H → Vals vs us → spIterS K C f s.heap.objs.size vs H Q E →
    codeAny (model P w) A (.call (.ref g) ⟨us, []⟩) (CR (L2.CX P w) outer P w H s Q E) s
theorem fnI_of {P : Program} {w : World} {K : PySem.W.Frag} {mg : Str → Option Value} {base : Heap} {k : Nat} {g : Addr} {x qual C f : Str} {params : Arguments} {body : List Stmt} {scope : Scope} {N ps : List Str} {fd : FuncData} (F : FunD K x qual params body scope [] [] g fd) (S : FnScope N ps scope) (hb : Binds K fd ps []) (hl1 : ps.length = 1)
    (hbody : ∀ (cdv : Value) (A : Around) (outer : List Env) (s : Shared) (H : Hp) (vs : List V) (Q : VK) (E : XK), spIterS K C f s.heap.objs.size vs H Q E →
      ∃ t, PSs (cxOf (L2.CX P w) P w K mg base N qual scope g cdv A outer s H E) body t ∧ t { nx := fun _ H' => Q .non H', rt := Q } (start N vs) H) : FnI P w K mg base (k + 1) g C f := by
  intro A outer s H us vs Q E hr e0 r hsp
  obtain ⟨oc, od, dV, kV, doc, pm, an, cdv, ct, osl, rfl, lk, hcd, _, _⟩ := F.ex
  have hl : vs.length = ps.length := by
    obtain ⟨a, _, _, _, _, e, _⟩ := hsp
    rw [e, hl1]
    rfl
  have KX : K.In s.heap := e0.mod.kin.keeps fun b o e => (e0.bs b o e).1
  have lim : s.heap.NoLimit := e0.mod.nolimit.keeps fun b o e => (e0.bs b o e).1
  have hbt := hb s us KX (by rw [List.append_nil, ← r.length]; exact hl)
  rw [List.append_nil] at hbt
  have hkind : ∀ y ∈ ps.zip us, scope.names.lookup y.1 = some .local ∨ (scope.names.lookup y.1 = some .cell ∧ ((cellsFrom (s.heap.objs.size + 1) scope.names []).lookup y.1).isSome = true) := fun ⟨n, v⟩ hy => by
    rcases S.par n (List.of_mem_zip hy).1 with q | q
    · exact .inl q
    · exact .inr ⟨q, PySem.W.cellsFrom_some _ _ _ (.inl q)⟩
  refine codeAny_call_function hr.depth (KX _ _ lk) rfl S.co S.gen rfl (PySem.W.codeRec_of KX hcd) (hbt _ _ _ _ ?_)
  refine wpAny_newFunctionEnv_cells S.kind hkind fun env he s1 x => ?_
  subst he
  refine ⟨lim.keeps x.toInCall.keep, codeAny_func ?_⟩
  obtain ⟨t, ht, hq⟩ := hbody cdv A outer s H vs Q E hsp
  have I : Inv (cxOf (L2.CX P w) P w K mg base N qual scope g cdv A outer s H E) [] (start N vs) H s1 := inv_start S hr.hd e0 hl r x
  refine wpAny_mono (ht.run [] s1 (start N vs) H _ I hq) (fun fl s' hs => ?_) fun e s' hs => hs
  have fin : ∀ {σ' : L2.St} {H' : Hp} {v : V} {u : Value}, Inv (cxOf (L2.CX P w) P w K mg base N qual scope g cdv A outer s H E) [] σ' H' s' → RelV v u → Q v H' → CE outer P w H s Q u s' :=
    fun {σ' H' v u} J rv q => ⟨v, H', J.os, J.bare, J.base, J.hok, rv, q⟩
  cases fl with
  | ret u =>
    obtain ⟨v, σ', H', J, rv, q⟩ := hs
    exact fin J rv q
  | next =>
    obtain ⟨σ', H', J, q⟩ := hs
    exact fin (v := V.non) (u := Value.none) J rfl q
  | brk =>
    obtain ⟨_, _, _, q⟩ := hs
    exact False.elim q
  | cont =>
    obtain ⟨_, _, _, q⟩ := hs
    exact False.elim q
structure LenC (P : Program) (w : World) (K : PySem.W.Frag) (mg : Str → Option Value) (base : Heap) (C f : Str) : Prop where
  m : Meth K (ga K C) "__len__" (ma K (ga K C) "__len__")
  run : FnR P w K mg base (L2.CX P w) 1 (ma K (ga K C) "__len__") (spLenH K C f)
structure IterC (P : Program) (w : World) (K : PySem.W.Frag) (mg : Str → Option Value) (base : Heap) (C f : Str) : Prop where
  m : Meth K (ga K C) "__iter__" (ma K (ga K C) "__iter__")
  run : FnI P w K mg base 1 (ma K (ga K C) "__iter__") C f
def rLenO (K : PySem.W.Frag) (C f : Str) : List V → Hp → VK → Prop := fun xs H Q => ∃ a dx gs l ys, xs = [.ref a] ∧ H a = some (.ins (ga K C) dx gs) ∧ gs.lookup f = some (.ref l) ∧ H l = some (.lst ys) ∧ Q (.int ys.length) H
def rListO (K : PySem.W.Frag) (C f : Str) : List V → Hp → VK → Prop := fun xs H Q => ∃ a dx gs l ys, xs = [.ref a] ∧ H a = some (.ins (ga K C) dx gs) ∧ gs.lookup f = some (.ref l) ∧ H l = some (.lst ys) ∧ ∀ q, H q = none → Q (.ref q) (upd H q (.lst ys))
section
variable {X : Cx} {W : WX} {C f : Str} {pins : List (Addr × Obj)} {σ : L2.St} {H : Hp} {s : Shared}
/-- the class's __len__ at work, in any place below -/
theorem len_at {A : Around} {E : Value → Shared → Prop} {Q : Value → Shared → Prop} {a dx l : Addr} {gs : List (Str × V)} {ys : List V} (L : LenC X.prog X.w X.K X.mg X.base C f) (hr : Room 1 A.in1) (e0 : Env0 X.prog X.w X.K X.mg X.base A.in1 X.stack s H) (I : Inv X pins σ H s)
    (hH : H a = some (.ins (ga X.K C) dx gs)) (hf : gs.lookup f = some (.ref l)) (hl : H l = some (.lst ys)) (hz : ys.length ≤ sizeLine) (h : ∀ t s', Inv X pins σ H s' → Q (.int ys.length t) s') : wpAny (model X.prog X.w) A (call (.builtin "len") [.ref a]) Q E s := by
  obtain ⟨mA, O, _⟩ := ins_get I.hok hH
  obtain ⟨od, J, _⟩ := O.look
  obtain ⟨m0, hF⟩ := I.fr
  refine PySem.W.len_K hF I.ok.mod.kin J L.m.at_ L.m.fn ?_
  refine wpAny_call (codeAny_mono (L.run A.in1 X.stack s H [.ref a] [.ref a] (fun v H' => v = .int ys.length ∧ H' = H) (fun _ _ _ => False) hr e0 (.cons rfl .nil) ⟨a, dx, gs, l, ys, rfl, hH, hf, hl, rfl, rfl⟩) fun r s' hq => ?_)
  cases r with
  | error er => exact (cx_no hq).elim
  | ok fl =>
    cases fl with
    | ret u =>
      obtain ⟨v, H', I3, rv, rfl, rfl⟩ := I.after hq
      obtain ⟨t, rfl⟩ := rv
      have := line24
      exact ⟨⟨Int.natCast_nonneg _, by have : ys.length < 2 ^ 63 := by omega
                                       exact_mod_cast this⟩, h _ _ (I3.tok _)⟩
    | next => exact False.elim hq
    | brk => exact False.elim hq
    | cont => exact False.elim hq
theorem call_lenO (L : LenC X.prog X.w X.K X.mg X.base C f) (hr : Room 2 X.A) : CallR X (.builtin "len") (rLenO X.K C f) := by
  intro pins s σ H xs us Q I r h
  obtain ⟨a, dx, gs, l, ys, rfl, hH, hf, hl, q⟩ := h
  obtain ⟨u, rfl, ru⟩ := r.one
  cases ru
  exact len_at L hr.in1 I.env0.in1 I hH hf hl (I.lstM hl).1 fun t s' I' => ⟨.int ys.length, H, I', ⟨t, rfl⟩, q⟩

/-- the rest of the walk -/
theorem ext_loop {q it l : Addr} {ys : List V} {Rs : Result → Shared → Prop} (hc : X.calm = true) {A1 : Around} (hh : A1.handled = none) (hql : l ≠ q) (hqi : it ≠ q) (hdone : ∀ H' s', Inv X pins σ H' s' → (H' q = some (.lst ys) ∧ ∀ b, b ≠ q → H' b = H b) → Rs (.ok (.ret .none)) s') :
    ∀ (n i : Nat) (H' : Hp) (s : Shared), n + i = ys.length → Inv X pins σ H' s → FpOk X pins H' it → (H' q = some (.lst (ys.take i)) ∧ ∀ b, b ≠ q → H' b = H b) → H' l = some (.lst ys) → s.heap.IsListIter it l i →
      codeAny (model X.prog X.w) A1 (.builtin "list.extend.loop" ⟨[.ref q, .ref it, .none], []⟩) Rs s := by
  intro n
  induction n with
  | zero =>
    intro i H' s hn I F hq hl hit
    refine codeAny_builtin PySem.F.entry_extend_loop ?_
    rw [Around.under_plainId PySem.F.plain_extend_loop _]
    show wpAny _ A1.in1 (pyNext (.ref it) >>= _) _ _ s
    obtain ⟨f0, f1, f2, f3, f4, f5⟩ := F
    obtain ⟨z, its, k, rv, hlen, e⟩ := I.lstM hl
    have pl : s.heap.IsList l its.toArray := ⟨_, e, rfl, _, rfl⟩
    refine wpAny_bind (wpAny_pyNext_list_end hh hit pl (by simp; omega) fun h' eb => ?_)
    refine wpAny_pure (hdone H' _ (I.turned (t' := s.toks) (fun b o hb e => eb b o hb e) f0 f1 f3 f4 f5) ?_)
    rw [List.take_of_length_le (by omega)] at hq
    exact hq
  | succ n ih =>
    intro i H' s hn I F hq hl hit
    refine codeAny_builtin PySem.F.entry_extend_loop ?_
    rw [Around.under_plainId PySem.F.plain_extend_loop _]
    show wpAny _ A1.in1 (pyNext (.ref it) >>= _) _ _ s
    obtain ⟨f0, f1, f2, f3, f4, f5⟩ := id F
    obtain ⟨z, its, k, rv, hlen, e⟩ := I.lstM hl
    have pl : s.heap.IsList l its.toArray := ⟨_, e, rfl, _, rfl⟩
    have hi : i < ys.length := by omega
    obtain ⟨u, hu, ru⟩ := rv.get (List.getElem?_eq_getElem hi)
    refine wpAny_bind (wpAny_pyNext_list_item hit pl (x := u) (by simpa using hu) fun h' st' sb => ?_)
    have I1 : Inv X pins σ H' { s with heap := h' } := I.turned (t' := s.toks) (fun b o hb e => (sb.2 b hb).trans e) f0 f1 f3 f4 f5
    show wpAny _ A1.in1 (updateSeq q (·.push u) >>= _) _ _ _
    obtain ⟨z2, its2, k2, r2, hl2, e2⟩ := I1.lstM hq.1
    have hz3 : (ys.take i ++ [ys[i]]).length ≤ sizeLine := by
      rw [List.length_append, List.length_take, List.length_singleton]
      omega
    have hz4 : its2.length = i := by
      rw [← hl2, List.length_take]
      omega
    refine wpAny_bind (wpAny_updateSeq e2 rfl (wpAny_pure ⟨plainId_quiet PySem.F.plain_extend_loop _, ?_⟩) (by rw [List.size_toArray]; omega) (by show (its2.toArray.push u).size ≤ sizeLine + 1; rw [Array.size_push, List.size_toArray]; omega))
    have I2 := I1.lset (f := (·.push u)) (its' := its2 ++ [u]) (t' := s.toks) hq.1 e2 (by simp) (r2.append (.cons ru .nil)) hz3
    have ne : H' it = none := f0
    have F2 : FpOk X pins (upd H' q (.lst (ys.take i ++ [ys[i]]))) it := ⟨by rw [upd_ne hqi]; exact f0, f1, f2, f3, f4, f5⟩
    refine ih (i + 1) _ _ (by omega) I2 F2 ⟨?_, fun b hb => by rw [upd_ne hb]; exact hq.2 b hb⟩ (by rw [upd_ne hql]; exact hl) ?_
    · rw [upd_same, List.take_succ, List.getElem?_eq_getElem hi]
      rfl
    · obtain ⟨o, ho, c1, d1⟩ := st'
      exact ⟨o, (Heap.get?_update_other h' (Obj.mapSeq (·.push u)) (Ne.symm hqi)).trans ho, c1, d1⟩
end
end DL

namespace DL
open PySem L2 He
section
variable {X : Cx} {W : WX} {C f : Str} {pins : List (Addr × Obj)} {σ : L2.St} {H : Hp} {s : Shared}
/-- the class's __iter__ at work -/
theorem iter_at {A : Around} {E : Value → Shared → Prop} {Q : Value → Shared → Prop} {a dx l : Addr} {gs : List (Str × V)} {ys : List V} (T : IterC X.prog X.w X.K X.mg X.base C f) (hr : Room 1 A) (e0 : Env0 X.prog X.w X.K X.mg X.base A X.stack s H) (I : Inv X pins σ H s)
    (hH : H a = some (.ins (ga X.K C) dx gs)) (hf : gs.lookup f = some (.ref l)) (hl : H l = some (.lst ys)) (h : ∀ it s', H it = none → s.heap.objs.size ≤ it → Inv X pins σ (upd H it (ItO l it 0)) s' → Q (.ref it) s') : wpAny (model X.prog X.w) A (pyIter (.ref a)) Q E s := by
  obtain ⟨mA, O, _⟩ := ins_get I.hok hH
  obtain ⟨od, J, _⟩ := O.look
  obtain ⟨m0, hF⟩ := I.fr
  refine PySem.W.owit_iter hF I.ok.mod.kin J T.m.at_ T.m.fn ?_
  refine wpAny_call (codeAny_mono (T.run A X.stack s H [.ref a] [.ref a] (fun v H' => ∃ it, v = .ref it ∧ H it = none ∧ s.heap.objs.size ≤ it ∧ H' = upd H it (ItO l it 0)) (fun _ _ _ => False) hr e0 (.cons rfl .nil) ⟨a, dx, gs, l, ys, rfl, hH, hf, hl, fun it hn hs => ⟨it, rfl, hn, hs, rfl⟩⟩) fun r s' hq => ?_)
  cases r with
  | error er => exact (cx_no hq).elim
  | ok fl =>
    cases fl with
    | ret u =>
      obtain ⟨v, H', I3, rv, it, rfl, hn, hsz, rfl⟩ := I.after hq
      cases rv
      have hob : s'.heap.get? it = some (GNX.itObj l 0) := (show _ ∧ _ from I3.hok it _ upd_same).1
      have hT : s'.TypeIs (.ref it) "list_iterator" := ⟨_, hob, rfl⟩
      unfold PySem.W.OwitIt
      exact wpAny_specialOf (name := Str.ofString "__next__") hT slot_listiter_next.lookup (h it s' hn hsz I3)
    | next => exact False.elim hq
    | brk => exact False.elim hq
    | cont => exact False.elim hq
theorem silent_ref (g : Addr) : (match (some (Value.ref g) : Option Value) with
  | some (.builtin id) => true
  | _ => false) = false := rfl
theorem hint_len {A : Around} {E : Value → Shared → Prop} {Q : Bool → Shared → Prop} {a dx l : Addr} {gs : List (Str × V)} {ys : List V} (L : LenC X.prog X.w X.K X.mg X.base C f) (hr : Room 1 A.in1) (e0 : Env0 X.prog X.w X.K X.mg X.base A.in1 X.stack s H) (I : Inv X pins σ H s)
    (hH : H a = some (.ins (ga X.K C) dx gs)) (hf : gs.lookup f = some (.ref l)) (hl : H l = some (.lst ys)) (h : ∀ b s', Inv X pins σ H s' → Q b s') : wpAny (model X.prog X.w) A (Builtin.List.listLengthHint (.ref a)) Q E s := by
  obtain ⟨mA, O, _⟩ := ins_get I.hok hH
  obtain ⟨od, J, _⟩ := O.look
  unfold Builtin.List.listLengthHint
  refine wpAny_bind (wpAny_bind (J.type.here ((PySem.W.looks_findIn I.kIn L.m.at_).here ?_)))
  refine PySem.W.KFB.if_not rfl ?_
  refine PySem.W.KFB.if_so rfl ?_
  refine wpAny_bind (wpAny_rule ?_)
  refine wpAny_bind (wpAny_attempt (len_at L hr e0 I hH hf hl (I.lstM hl).1 fun t s' I' => ?_))
  show wpAny _ _ (if Builtin.List.listTooLong ((ys.length : Int)).toNat then _ else _) _ _ _
  have hz := (I.lstM hl).1
  have e : Builtin.List.listTooLong ((ys.length : Int)).toNat = false := by
    rw [Int.toNat_natCast]
    exact notLongL hz
  rw [e]
  refine PySem.W.KFB.if_not rfl ?_
  exact wpAny_pure (h _ _ I')
theorem call_listO (T : IterC X.prog X.w X.K X.mg X.base C f) (L : LenC X.prog X.w X.K X.mg X.base C f) (hc : X.calm = true) (hr : Room 5 X.A) : CallR X (.type "list") (rListO X.K C f) := by
  intro pins s σ H xs us Q I rv h
  obtain ⟨a, dx, gs, l, ys, rfl, ha, hf, hl, hq⟩ := h
  obtain ⟨u, rfl, ru⟩ := rv.one
  cases ru
  refine callType_codes (Q₁ := fun obj s₁ => obj = .ref s.heap.objs.size ∧ s₁ = { s with heap := s.heap.push { cls := .type "list", data := .seq #[] } }) PySem.F.called_list (PySem.F.typeCall_list_1 _) PySem.F.entry_list_init
    (code_list_new _ ⟨rfl, rfl⟩) fun obj s₁ h₁ => ?_
  obtain ⟨rfl, rfl⟩ := h₁
  have hS : (s.heap.push { cls := .type "list", data := .seq #[] }).get? s.heap.objs.size = some { cls := .type "list", data := .seq #[] } := Heap.get?_push_size _ rfl
  refine ⟨⟨_, hS, rfl⟩, PySem.F.args_list_init_2 _ _, ?_⟩
  have fr : H s.heap.objs.size = none := I.hok.fresh (Nat.le_refl _)
  have hQ := hq _ fr
  have I1 : Inv X pins σ (upd H s.heap.objs.size (.lst [])) { s with heap := s.heap.push { cls := .type "list", data := .seq #[] } } := I.lnew (its := []) (t' := s.toks) .nil (Nat.zero_le _)
  show wpAny _ _ (do let old ← Builtin.List.listItems (.ref s.heap.objs.size); Builtin.List.listUpdate (.ref s.heap.objs.size) (fun _ => #[]); letGo old.toList.reverse; Builtin.List.listExtendWith (.ref s.heap.objs.size) (.ref a) .none) _ _ _
  refine wpAny_bind ?_
  unfold Builtin.List.listItems
  refine wpAny_bind (wpAny_seqItems hS rfl (wpAny_pure ?_))
  show wpAny _ _ (updateSeq s.heap.objs.size (fun _ => #[]) >>= fun _ => letGo (#[] : Array Value).toList.reverse >>= fun _ => Builtin.List.listExtendWith (.ref s.heap.objs.size) (.ref a) .none) _ _ _
  refine wpAny_bind (wpAny_updateSeq hS rfl ?_)
  have I2 := I1.lset (f := fun _ => #[]) (its := []) (its' := []) (ys := []) (t' := s.toks) upd_same hS rfl .nil (Nat.zero_le _)
  rw [upd_upd] at I2
  refine wpAny_bind (wpAny_letGo ?_)
  generalize s.heap.objs.size = q at *
  have hne : q ≠ a := fun z => by rw [z, ha] at fr; cases fr
  have hql : l ≠ q := fun z => by rw [← z, hl] at fr; cases fr
  have ha2 : upd H q (.lst []) a = some (.ins (ga X.K C) dx gs) := by rw [upd_ne (Ne.symm hne)]; exact ha
  have hl2 : upd H q (.lst []) l = some (.lst ys) := by rw [upd_ne hql]; exact hl
  obtain ⟨mA, O, _⟩ := ins_get I2.hok ha2
  obtain ⟨od, J, _⟩ := O.look
  unfold Builtin.List.listExtendWith
  refine wpAny_bind (J.type.here ?_)
  have h1 : Builtin.List.listSameRef (.ref q) (.ref a) = false := by simp [Builtin.List.listSameRef, hne]
  have h2 : (Value.ref (ga X.K C) == Value.type "list") = false := rfl
  have h3 : (Value.ref (ga X.K C) == Value.type "tuple") = false := rfl
  simp only [h1, h2, h3, Bool.or_false, Bool.false_eq_true, if_false]
  have r1 : Room 4 X.A.in1 := Room.in1 hr
  have r2 : Room 3 X.A.in1.in1 := Room.in1 r1
  have r3 : Room 2 X.A.in1.in1.in1 := Room.in1 r2
  refine wpAny_bind (iter_at T (r2.mono (by decide)) I2.env0.in1.in1 I2 ha2 hf hl2 fun it s3 hn hsz I3 => ?_)
  have hqi : it ≠ q := fun z => by rw [z, upd_same] at hn; cases hn
  have hia : a ≠ it := fun z => by rw [← z, ha2] at hn; cases hn
  have hil : l ≠ it := fun z => by rw [← z, hl2] at hn; cases hn
  refine wpAny_bind (wpAny_holding (hint_len L (r3.mono (by decide)) I3.env0.in1.in1.in1 I3 (by rw [upd_ne hia]; exact ha2) hf (by rw [upd_ne hil]; exact hl2) fun b s4 I4 => ?_))
  have hob : s4.heap.get? it = some (GNX.itObj l 0) := (show _ ∧ _ from I4.hok it _ upd_same).1
  have hsz2 : X.s_0.heap.objs.size ≤ it := Nat.le_trans I2.sz hsz
  have F4 : FpOk X pins (ItX.dropH (upd (upd H q (.lst [])) it (ItO l it 0)) it) it := ItX.inv_fp I4 upd_same hsz2
  have I5 := ItX.inv_drop I4 upd_same
  rw [ItX.dropH_upd hn] at I5 F4
  have fin : ∀ (H' : Hp) (s' : Shared), Inv X pins σ H' s' → (H' q = some (.lst ys) ∧ ∀ b, b ≠ q → H' b = upd H q (.lst []) b) → wants (fun r s₂ => r = .none ∧ EP X pins σ Q (.ref q) s₂) X.xe (.ok (.ret .none)) s' := fun H' s' I' hq' => by
    have e : H' = upd H q (.lst ys) := funext fun b => by
      by_cases z : b = q
      · rw [z, upd_same, hq'.1]
      · rw [hq'.2 b z, upd_ne z, upd_ne z]
    rw [e] at I'
    exact ⟨rfl, .ref q, _, I', rfl, hQ⟩
  have loop : ∀ s', Inv X pins σ (upd H q (.lst [])) s' → s'.heap.IsListIter it l 0 → codeAny (model X.prog X.w) X.A.in1 (.builtin "list.extend.loop" ⟨[.ref q, .ref it, .none], []⟩) (wants (fun r s₂ => r = .none ∧ EP X pins σ Q (.ref q) s₂) X.xe) s' :=
    fun s' I' hit => ext_loop (A1 := X.A.in1) hc (I'.ok.hd hc) hql hqi fin ys.length 0 _ s' (by omega) I' F4 ⟨by rw [upd_same, List.take_zero], fun b hb => rfl⟩ hl2 hit
  have hit4 : s4.heap.IsListIter it l 0 := ⟨_, hob, rfl, rfl⟩
  refine wpAny_ite_split (fun _ => ?_) (fun _ => wpAny_pure ⟨plainId_quiet PySem.F.plain_extend_loop _, loop s4 I5 hit4⟩)
  refine wpAny_bind (wpAny_rule ?_)
  refine wpAny_bind ?_
  show wpAny _ _ (updateSeq q (·.push .none) >>= fun _ => updateSeq q (·.pop)) _ _ _
  obtain ⟨z5, its5, k5, r5, hl5, e5⟩ := I5.lstM upd_same
  cases r5
  refine wpAny_bind (wpAny_updateSeq e5 rfl ?_)
  have I6 := I5.lset (f := (·.push Value.none)) (its' := [Value.none]) (ys := [.non]) (t' := s4.toks) upd_same e5 (by simp) (.cons rfl .nil) (by rw [List.length_singleton, sizeLine_eq]; decide)
  obtain ⟨z7, its7, k7, r7, hl7, e7⟩ := I6.lstM upd_same
  obtain ⟨u7, rfl, ru7⟩ := r7.one
  refine wpAny_updateSeq e7 rfl ?_ (by show 1 ≤ sizeLine; rw [sizeLine_eq]; decide) (by show 0 ≤ sizeLine + 1; exact Nat.zero_le _)
  have I8 := I6.lset (f := (·.pop)) (its := [u7]) (its' := []) (ys := []) (t' := s4.toks) upd_same e7 (by rfl) .nil (Nat.zero_le _)
  rw [upd_upd, upd_upd] at I8
  refine wpAny_pure ⟨plainId_quiet PySem.F.plain_extend_loop _, loop _ I8 ?_⟩
  obtain ⟨o, ho, c1, d1⟩ := hit4
  exact ⟨o, (Heap.get?_update_other _ (Obj.mapSeq (·.pop)) (Ne.symm hqi)).trans ((Heap.get?_update_other _ (Obj.mapSeq (·.push Value.none)) (Ne.symm hqi)).trans ho), c1, d1⟩
end
section
variable {K : PySem.W.Frag} {C f : Str}
theorem cb_lenO : CbD K (gLenO C f) (rLenO K C f) := fun M H xs vs Q0 Q c r h q => by
  match xs, h with
  | [d], h =>
    obtain ⟨v, u, rfl, r1, r2⟩ := r.uncons
    cases r2.unnil
    obtain ⟨a, dx, gs, l, ds, vs, rfl, h1, h2, h3, h4, h5, h6⟩ := onRows_at h r1 c
    exact ⟨a, dx, gs, l, vs, rfl, h1, h2, h3, by rw [h5.length]; exact q _ M _ H h6 rfl c (Stp.refl M H)⟩
theorem cb_listO : CbD K (gListO C f) (rListO K C f) := fun M H xs vs Q0 Q c r h q => by
  match xs, h with
  | [d], h =>
    obtain ⟨v, u, rfl, r1, r2⟩ := r.uncons
    cases r2.unnil
    obtain ⟨a, dx, gs, l, ds, vs, rfl, h1, h2, h3, h4, h5, h6⟩ := onRows_at h r1 c
    exact ⟨a, dx, gs, l, vs, rfl, h1, h2, h3, new_lst c h5 h6 q⟩
theorem cb_listOM : CbD K (gListOM C f) (rListO K C f) := fun M H xs vs Q0 Q c r h q => by
  match xs, h with
  | [d], h =>
    obtain ⟨v, u, rfl, r1, r2⟩ := r.uncons
    cases r2.unnil
    obtain ⟨a, dx, gs, l, ds, vs, rfl, h1, h2, h3, h4, h5, h6⟩ := onRows_at h r1 c
    exact ⟨a, dx, gs, l, vs, rfl, h1, h2, h3, new_lstM c h5 h6 q⟩
end
end DL

namespace DL
open PySem L2 He
/-! ### a def with a star parameter -/
def starSp (n : Nat) (sp : DSp) : DSp := fun ds M Q E => n ≤ ds.length ∧ ds.length ≤ 16777216 ∧ sp (ds.take n ++ [.tup (ds.drop n)]) M Q E
theorem def_star {P : Program} {w : World} {K : PySem.W.Frag} {mg : Str → Option Value} {base : Heap} {x qual : Str} {st : Stmt} {f : Addr} {fd : FuncData} {N ps : List Str} {pv : Str} {k : Nat} {sp : DSp} {t : DTS}
    (F : FunD K x qual (defArgs st) (defBody st) (defScope st) [] [] f fd) (S : FnScope N (ps ++ [pv]) (defScope st)) (len : ∀ ds M Q E, sp ds M Q E → ds.length = ps.length + 1)
    (hbind : ∀ (kV doc pm : Value) (an : Option Addr) (cdv ct : Value) (us rest : List Value), us.length = ps.length → bindArgs (PySem.W.fnOf x qual (defArgs st) (defBody st) (defScope st) .none kV doc pm an cdv ct) ⟨us ++ rest, []⟩ = (newTuple rest >>= fun t => pure (ps.zip us ++ [(pv, t)])))
    (hd : ∀ (cdv : Value) (A : Around) (outer : List Env) (s : Shared) (H : Hp) (E : XK), Gd (cxOf (L2.CX P w) P w K mg base N qual (defScope st) f cdv A outer s H E) (fun c d _ H => E c d H) → Room k (cxOf (L2.CX P w) P w K mg base N qual (defScope st) f cdv A outer s H E).A →
      DSs (cxOf (L2.CX P w) P w K mg base N qual (defScope st) f cdv A outer s H E) (fun c d _ H => E c d H) (defBody st) t)
    (hp : ∀ ds M Q E, sp ds M Q E → t { nx := fun _ M' => Q .non M', rt := Q, xc := fun x _ M' => E x M' } (ds.map some ++ List.replicate (N.length - (ps.length + 1)) none) M) :
    FnR P w K mg base (L2.CX P w) (k + 1) f (lsp K (starSp ps.length sp)) := by
  obtain ⟨oc, od, dV, kV, doc, pm, an, cdv, ct, osl, rfl, lk, hcd, hD, _⟩ := F.ex
  have e0 : dV = .none := by
    rcases hD with ⟨_, e⟩ | ⟨e, _⟩
    · exact e
    · exact absurd rfl e
  subst e0
  refine FnR.imp (StX.fn_star (k := k) (sp := lsp K sp) (ps := ps) (pv := pv) lk hcd S StX.cxUp (hbind kV doc pm an cdv ct) fun A outer s H vs Q E hr h => ?_) fun vs H Q E h => ?_
  · obtain ⟨ds, M, Q0, E0, r, c, h, hq, he⟩ := h
    have hl := len ds M Q0 E0 h
    refine ⟨lifS K (fun c d _ H => E c d H) t, ?_, ?_⟩
    · refine hd cdv A outer s H E ?_ hr
      exact ⟨rfl, takes_of rfl rfl rfl rfl, by have := hr.un; show A.units + 3 + 64 < cLine; have e : (A.deeper (PyProof.Rows.envOfC qual (defScope st) s.heap.objs.size f cdv)).units = A.units + 3 := rfl; omega, passes_of rfl, S.nd⟩
    · refine ⟨_, M, { nx := fun _ M' => Q0 .non M', rt := Q0, xc := fun x _ M' => E0 x M' }, ⟨?_, c, fun τ' M' σ' H' h r c' s' => hq .non M' .non H' h rfl c' s', hq, fun _ _ _ _ h => h.elim, fun _ _ _ _ h => h.elim, fun x τ' M' c d σ' H' h r _ c' s' => he x M' c d H' h r c' s'⟩, hp ds M Q0 E0 h⟩
      unfold L2.start
      rw [r.length, hl]
      exact RepS.start _ r
  · obtain ⟨ds, M, Q0, E0, r, c, ⟨h1, h2, h3⟩, hq, he⟩ := h
    have hl := r.length
    refine ⟨vs.take ps.length, vs.drop ps.length, (List.take_append_drop _ _).symm, by rw [List.length_take]; omega, by rw [List.length_drop, line24]; omega, fun p hp => ?_⟩
    have st : Stp M H M (upd H p (.tup (vs.drop ps.length))) := Stp.new hp
    refine ⟨ds.take ps.length ++ [.tup (ds.drop ps.length)], M, Q0, E0, ((r.take _).stp st).append (.cons (rep_tup upd_same (c.free hp) ((r.drop _).stp st)) .nil), c.new hp, h3, fun d M' v H' q r' c' s' => hq d M' v H' q r' c' (st.trans s'), fun x M' cc d H' q r' c' s' => he x M' cc d H' q r' c' (st.trans s')⟩
/-! ### rows -/
def onIns {K : List (Str × D) → Prop} (C : Str) (_ : Lk K) (o : Option MO) : Prop := match o with
  | some (.ins c fs) => c = C ∧ K fs
  | _ => False
theorem onIns_i {K : List (Str × D) → Prop} {C : Str} {fs : List (Str × D)} : onIns (K := K) C ⟨⟩ (some (.ins C fs)) = K fs := by show (C = C ∧ K fs) = K fs; simp
def onLst {K : List D → Prop} (_ : Lk K) (d : D) : Prop := match d with
  | .lst ds => K ds
  | _ => False
theorem onLst_l {K : List D → Prop} {ds : List D} : onLst (K := K) ⟨⟩ (.lst ds) = K ds := pq Iff.rfl
def isInsM (C : Str) (o : Option MO) : Prop := match o with
  | some (.ins c _) => c = C
  | _ => False
theorem isIns_r {C : Str} {M : Mu} {a : Addr} : isIns C M (.ref a) = isInsM C (M a) := pq Iff.rfl
theorem isInsM_i {C : Str} {fs : List (Str × D)} : isInsM C (some (.ins C fs)) = True := by show (C = C) = True; simp
def noFM (m : Str) (o : Option MO) : Prop := match o with
  | some (.ins _ fs) => ¬ m ∈ fs.map (·.1)
  | _ => False
theorem noF_r {m : Str} {M : Mu} {a : Addr} : noF M m (.ref a) = noFM m (M a) := pq Iff.rfl
theorem noFM_i {m C : Str} {fs : List (Str × D)} : noFM m (some (.ins C fs)) = ¬ m ∈ fs.map (·.1) := pq Iff.rfl
section
variable {C f m : Str} {sp : DSp} {ta tb te to tv ti : DTE} {tl : DTA} {τ : DSt} {M : Mu} {Q : DK} {E : DX} {D0 : DEnds} {i : Nat} {Qs : DSt → Mu → Prop} {d : D}
theorem u_fld : dFld C f te τ M Q E = te τ M (fun d M1 => onRef (K := fun a => onIns (K := fun fs => onSome (K := fun x => Q x M1) ⟨⟩ (fs.lookup f)) C ⟨⟩ (M1 a)) ⟨⟩ d) E := by
  unfold dFld
  congr 1
  funext d M1
  cases d with
  | ref a =>
    show (match M1 a with
      | some (.ins c fs) => c = C ∧ (match fs.lookup f with
        | some x => Q x M1
        | none => False)
      | _ => False) = onIns (K := fun fs => onSome (K := fun x => Q x M1) ⟨⟩ (fs.lookup f)) C ⟨⟩ (M1 a)
    cases M1 a with
    | none => rfl
    | some mo => cases mo with
      | ins c fs => show (c = C ∧ (match fs.lookup f with
        | some x => Q x M1
        | none => False)) = (c = C ∧ onSome (K := fun x => Q x M1) ⟨⟩ (fs.lookup f)); cases fs.lookup f <;> rfl
      | _ => rfl
  | _ => rfl
theorem u_setF : dSetF C f to tv D0 τ M = tv τ M (fun y M1 => to τ M1 (fun d M2 => onRef (K := fun a => onIns (K := fun fs => fs.length < 1000 ∧ D0.nx τ (put M2 a (.ins C (putG f y fs)))) C ⟨⟩ (M2 a)) ⟨⟩ d) (D0.ex τ)) (D0.ex τ) := pq Iff.rfl
theorem u_make : dMake C sp tl τ M Q E = tl τ M (fun ds M1 => ∀ p, M1 p = none → callK (K := fun d M2 => d = .non ∧ Q (.ref p) M2) (L := E) ⟨⟩ ⟨⟩ sp (.ref p :: ds) (put M1 p (.ins C []))) E := pq Iff.rfl
theorem u_binL : dBinL C sp ta tb τ M Q E = ta τ M (fun x M1 => tb τ M1 (fun y M2 => isIns C M2 x ∧ ((∃ z, y = .str z) ∨ isIns C M2 y) ∧ callK (K := Q) (L := E) ⟨⟩ ⟨⟩ sp [x, y] M2) E) E := pq Iff.rfl
theorem u_binR : dBinR C sp ta tb τ M Q E = ta τ M (fun x M1 => tb τ M1 (fun y M2 => (∃ z, x = .str z) ∧ isIns C M2 y ∧ callK (K := Q) (L := E) ⟨⟩ ⟨⟩ sp [y, x] M2) E) E := pq Iff.rfl
theorem u_inO : dInO C sp ta tb τ M Q E = ta τ M (fun y M1 => tb τ M1 (fun x M2 => isIns C M2 x ∧ callK (K := fun r M3 => onBl (K := fun b => Q (.bl b) M3) ⟨⟩ r) (L := E) ⟨⟩ ⟨⟩ sp [x, y] M2) E) E := pq Iff.rfl
theorem u_getO : dGetO C sp ta tb τ M Q E = ta τ M (fun x M1 => tb τ M1 (fun y M2 => isIns C M2 x ∧ callK (K := Q) (L := E) ⟨⟩ ⟨⟩ sp [x, y] M2) E) E := pq Iff.rfl
theorem u_setO : dgSetO C sp to ti d τ M Qs E = to τ M (fun x M1 => ti τ M1 (fun y M2 => isIns C M2 x ∧ callK (K := fun _ M3 => Qs τ M3) (L := E) ⟨⟩ ⟨⟩ sp [x, y, d] M2) E) E := pq Iff.rfl
theorem u_augO : dAugO C sp i te D0 τ M = onVar (K := fun x => te τ M (fun y M1 => isIns C M1 x ∧ callK (K := fun r M2 => D0.nx (τ.set i (some r)) M2) (L := D0.ex τ) ⟨⟩ ⟨⟩ sp [x, y] M1) (D0.ex τ)) ⟨⟩ τ[i]? := pq Iff.rfl
theorem u_prp : dPrp C sp te τ M Q E = te τ M (fun d M1 => isIns C M1 d ∧ callK (K := Q) (L := noX) ⟨⟩ ⟨⟩ sp [d] M1) E := pq Iff.rfl
theorem u_inv : dInv C sp te τ M Q E = te τ M (fun d M1 => isIns C M1 d ∧ callK (K := Q) (L := E) ⟨⟩ ⟨⟩ sp [d] M1) E := pq Iff.rfl
theorem u_meth : dMeth C m sp to tl τ M Q E = to τ M (fun x M1 => isIns C M1 x ∧ noF M1 m x ∧ tl τ M1 (fun ds M2 => callK (K := Q) (L := E) ⟨⟩ ⟨⟩ sp (x :: ds) M2) E) E := pq Iff.rfl
theorem rows_r {a : Addr} {K : List D → Prop} : onRows C f M (.ref a) K = onIns (K := fun fs => onSome (K := fun d => onLst (K := K) ⟨⟩ d) ⟨⟩ (fs.lookup f)) C ⟨⟩ (M a) := by
  show (match M a with
    | some (.ins c fs) => c = C ∧ (match fs.lookup f with
      | some (.lst ds) => K ds
      | _ => False)
    | _ => False) = onIns (K := fun fs => onSome (K := fun d => onLst (K := K) ⟨⟩ d) ⟨⟩ (fs.lookup f)) C ⟨⟩ (M a)
  cases M a with
  | none => rfl
  | some mo => cases mo with
    | ins c fs =>
      show (c = C ∧ (match fs.lookup f with
        | some (.lst ds) => K ds
        | _ => False)) = (c = C ∧ onSome (K := fun d => onLst (K := K) ⟨⟩ d) ⟨⟩ (fs.lookup f))
      cases fs.lookup f with
      | none => rfl
      | some d => cases d <;> rfl
    | _ => rfl
theorem lenO_r {d : D} : cbK (K := Q) ⟨⟩ (gLenO C f) [d] M = onRows C f M d (fun ds => Q (.int ds.length) M) := pq Iff.rfl
theorem listO_r {d : D} : cbK (K := Q) ⟨⟩ (gListO C f) [d] M = onRows C f M d (fun ds => Q (.lst ds) M) := pq Iff.rfl
theorem listOM_r {d : D} : cbK (K := Q) ⟨⟩ (gListOM C f) [d] M = onRows C f M d (fun ds => ∀ p, M p = none → Q (.ref p) (put M p (.lst ds))) := pq Iff.rfl
def isCK {K : Bool → Prop} (_ : Lk K) (C : Str) (o : Option MO) : Prop := match o with
  | some (.ins c _) => c = C ∧ K true
  | some (.lst _) => K false
  | some (.dK _) => K false
  | _ => False
theorem isCK_i {K : Bool → Prop} {fs : List (Str × D)} : isCK (K := K) ⟨⟩ C (some (.ins C fs)) = K true := by show (C = C ∧ K true) = K true; simp
theorem isCK_l {K : Bool → Prop} {ds : List D} : isCK (K := K) ⟨⟩ C (some (.lst ds)) = K false := pq Iff.rfl
theorem isC_r {a : Addr} : cbK (K := Q) ⟨⟩ (gIsC C) [.ref a, .cl C] M = isCK (K := fun b => Q (.bl b) M) ⟨⟩ C (M a) := by
  show (C = C ∧ ((isInsM C (M a) ∧ Q (.bl true) M) ∨ ((∃ n, tyD M (.ref a) = some n) ∧ Q (.bl false) M))) = isCK (K := fun b => Q (.bl b) M) ⟨⟩ C (M a)
  have e : tyD M (.ref a) = (match M a with
    | some (.lst _) => some "list"
    | some (.dK _) => some "dict"
    | _ => none) := rfl
  rw [e]
  cases M a with
  | none => simp [isInsM, isCK]
  | some mo => cases mo <;> simp [isInsM, isCK]
theorem isC_s {x : Tx} : cbK (K := Q) ⟨⟩ (gIsC C) [.str x, .cl C] M = Q (.bl false) M := by
  show (C = C ∧ ((False ∧ Q (.bl true) M) ∨ ((∃ n, (some "str" : Option String) = some n) ∧ Q (.bl false) M))) = _
  simp
theorem isC_i {x : Int} : cbK (K := Q) ⟨⟩ (gIsC C) [.int x, .cl C] M = Q (.bl false) M := by
  show (C = C ∧ ((False ∧ Q (.bl true) M) ∨ ((∃ n, (some "int" : Option String) = some n) ∧ Q (.bl false) M))) = _
  simp
theorem isC_b {x : Bool} : cbK (K := Q) ⟨⟩ (gIsC C) [.bl x, .cl C] M = Q (.bl false) M := by
  show (C = C ∧ ((False ∧ Q (.bl true) M) ∨ ((∃ n, (some "bool" : Option String) = some n) ∧ Q (.bl false) M))) = _
  simp
theorem isC_n : cbK (K := Q) ⟨⟩ (gIsC C) [.non, .cl C] M = Q (.bl false) M := by
  show (C = C ∧ ((False ∧ Q (.bl true) M) ∨ ((∃ n, (some "NoneType" : Option String) = some n) ∧ Q (.bl false) M))) = _
  simp
theorem isC_l {x : List D} : cbK (K := Q) ⟨⟩ (gIsC C) [.lst x, .cl C] M = Q (.bl false) M := by
  show (C = C ∧ ((False ∧ Q (.bl true) M) ∨ ((∃ n, (some "list" : Option String) = some n) ∧ Q (.bl false) M))) = _
  simp
theorem isC_t {x : List D} : cbK (K := Q) ⟨⟩ (gIsC C) [.tup x, .cl C] M = Q (.bl false) M := by
  show (C = C ∧ ((False ∧ Q (.bl true) M) ∨ ((∃ n, (some "tuple" : Option String) = some n) ∧ Q (.bl false) M))) = _
  simp
theorem putG_0 {α : Type} {x : α} : putG f x [] = [(f, x)] := rfl
theorem putG_1 {α : Type} {x y : α} {r : List (Str × α)} : putG f x ((f, y) :: r) = (f, x) :: r := by unfold putG; rw [if_pos rfl]
theorem lk_1 {α : Type} {x : α} {r : List (Str × α)} : List.lookup f ((f, x) :: r) = some x := by rw [List.lookup_cons, beq_self_eq_true]
end
/-! ### the hook with defs at any place -/
abbrev AlZ : Type := AlY × (Bool × List He5.FnW)
def obsZ (fa : List Fa) (fn : List DefD) (gb : List (PySem.W.Frag → Bool)) (ts : List Tab) (fx : List He5.DefA) (K : PySem.W.Frag) : AlZ := (obsY fa fn gb ts K, fx.all fun d => d.ok K, fx.map fun d => He5.fnA K (d.at_ K))
def valZ (fn : List DefD) (ts : List Tab) (fx : List He5.DefA) (w : World) : AlZ := (valY fn ts w, true, fx.map He5.DefA.val)
def SaysZ (fa : List Fa) (fn : List DefD) (gb : List (PySem.W.Frag → Bool)) (ts : List Tab) (fx : List He5.DefA) (w : World) (K : PySem.W.Frag) : Prop := obsZ fa fn gb ts fx K = valZ fn ts fx w
def obsZG (n : Nat) (fa : List Fa) (fn : List DefD) (gb : List (PySem.W.Frag → Bool)) (ts : List Tab) (fx : List He5.DefA) (g : Addr → Option Obj) : AlZ := obsZ fa fn gb ts fx (frG g (He5.asA g n))
def hookZ (n : Nat) (fa : List Fa) (fn : List DefD) (gb : List (PySem.W.Frag → Bool)) (ts : List Tab) (fx : List He5.DefA) : PySem.W.Hook where
  α := AlZ
  obs := fun s => obsZG n fa fn gb ts fx s.heap.get?
  val := fun w => valZ fn ts fx w
  says := fun w h => ∃ K : PySem.W.Frag, K.In h ∧ SaysZ fa fn gb ts fx w K
  of := fun _ _ e => ⟨_, frG_in, e⟩
  keeps := fun _ _ _ ⟨K, hK, c⟩ k => ⟨K, hK.keeps k, c⟩
theorem obsZG_eq {n : Nat} {fa : List Fa} {fn : List DefD} {gb : List (PySem.W.Frag → Bool)} {ts : List Tab} {fx : List He5.DefA} {g : Addr → Option Obj} {s : Shared} (h : ∀ a, g a = s.heap.get? a) : obsZG n fa fn gb ts fx g = (hookZ n fa fn gb ts fx).obs s := by
  rw [funext h] <;> rfl
section
variable {fa : List Fa} {fn : List DefD} {gb : List (PySem.W.Frag → Bool)} {ts : List Tab} {fx : List He5.DefA} {w : World} {K : PySem.W.Frag}
theorem SaysZ.y (c : SaysZ fa fn gb ts fx w K) : SaysY fa fn gb ts w K := congrArg (fun z : AlZ => z.1) c
theorem SaysZ.def_ (c : SaysZ fa fn gb ts fx w K) (i : Nat) {d : He5.DefA} (h : fx[i]? = some d := by rfl) : ∃ fd, FunD K d.name d.qual d.params d.body d.scope (d.dvs K) (d.kws K) (d.at_ K) fd := by
  have c2 : (fx.all fun d => d.ok K) = true := congrArg (fun z : AlZ => z.2.1) c
  have e : fx.map (fun d => He5.fnA K (d.at_ K)) = fx.map He5.DefA.val := congrArg (fun z : AlZ => z.2.2) c
  have e2 : (fx.map fun d => He5.fnA K (d.at_ K))[i]? = (fx.map He5.DefA.val)[i]? := by rw [e]
  rw [List.getElem?_map, List.getElem?_map, h] at e2
  exact He5.DefA.funD (Option.some.inj e2) (List.all_eq_true.mp c2 d (List.mem_of_getElem? h))
end
end DL

namespace DL
open PySem L2 He
/-! ### {k: v for ..} -/
def dEmD (p : Addr) (tk tv : DTE) : DSt → Mu → (Mu → Prop) → Prop := fun τ M Nx => tk τ M (fun y M1 => tv τ M1 (fun z M2 => ∃ (kvs : List (DKey × D)) (k : DKey), y = kD k ∧ M2 p = some (.dK kvs) ∧ kvs.length < sizeLine ∧ Nx (put M2 p (.dK (putD kvs k z)))) noX) noX
def emtD (p : Addr) (tk tv : TE) : L2.St → Hp → (Hp → Prop) → Prop := fun σ H Nx => tk σ H fun y H4 => tv σ H4 fun z H5 => ∃ kvs k, y = kV k ∧ H5 p = some (.dK kvs) ∧ kvs.length < sizeLine ∧ Nx (upd H5 p (.dK (putK kvs k z)))
def dDc (ti : DTI) (g : DTG) (tt : DTT) (vs : List Nat) (tk tv : DTE) : DTE := fun τ M Q E => ti τ M (fun ds M1 => ∀ p, M1 p = none → wTs g tt vs τ (dEmD p tk tv) (fun M2 => Q (.ref p) M2) ds (put M1 p (.dK []))) E
theorem emD_ok {K : PySem.W.Frag} {tk tv : DTE} (p : Addr) : Inn K (dEmD p tk tv) (emtD p (lif K W0 (RD K) tk) (lif K W0 (RD K) tv)) := fun τ σ M H Nx0 Nx rs co hN h => by
  refine ⟨τ, M, _, noX, ⟨rs, co, fun yd M6 yv H6 h6 r6 c6 s6 => ?_, fun _ _ _ _ _ z => z.elim⟩, h⟩
  refine ⟨τ, M6, _, noX, ⟨rs.stp s6, c6, fun zd M7 zv H7 h7 r7 c7 s7 => ?_, fun _ _ _ _ _ z => z.elim⟩, h6⟩
  obtain ⟨kvs, k, rfl, ha, hl, h8⟩ := h7
  obtain ⟨ks, hv, ek, ra⟩ := mu_dK c7 ha
  have hlen := congrArg List.length ek
  rw [List.length_map, List.length_map] at hlen
  have st := Stp.write (H := H7) (o := .dK (putK ks (kO k) zv)) (mo' := .dK (putD kvs k zd)) ha
  obtain ⟨p1, p2⟩ := put_rep (k := k) r7 ek ra
  have ekv : yv = kV (kO k) := by
    cases k with
    | inl i => exact r6
    | inr z => exact r6
  exact ⟨ks, kO k, ekv, hv, by rw [hlen]; exact hl, hN _ _ h8 (c7.write ha ⟨_, rfl, p1, p2⟩) ((s6.trans s7).trans st)⟩
section
variable {X : Cx} {W : WX} {kx vx tg iter : Expr} {ifs : List Expr} {scope : Scope} {pos : Pos} {ti : DTI} {g : DTG} {tt : DTT} {tk tv : DTE}
structure BlkDc (B : Cx) (tg : Expr) (g : DTG) (ifs : List Expr) (tt : DTT) (vs : List Nat) (kx vx : Expr) (tk tv : DTE) : Prop where
  g : DGw B W0 tg g vs
  t : DTs B W0 ifs tt
  k : DE B W0 kx tk
  v : DE B W0 vx tv
theorem de_dc (own : List (Str × Nat)) (G : Gd X W) (hi : DI X W tg iter ti) (hb : ∀ (s : Shared) (H : Hp) (C : Addr) (cl : List (Str × Addr)) (fp : List Addr), Gd (X.blk s H scope (compEnvC scope cl C X.env) fp) W0 → BlkDc (X.blk s H scope (compEnvC scope cl C X.env) fp) tg g ifs tt (own.map (·.2)) kx vx tk tv)
    (ok : blkC X.N X.env.scope scope own = true := by first | kernel_rfl | decide +kernel) (hs : ∀ x, foldedSetIterable iter X.env x = pure x := by intro _; rfl) : DE X W (.DictComp kx vx [⟨tg, iter, ifs, 0⟩] scope pos) (dDc ti g tt (own.map (·.2)) tk tv) :=
  PE.of (pe_dc (own := own) (g := lifGw X.K W0 g (own.map (·.2))) (tt := lif X.K W0 RB tt) (tk := lif X.K W0 (RD X.K) tk) (tv := lif X.K W0 (RD X.K) tv) G.calm G.nd hi (blkOk_by ok) (fun s H C cl fp => (hb s H C cl fp (G.blk ..)).g) (fun s H C cl fp => (hb s H C cl fp (G.blk ..)).t)
      (fun s H C cl fp => (hb s H C cl fp (G.blk ..)).k) (fun s H C cl fp => (hb s H C cl fp (G.blk ..)).v) hs) fun σ H Q ⟨τ, M, Q0, E0, S, h⟩ => by
    refine S.sub h fun ds M1 J H1 h1 r1 S1 s1 => ?_
    intro D hD
    exact turns_ok (emD_ok D) r1 S1.rs (fun M' H' n c' s' => S1.q (.ref D) M' (.ref D) H' n rfl c' s') (Stp.newM hD) (S1.co.newM hD (mo := .dK []) ⟨[], rfl, rfl, .nil⟩) (h1 D (S1.co.free hD))
/-- name = {..} on one line -/
theorem ps_setDc {i : Nat} {y : Str} {py pos spos : Pos} {own : List (Str × Nat)} {wi : TI} {g : TG} {tt : TT} {tk tv : TE} (hc : X.calm = true) (hN : X.N.Nodup) (hy : X.N[i]? = some y) (hyl : X.env.scope.names.lookup y = some .local)
    (hsw : swapsWith (.DictComp kx vx [⟨tg, iter, ifs, 0⟩] scope pos) (some (.Name y py)) spos.line X.env = pure true) (hi : PI X tg iter wi) (ok : BlkOk X.N X.env.scope scope own)
    (hg : ∀ (s : Shared) (H : Hp) (C : Addr) (cl : List (Str × Addr)) (fp : List Addr), PG (X.blk s H scope (compEnvC scope cl C X.env) fp) tg g) (ht : ∀ (s : Shared) (H : Hp) (C : Addr) (cl : List (Str × Addr)) (fp : List Addr), PTs (X.blk s H scope (compEnvC scope cl C X.env) fp) ifs tt)
    (hk : ∀ (s : Shared) (H : Hp) (C : Addr) (cl : List (Str × Addr)) (fp : List Addr), PE (X.blk s H scope (compEnvC scope cl C X.env) fp) kx tk)
    (he : ∀ (s : Shared) (H : Hp) (C : Addr) (cl : List (Str × Addr)) (fp : List Addr), PE (X.blk s H scope (compEnvC scope cl C X.env) fp) vx tv) (hs : ∀ x, foldedSetIterable iter X.env x = pure x) :
    PS X (.Assign [.Name y py] (.DictComp kx vx [⟨tg, iter, ifs, 0⟩] scope pos) spos) (tAsg (tDc wi g tt tk tv (own.map (·.2))) (gName i)) := by
  refine ⟨fun P s σ H D I h => ?_⟩
  rw [exec_Assign_Name_used _ _ _ _ hsw]
  refine wpAny_bind (wpAny_standAt (wpAny_bind ?_))
  show wpAny _ X.A (do let _ ← comprehension (.DictComp kx vx [⟨tg, iter, ifs, 0⟩] scope pos) scope X.env (firstIterPos [⟨tg, iter, ifs, 0⟩] pos) newDict false (eval iter X.env) (some (assign (.Name y py) X.env))) _ _ s
  have h : tDc wi g tt tk tv (own.map (·.2)) σ H (fun x H1 => gName i x σ H1 D.nx) := h
  refine wpAny_bind (thn (dc_core (Qf := fun _ z => SP X P D .next z) hc hN I hi ok hg ht hk he hs h fun L C z m H' I' q hn f => ?_) fun _ z hq => wpAny_pure (wpAny_pure hq))
  show wpAny _ _ (assign (.Name y py) X.env (.ref L)) _ _ _
  refine wpAny_assign_Name (store_ok2 (v := V.ref L) I' hN hy (.inl hyl) rfl (fun z2 I2 ⟨a, sb, ha⟩ => ?_) (.inr hyl))
  obtain ⟨g0, g1, g2, g3, g4, g5⟩ := f
  have ne : C ≠ a := ha.elim (fun q => by rw [q]; exact g1) fun q e => g4 y a q e.symm
  refine ⟨m, hn.sameBut sb ne, fun h3 sb3 => ?_⟩
  exact ⟨_, H', I2.turned (t' := z2.toks) (fun b o hb e => (sb3.2 b hb).trans e) g0 g1 g3 g4 g5, q⟩
theorem ds_setDc {y : Str} {spos py : Pos} (j : Nat) (own : List (Str × Nat)) (G : Gd X W) (hi : DI X W tg iter ti) (hb : ∀ (s : Shared) (H : Hp) (C : Addr) (cl : List (Str × Addr)) (fp : List Addr), Gd (X.blk s H scope (compEnvC scope cl C X.env) fp) W0 → BlkDc (X.blk s H scope (compEnvC scope cl C X.env) fp) tg g ifs tt (own.map (·.2)) kx vx tk tv)
    (ok : blkC X.N X.env.scope scope own = true := by first | kernel_rfl | decide +kernel) (hs : ∀ x, foldedSetIterable iter X.env x = pure x := by intro _; rfl) (hy : X.N[j]? = some y := by rfl) (hyl : X.env.scope.names.lookup y = some .local := by rfl)
    (hsw : swapsWith (.DictComp kx vx [⟨tg, iter, ifs, 0⟩] scope pos) (some (.Name y py)) spos.line X.env = pure true := by rfl) : DS X W (.Assign [.Name y py] (.DictComp kx vx [⟨tg, iter, ifs, 0⟩] scope pos) spos) (dSet j (dDc ti g tt (own.map (·.2)) tk tv)) :=
  PS.of (ps_setDc (own := own) (g := lifGw X.K W0 g (own.map (·.2))) (tt := lif X.K W0 RB tt) (tk := lif X.K W0 (RD X.K) tk) (tv := lif X.K W0 (RD X.K) tv) G.calm G.nd hy hyl hsw hi (blkOk_by ok) (fun s H C cl fp => (hb s H C cl fp (G.blk ..)).g) (fun s H C cl fp => (hb s H C cl fp (G.blk ..)).t)
      (fun s H C cl fp => (hb s H C cl fp (G.blk ..)).k) (fun s H C cl fp => (hb s H C cl fp (G.blk ..)).v) hs) fun D1 σ H ⟨τ, M, D0, S, h⟩ => by
    refine S.sub h fun ds M1 J H1 h1 r1 S1 s1 => ?_
    intro D hD
    exact turns_ok (emD_ok D) r1 S1.rs (fun M' H' n c' s' => S1.nx _ M' _ H' n ((S1.rs.stp s').set (d := .ref D) (v := .ref D) rfl j) c' s') (Stp.newM hD) (S1.co.newM hD (mo := .dK []) ⟨[], rfl, rfl, .nil⟩) (h1 D (S1.co.free hD))
end
/-! ### walks while something holds -/
abbrev DTP := DR ((Mu → Prop) × List D)
def ItP (K : PySem.W.Frag) (M : Mu) (H : Hp) (q : (Mu → Prop) × List D) (J : It) : Prop := ∀ M' H', Cor K M' H' → Stp M H M' H' → q.1 M' →
  (∀ i, q.2.length ≤ i → J.stop i H') ∧ (∀ i, i < q.2.length → J.go i H') ∧ ∀ i d v H2, q.2[i]? = some d → J.yld i H' v H2 → Rep K M' H2 d v ∧ Cor K M' H2 ∧ Stp M' H' M' H2
abbrev DIP (X : Cx) (W : WX) (tg iter : Expr) (tr : DTP) : Prop := PI X tg iter (lif X.K W (ItP X.K) tr)
def diKeys (te : DTE) : DTP := fun τ M Q E => te τ M (fun d M1 => match d with
  | .ref a => (match M1 a with
    | some (.fK kvs u) => Q ((fun M => M a = some (.fK kvs u)), keysOf kvs) M1
    | _ => False)
  | _ => False) E
section
variable {X : Cx} {W : WX} {elt tg iter e : Expr} {ifs : List Expr} {scope : Scope} {pos p : Pos} {tr : DTP} {g : DTG} {tt : DTT} {te : DTE} {own : List (Str × Nat)} {vs : List Nat} {x : Str}
theorem di_keys (he : DE X W e te) : DIP X W tg e (diKeys te) := PI.of (pi_keys he) fun σ H R ⟨τ, M, Q0, E0, S, h⟩ => S.sub h fun d M1 v H1 h1 r1 S1 s1 => by
  cases d with
  | ref a =>
    cases r1
    have h2 : (match M1 a with
      | some (.fK kvs u) => Q0 ((fun M => M a = some (.fK kvs u)), keysOf kvs) M1
      | _ => False) := h1
    cases em : M1 a with
    | none => rw [em] at h2; exact h2.elim
    | some mo =>
      rw [em] at h2
      cases mo with
      | fK kvs u =>
        obtain ⟨od, ks, hf, eu, ek, rk⟩ := mu_fK S1.co em
        subst eu
        have hlen : ks.length = (keysOf kvs).length := by
          have := congrArg List.length ek
          rw [List.length_map, List.length_map] at this
          rw [this, keysOf, List.length_map]
        refine ⟨a, od, rfl, .inl ⟨ks, hf, S1.end_ (d := ((fun M => M a = some (.fK kvs (.frz od (.dK ks)))), keysOf kvs)) h2 ?_⟩⟩
        intro M' H' c' s' hp
        have hp : M' a = some (.fK kvs (.frz od (.dK ks))) := hp
        have at_ : H' a = some (.frz od (.dK ks)) := by
          obtain ⟨od', ks', q1, q2, _⟩ := mu_fK c' hp
          rw [q1, q2]
        refine ⟨fun i h => ⟨at_, by show ks.length ≤ i; rw [hlen]; exact h⟩, fun i h => ⟨at_, by rw [hlen]; exact h⟩, fun i d v H2 h y => ?_⟩
        obtain ⟨rfl, key, val, ykv, rfl⟩ := y
        have h : (keysOf kvs)[i]? = some d := h
        have hlt : i < (keysOf kvs).length := by
          rcases Nat.lt_or_ge i (keysOf kvs).length with z | z
          · exact z
          · rw [List.getElem?_eq_none z] at h; cases h
        have hk2 : i < kvs.length := by rw [keysOf, List.length_map] at hlt; exact hlt
        have q : (ks.map (·.1))[i]? = (kvs.map fun q => kO q.1)[i]? := by rw [ek]
        rw [List.getElem?_map, List.getElem?_map, ykv, List.getElem?_eq_getElem hk2] at q
        have q2 : key = kO kvs[i].1 := by simpa using q
        have q3 : d = kD kvs[i].1 := by
          rw [List.getElem?_eq_getElem hlt] at h
          have := Option.some.inj h
          rw [← this]
          simp [keysOf]
        rw [q2, q3]
        exact ⟨kD_rep _, c', Stp.refl M' _⟩
      | _ => exact h2.elim
  | _ => exact h1.elim
def wTsP (P : Mu → Prop) (g : DTG) (tt : DTT) (vs : List Nat) (τ : DSt) (inn : DSt → Mu → (Mu → Prop) → Prop) (Nx : Mu → Prop) : List D → Mu → Prop
  | [], M => P M ∧ Nx M
  | d :: ds, M => P M ∧ g d (wipeD τ vs) M (fun τ2 M2 => tt τ2 M2 (fun b M3 => if b = true then inn τ2 M3 (wTsP P g tt vs τ inn Nx ds) else wTsP P g tt vs τ inn Nx ds M3) noX) noX
def dLcP (tr : DTP) (g : DTG) (tt : DTT) (vs : List Nat) (te : DTE) : DTE := fun τ M Q E => tr τ M (fun q M1 => ∀ p, M1 p = none → wTsP q.1 g tt vs τ (dEm p te) (fun M2 => Q (.ref p) M2) q.2 (put M1 p (.lst []))) E
theorem turnsP_ok {K : PySem.W.Frag} {inn : DSt → Mu → (Mu → Prop) → Prop} {innL : L2.St → Hp → (Hp → Prop) → Prop} (hin : Inn K inn innL) {τ : DSt} {σ : L2.St} {M M1 : Mu} {H H1 : Hp} {P : Mu → Prop} {ds : List D} {J : It} {Nx0 : Mu → Prop} {Nx : Hp → Prop}
    (hJ : ItP K M H (P, ds) J) (rs : RepS K M H τ σ) (hN : ∀ M' H', Nx0 M' → Cor K M' H' → Stp M H M' H' → Nx H') (s1 : Stp M H M1 H1) (c1 : Cor K M1 H1) (h : wTsP P g tt vs τ inn Nx0 ds M1) :
    wTurns (lifGw K W0 g vs) (lif K W0 RB tt) vs σ innL Nx J H1 := by
  refine ⟨fun i m H2 => m = ds.length - i ∧ i ≤ ds.length ∧ ∃ M2, Stp M H M2 H2 ∧ Cor K M2 H2 ∧ wTsP P g tt vs τ inn Nx0 (ds.drop i) M2, ⟨ds.length, rfl, Nat.zero_le _, M1, s1, c1, h⟩, ?_⟩
  rintro i m H2 ⟨rfl, hi, M2, s2, c2, h2⟩
  by_cases hlt : i < ds.length
  · have e : ds.drop i = ds[i] :: ds.drop (i + 1) := List.drop_eq_getElem_cons hlt
    rw [e] at h2
    obtain ⟨k1, k2, k3⟩ := hJ M2 H2 c2 s2 h2.1
    refine .inr ⟨k2 i hlt, fun H3 => ∃ M3, Stp M H M3 H3 ∧ Cor K M3 H3 ∧ wTsP P g tt vs τ inn Nx0 (ds.drop (i + 1)) M3, fun H3 q => ⟨ds.length - (i + 1), by omega, rfl, hlt, q⟩, fun x H3 y => ?_⟩
    obtain ⟨y1, y2, y3⟩ := k3 i ds[i] x H3 (List.getElem?_eq_getElem hlt) y
    have s3 := s2.trans y3
    refine ⟨ds[i], wipeD τ vs, M2, _, noX, y1, ⟨(rs.stp s3).wipe vs, y2, fun τ4 M4 σ4 H4 h4 r4 c4 s4 hw => ⟨hw.trans (wipe_wipe σ vs), ?_⟩, fun _ _ _ _ _ z => z.elim⟩, h2.2⟩
    refine ⟨τ4, M4, _, noX, ⟨r4, c4, fun b M5 b' H5 h5 r5 c5 s5 => ?_, fun _ _ _ _ _ z => z.elim⟩, h4⟩
    cases r5
    cases b with
    | false => exact ⟨M5, s3.trans (s4.trans s5), c5, h5⟩
    | true =>
      simp only [if_true] at h5 ⊢
      exact hin τ4 σ4 M5 H5 _ _ (r4.stp s5) c5 (fun M' H' n c' s' => ⟨M', s3.trans (s4.trans (s5.trans s')), c', n⟩) h5
  · have e : i = ds.length := by omega
    rw [e, List.drop_length] at h2
    obtain ⟨k1, k2, k3⟩ := hJ M2 H2 c2 s2 h2.1
    exact .inl ⟨k1 i (show ds.length ≤ i by omega), hN M2 H2 h2.2 c2 s2⟩
def fClP (X : Cx) (W : WX) (tg iter : Expr) (ifs : List Expr) (tr : DTP) (g : DTG) (tt : DTT) (vs : List Nat) : Cl := ⟨tg, iter, ifs, lif X.K W (ItP X.K) tr, lifGw X.K W0 g vs, lif X.K W0 RB tt, vs⟩
theorem lif_lcP {σ : L2.St} {H : Hp} {Q : VK} (h : lif X.K W (RD X.K) (dLcP tr g tt vs te) σ H Q) : tLcN (fClP X W tg iter ifs tr g tt vs) [] (lif X.K W0 (RD X.K) te) σ H Q := by
  obtain ⟨τ, M, Q0, E0, S, h⟩ := h
  refine S.sub h fun q M1 J H1 h1 r1 S1 s1 => ?_
  obtain ⟨P, ds⟩ := q
  intro D hD
  exact turnsP_ok (em_ok D) r1 S1.rs (fun M' H' n c' s' => S1.q (.ref D) M' (.ref D) H' n rfl c' s') (Stp.newM hD) (S1.co.newM hD (mo := .lst []) ⟨[], rfl, .nil⟩) (h1 D (S1.co.free hD))
theorem blkP_ok {B : Cx} (hK : B.K = X.K) (h : BlkR B tg g ifs tt vs elt te) : ClOk B (fClP X W tg iter ifs tr g tt vs) ∧ (∀ x ∈ ([] : List Cl), ClIn B x) ∧ PE B elt (lif X.K W0 (RD X.K) te) := by
  rw [← hK]
  refine ⟨⟨by rw [fClP, ← hK]; exact h.g, by rw [fClP, ← hK]; exact h.t⟩, fun x hx => ?_, h.e⟩
  cases hx
theorem de_lcP (own : List (Str × Nat)) (G : Gd X W) (hi : DIP X W tg iter tr) (hb : ∀ (s : Shared) (H : Hp) (C : Addr) (cl : List (Str × Addr)) (fp : List Addr), Gd (X.blk s H scope (compEnvC scope cl C X.env) fp) W0 → BlkR (X.blk s H scope (compEnvC scope cl C X.env) fp) tg g ifs tt (own.map (·.2)) elt te)
    (ok : blkC X.N X.env.scope scope own = true := by first | kernel_rfl | decide +kernel) (hs : ∀ x, foldedSetIterable iter X.env x = pure x := by intro _; rfl) : DE X W (.ListComp elt [⟨tg, iter, ifs, 0⟩] scope pos) (dLcP tr g tt (own.map (·.2)) te) :=
  PE.of (pe_lcN (c := fClP X W tg iter ifs tr g tt (@List.map (Str × Nat) Nat (fun p => p.2) own)) (cs := []) G.calm G.nd hi (blkOk_by ok) rfl (show Dec (own.map (·.2)) [] from trivial) (fun B ⟨s, H, C, cl, fp, e⟩ => by subst e; exact blkP_ok rfl (hb s H C cl fp (G.blk ..))) hs) fun σ H Q h => lif_lcP h
theorem u_keys {te : DTE} {τ : DSt} {M : Mu} {Qr : (Mu → Prop) × List D → Mu → Prop} {E : DX} : diKeys te τ M Qr E = te τ M (fun d M1 => onRef (K := fun a => onFK (K := fun kvs u => Qr ((fun M => M a = some (.fK kvs u)), keysOf kvs) M1) ⟨⟩ (M1 a)) ⟨⟩ d) E := by
  unfold diKeys
  congr 1
end
/-! ### a + b, a list that is changed later -/
def gAddM : DOp := fun x y M Q => match x, y with
  | .lst a, .lst b => a.length + b.length ≤ 16777216 ∧ ∀ p, M p = none → Q (.ref p) (put M p (.lst (a ++ b)))
  | .ref p, .lst b => (match M p with
    | some (.lst a) => a.length + b.length ≤ 16777216 ∧ ∀ p, M p = none → Q (.ref p) (put M p (.lst (a ++ b)))
    | _ => False)
  | _, _ => False
theorem od_addM {K : PySem.W.Frag} : OpD K gAddM (rAddA K) := fun M H x y v u Q0 Q c rx ry h q => by
  cases x with
  | lst xs =>
    obtain ⟨a, vs, rfl, ha, ma, ra⟩ := rep_of_lst rx
    cases y with
    | lst ys =>
      obtain ⟨b, us, rfl, hb, mb, rb⟩ := rep_of_lst ry
      exact .inr (.inl ⟨a, b, vs, us, rfl, rfl, ha, hb, by rw [ra.length, rb.length, line24]; exact h.1, new_lstM c (ra.append rb) h.2 q⟩)
    | _ => exact h.elim
  | ref a =>
    cases rx
    cases y with
    | lst ys =>
      obtain ⟨b, us, rfl, hb, mb, rb⟩ := rep_of_lst ry
      have h2 : (match M a with
        | some (.lst xs) => xs.length + ys.length ≤ 16777216 ∧ ∀ p, M p = none → Q0 (.ref p) (put M p (.lst (xs ++ ys)))
        | _ => False) := h
      cases e : M a with
      | none => rw [e] at h2; exact h2.elim
      | some mo =>
        rw [e] at h2
        cases mo with
        | lst xs =>
          obtain ⟨vs, ha, ra⟩ := mu_lst c e
          exact .inr (.inl ⟨a, b, vs, us, rfl, rfl, ha, hb, by rw [ra.length, rb.length, line24]; exact h2.1, new_lstM c (ra.append rb) h2.2 q⟩)
        | _ => exact h2.elim
    | _ => exact h.elim
  | _ => exact h.elim
theorem addM_l {M : Mu} {Q : DK} {a b : List D} : opK (K := Q) ⟨⟩ gAddM (.lst a) (.lst b) M = (a.length + b.length ≤ 16777216 ∧ ∀ p, M p = none → Q (.ref p) (put M p (.lst (a ++ b)))) := pq Iff.rfl
theorem addM_rl {M : Mu} {Q : DK} {p : Addr} {b : List D} : opK (K := Q) ⟨⟩ gAddM (.ref p) (.lst b) M = onML (K := fun a => a.length + b.length ≤ 16777216 ∧ ∀ p, M p = none → Q (.ref p) (put M p (.lst (a ++ b)))) ⟨⟩ (M p) := pq Iff.rfl
end DL

namespace DL
open PySem L2 He
/-! ### try whose body raises nothing -/
def dTry (t : DTS) : DTS := fun D τ M => t { D with xc := fun _ _ _ => False } τ M
section
variable {X : Cx} {W : WX} {a b e o i : Expr} {es : List Expr} {ta tb te to tv ti : DTE} {tl : DTA} {C f m x : Str} {sp : DSp} {k : Nat} {pos pos' apos p p2 tpos : Pos} {t : DTS}
theorem gd_nox (G : Gd X W) : Gd X.nox (fun _ _ _ _ => False) := ⟨G.calm, takes_none5, G.hu, fun e s z => z.elim, G.nd⟩
theorem ds_try {body : List Stmt} {h0 : ExceptHandler} {hs : List ExceptHandler} (G : Gd X W) (hb : Gd X.nox (fun _ _ _ _ => False) → DSs X.nox (fun _ _ _ _ => False) body t) : DS X W (.Try body (h0 :: hs) [] [] pos) (dTry t) :=
  PS.of (ps_try_thru0 (hb (gd_nox G))) fun D1 σ H ⟨τ, M, D0, S, h⟩ => ⟨τ, M, { D0 with xc := fun _ _ _ => False }, ⟨S.rs, S.co, S.nx, S.rt, S.bk, S.ct, fun _ _ _ _ _ _ _ z => z.elim⟩, h⟩
/-! ### classmethods -/
structure FnK (P : Program) (w : World) (K : PySem.W.Frag) (mg : Str → Option Value) (base : Heap) (k : Nat) (C m : Str) (sp : DSp) : Prop where
  met : ClX.CMet K (ga K C) (.type "type") m (ma K (ga K C) m) (He5.wf K (ga K C) "classmethod" m)
  run : FnR P w K mg base (L2.CX P w) k (He5.wf K (ga K C) "classmethod" m) (lsp K sp)
def dCM (C : Str) (sp : DSp) (ta : DTA) : DTE := fun τ M Q E => ta τ M (fun ds M1 => sp (.cl C :: ds) M1 Q E) E
theorem run_cmS {pins : List (Addr × Obj)} {σ : L2.St} {H : Hp} {s : Shared} {Q : VK} {us : List Value} {vs : List V} {Ca g q : Addr} {spv : Sp} (F : FnR X.prog X.w X.K X.mg X.base (L2.CX X.prog X.w) k g spv) (tk : Takes X W) (hr : Room k X.A)
    (I : Inv X ((q, PySem.W.methodObj (.ref g) (.ref Ca)) :: pins) σ H s) (r : Vals vs us) (h : spv (.ref Ca :: vs) H Q (WE W σ)) : wpAny (model X.prog X.w) X.A (call (.ref q) us) (EP X pins σ Q) X.xe s := by
  have z : wpAny (model X.prog X.w) X.A (call (.ref q) us) (EP X ((q, PySem.W.methodObj (.ref g) (.ref Ca)) :: pins) σ Q) X.xe s :=
    wpAny_call (PySem.W.method_call (ClX.pin_at I) (codeAny_mono (F X.A X.stack s H (.ref Ca :: us) (.ref Ca :: vs) Q (WE W σ) hr I.env0 (.cons rfl r) h) fun r s' hq => by
      cases r with
      | error e => exact passAt tk σ _ H s e s' I hq
      | ok fl =>
        cases fl with
        | ret u => exact I.after hq
        | next => exact False.elim hq
        | brk => exact False.elim hq
        | cont => exact False.elim hq))
  exact thn z fun _ _ y => ClX.unpinE y
theorem de_cmeth {pl : Sem Bool} (F : FnK X.prog X.w X.K X.mg X.base k C m sp) (r : ClX.CRead X.K (ga X.K C) (.type "type")) (G : Gd X W) (hr : Room k X.A) (hm : X.mg C = some (.ref (ga X.K C))) (ha : DA X W (e :: es) tl) (hg : Gl X C := by rfl) (hdb : (C == ("__debug__" : Str)) = false := by decide)
    (hst : starEach (e :: es) X.env = (false, eval e X.env) :: starEach es X.env := by rfl) (hpl : (backTo pos (starEach es X.env)).any (·.1) = false := by rfl)
    (ht : eval (.Call (.Attribute (.Name C p) m apos) (e :: es) [] pos) X.env = (do
      let ov ← eval (.Name C p) X.env
      standAt apos.atName
      let (f, first) ← holding [ov] (getMethod ov m pl)
      callWith pos f first (backTo pos (starEach (e :: es) X.env)) (backToKw pos (keywordEach [] X.env))) := by rfl) : DE X W (.Call (.Attribute (.Name C p) m apos) (e :: es) [] pos) (dCM C sp tl) := by
  refine ⟨fun pins s σ H Q I h => ?_⟩
  obtain ⟨τ, M, Q0, E0, S, h⟩ := h
  refine PySem.W.methodCall_KW (pl := pl) (ld_glob I hg hm ?_ hdb) ht
  refine ClX.getmethcm_ok I r F.met fun s1 I1 => ?_
  refine ClX.callwith_cm I1 (ClX.base_none I (Nat.le_refl _)) F.met.fi (thn (ha.run pos _ s1 σ H _ I1 (S.sub (Q1 := fun vs H2 => lsp X.K sp (V.ref (ga X.K C) :: vs) H2 Q (WE W σ)) h fun ds M2 vs H2 h4 r4 S4 s4 =>
    S4.call (.cons (d := .cl C) rfl r4) h4 fun d M5 z H5 h5 r5 S5 s5 => S5.end_ h5 r5)) fun us s2 ⟨vs, H2, I2, rv, q2⟩ => ⟨⟨ClX.pin_at I2, I2.kIn⟩, ?_⟩) hst hpl
  exact run_cmS F.run G.tk hr I2 rv q2
/-! ### cls(..), cls a local name -/
def dMakeV (i : Nat) (C : Str) (sp : DSp) (ta : DTA) : DTE := fun τ M Q E => dVar i τ M (fun d M1 => match d with
  | .cl x => x = C ∧ dMake C sp ta τ M1 Q E
  | _ => False) E
theorem de_makeV0 (j : Nat) (F : FC X k C "__init__" sp) (M : Mk X.K (ga X.K C) (ma X.K (ga X.K C) "__init__")) (G : Gd X W) (hr : Room (k + 1) X.A) (hN : X.N[j]? = some x := by rfl)
    (hv : Vis X.env.scope x := by first | exact Or.inl rfl | exact Or.inr (Or.inl rfl) | exact Or.inr (Or.inr rfl)) (hd : (x == ("__debug__" : Str)) = false := by decide)
    (hcd : (x == ("__classdict__" : Str)) = false := by decide) : DE X W (.Call (.Name x p) [] [] pos) (dMakeV j C sp daNil) := by
  refine ⟨fun pins s σ H Q I h => ?_⟩
  obtain ⟨τ, M0, Q0, E0, S, h⟩ := h
  refine wpAny_Call_Name_kw (thn ((de_var (X := X) (W := W) (pos := p) j hN hv hd hcd).run pins s σ H (fun v H1 => v = .ref (ga X.K C) ∧ ∃ M1, Sit X.K W (RD X.K) τ M1 σ H1 Q0 E0 Q ∧ dMake C sp daNil τ M1 Q0 E0) I (S.sub h fun d M1 v H1 h1 r1 S1 s1 => ?_)) fun u s1 ⟨v, H1, I1, rv, ev, M1, S1, h1⟩ => ?_)
  · cases d with
    | cl y =>
      obtain ⟨rfl, h2⟩ := h1
      exact ⟨r1, M1, S1, h2⟩
    | _ => exact h1.elim
  · subst ev
    obtain rfl : u = Value.ref (ga X.K C) := rv
    exact PySem.W.callWith_K0 I1.kIn M.kp (run_makeS (us := []) M F.run G.tk hr I1 .nil (make_of S1 .nil h1))
theorem de_makeV (j : Nat) (F : FC X k C "__init__" sp) (M : Mk X.K (ga X.K C) (ma X.K (ga X.K C) "__init__")) (G : Gd X W) (hr : Room (k + 1) X.A) (ha : DA X W (e :: es) tl) (hN : X.N[j]? = some x := by rfl)
    (hv : Vis X.env.scope x := by first | exact Or.inl rfl | exact Or.inr (Or.inl rfl) | exact Or.inr (Or.inr rfl)) (hd : (x == ("__debug__" : Str)) = false := by decide)
    (hcd : (x == ("__classdict__" : Str)) = false := by decide)
    (he : starEach (e :: es) X.env = (false, eval e X.env) :: starEach es X.env := by rfl) (hpl : (backTo pos (starEach es X.env)).any (·.1) = false := by rfl) : DE X W (.Call (.Name x p) (e :: es) [] pos) (dMakeV j C sp tl) := by
  refine ⟨fun pins s σ H Q I h => ?_⟩
  obtain ⟨τ, M0, Q0, E0, S, h⟩ := h
  refine wpAny_Call_Name_kw (thn ((de_var (X := X) (W := W) (pos := p) j hN hv hd hcd).run pins s σ H (fun v H1 => v = .ref (ga X.K C) ∧ ∃ M1, Sit X.K W (RD X.K) τ M1 σ H1 Q0 E0 Q ∧ dMake C sp tl τ M1 Q0 E0) I (S.sub h fun d M1 v H1 h1 r1 S1 s1 => ?_)) fun u s1 ⟨v, H1, I1, rv, ev, M1, S1, h1⟩ => ?_)
  · cases d with
    | cl y =>
      obtain ⟨rfl, h2⟩ := h1
      exact ⟨r1, M1, S1, h2⟩
    | _ => exact h1.elim
  · subst ev
    obtain rfl : u = Value.ref (ga X.K C) := rv
    refine PySem.W.callWith_K (h₀ := X.base) I1.ok.mod.kin M.kp (thn (ha.run pos pins s1 σ H1 _ I1 (S1.sub (Q1 := fun vs H1 => ∀ x dx, H1 x = none → H1 dx = none → dx ≠ x → lsp X.K sp (V.ref x :: vs) (upd (upd H1 dx (.own x)) x (.ins (ga X.K C) dx [])) (fun v H2 => v = .non ∧ Q (.ref x) H2) (WE W σ)) h1
      fun ds M1 vs H1 h1 r1 S1 s1 => make_of S1 r1 h1)) fun us s1 ⟨vs, H1, I1, r, q⟩ => ⟨I1.kIn, ?_⟩) he hpl
    exact run_makeS M F.run G.tk hr I1 r q
/-! ### enumerate -/
def enumF : Nat → List D → List D
  | _, [] => []
  | i, d :: r => .tup [.int (i : Nat), d] :: enumF (i + 1) r
theorem enumF_len : ∀ {j : Nat} {ds : List D}, (enumF j ds).length = ds.length
  | _, [] => rfl
  | j, d :: r => by unfold enumF; rw [List.length_cons, List.length_cons, enumF_len]
theorem enumF_get : ∀ {ds : List D} {j i : Nat} {d : D}, (enumF j ds)[i]? = some d → ∃ y, ds[i]? = some y ∧ d = .tup [.int ((j + i : Nat) : Int), y]
  | [], _, _, _, e => by simp [enumF] at e
  | y :: r, j, 0, d, e => by
    unfold enumF at e
    rw [List.getElem?_cons_zero] at e
    cases e
    exact ⟨y, rfl, rfl⟩
  | y :: r, j, i + 1, d, e => by
    unfold enumF at e
    rw [List.getElem?_cons_succ] at e
    obtain ⟨z, h1, h2⟩ := enumF_get e
    exact ⟨z, by rw [List.getElem?_cons_succ]; exact h1, by rw [h2, show j + 1 + i = j + (i + 1) by omega]⟩
def diEnum (ta : DTA) : DTI := fun τ M Q E => ta τ M (fun ds M1 => match ds with
  | [.lst xs] => Q (enumF 0 xs) M1
  | _ => False) E
theorem it_enum {K : PySem.W.Frag} {M : Mu} {H : Hp} {a : Addr} {ds : List D} {vs : List V} (ha : H a = some (.lst vs)) (ma : M a = none) (ra : Reps K M H ds vs) : ItOk K M H (enumF 0 ds) (Ite K a) := fun M' H' s c => by
  have q : SqL K H' a vs := .inl (.inl (s a _ ha ma).1)
  have r := ra.stp s
  refine ⟨fun i h => ⟨vs, q, by rw [ra.length]; rw [enumF_len] at h; exact h⟩, fun i h => ?_, fun i d v H2 h y => ?_⟩
  · rw [enumF_len] at h
    obtain ⟨v, h1, _⟩ := r.get (List.getElem?_eq_getElem h)
    exact ⟨vs, v, q, h1⟩
  · obtain ⟨T, x, rfl, hT, rfl, y⟩ := y
    obtain ⟨z, h1, rfl⟩ := enumF_get h
    obtain ⟨u, h2, h3⟩ := r.get h1
    have ee := y vs q
    rw [h2] at ee
    obtain rfl : u = x := by simpa using ee
    have st : Stp M' H' M' (upd H' T (.tup [.int (i : Nat), u])) := Stp.new hT
    refine ⟨rep_tup upd_same (c.free hT) (.cons ?_ (.cons (h3.stp st) .nil)), c.new hT, st⟩
    show V.int _ = V.int _
    rw [Nat.zero_add]
theorem di_enum {elts : List Expr} {kk : Nat} (hm : X.mg "enumerate" = none) (ha : DA X W [a] tl) (hg : Gl X "enumerate" := by rfl) (hs : starEach [a] X.env = [(false, eval a X.env)] := by rfl) : DI X W (.Tuple elts kk tpos) (.Call (.Name "enumerate" p) [a] [] pos) (diEnum tl) :=
  PI.of (pi_enum hg hm ha hs) fun σ H R ⟨τ, M, Q0, E0, S, h⟩ => S.sub h fun ds M1 vs H1 h1 r1 S1 s1 => by
    match ds, h1 with
    | [.lst xs], h1 =>
      obtain ⟨v, u, rfl, r2, r3⟩ := r1.uncons
      cases r3.unnil
      obtain ⟨a, vs, rfl, ha, ma, ra⟩ := rep_of_lst r2
      exact ⟨a, vs, rfl, .inl (.inl ha), S1.end_ h1 (it_enum ha ma ra)⟩
end
/-! ### list.index -/
def idxD (y : D) : List D → Option Nat
  | [] => none
  | z :: r => if eqF z y = true then some 0 else (idxD y r).map (· + 1)
theorem idxD_ok {y : D} : ∀ {ds : List D} {j : Nat}, idxD y ds = some j → (∃ z, ds[j]? = some z ∧ eqF z y = true) ∧ ∀ m z, m < j → ds[m]? = some z → eqF z y = false
  | [], _, e => by cases e
  | z :: r, j, e => by
    unfold idxD at e
    split at e
    · rename_i h
      cases e
      exact ⟨⟨z, rfl, h⟩, fun m z l => absurd l (Nat.not_lt_zero m)⟩
    · rename_i h
      cases q : idxD y r with
      | none => rw [q] at e; cases e
      | some i =>
        rw [q] at e
        cases e
        obtain ⟨⟨u, h1, h2⟩, h3⟩ := idxD_ok q
        refine ⟨⟨u, h1, h2⟩, fun m w l hm => ?_⟩
        cases m with
        | zero => cases hm; simpa using h
        | succ m => exact h3 m w (Nat.lt_of_succ_lt_succ l) (by simpa using hm)
def gIndex : DMt := fun x xs M Q => match x, xs with
  | .lst ds, [y] => flatD y = true ∧ ds.all flatD = true ∧ ∃ j, idxD y ds = some j ∧ Q (.int (j : Nat)) M
  | _, _ => False
theorem md_index {K : PySem.W.Frag} : MtD K gIndex (rIndex K) := fun M H x v xs vs Q0 Q c rx r h q => by
  match x, xs, h with
  | .lst ds, [y], h =>
    obtain ⟨u, us, rfl, r1, r2⟩ := r.uncons
    cases r2.unnil
    obtain ⟨a, ws, rfl, ha, ma, ra⟩ := rep_of_lst rx
    obtain ⟨f1, f2, j, e, h⟩ := h
    obtain ⟨⟨z, h1, h2⟩, h3⟩ := idxD_ok e
    obtain ⟨w, h4, h5⟩ := ra.get h1
    have fz : flatD z = true := List.all_eq_true.mp f2 z (List.mem_of_getElem? h1)
    refine ⟨a, ws, u, j, w, rfl, rfl, .inl (.inl ha), flat_rep f1 r1, (in_rep f1 r1 f2 ra).1, h4, by rw [eqF_rep fz f1 h5 r1]; exact h2, fun m z' l hm => ?_, q _ M _ H h rfl c (Stp.refl M H)⟩
    have hl : m < ds.length := by
      have := (List.getElem?_eq_some_iff.mp hm).1
      rw [ra.length] at this
      exact this
    obtain ⟨w', h6, h7⟩ := ra.get (List.getElem?_eq_getElem hl)
    rw [hm] at h6
    cases h6
    have fz' : flatD ds[m] = true := List.all_eq_true.mp f2 _ (List.getElem_mem hl)
    rw [eqF_rep fz' f1 h7 r1]
    exact h3 m _ l (List.getElem?_eq_getElem hl)
/-! ### rows -/
def onCl {K : Prop} (C : Str) (_ : Lk K) (d : D) : Prop := match d with
  | .cl x => x = C ∧ K
  | _ => False
theorem onCl_c {K : Prop} {C : Str} : onCl (K := K) C ⟨⟩ (.cl C) = K := by show (C = C ∧ K) = K; simp
def onEnum {K : List D → Prop} (_ : Lk K) (ds : List D) : Prop := match ds with
  | [.lst xs] => K (enumF 0 xs)
  | _ => False
theorem onEnum_l {K : List D → Prop} {xs : List D} : onEnum (K := K) ⟨⟩ [.lst xs] = K (enumF 0 xs) := pq Iff.rfl
section
variable {C : Str} {sp : DSp} {tl : DTA} {τ : DSt} {M : Mu} {Q : DK} {E : DX} {D0 : DEnds} {i : Nat} {t : DTS} {Ql : List D → Mu → Prop}
theorem u_try : dTry t D0 τ M = t { D0 with xc := fun _ _ _ => False } τ M := pq Iff.rfl
theorem u_cm : dCM C sp tl τ M Q E = tl τ M (fun ds M1 => callK (K := Q) (L := E) ⟨⟩ ⟨⟩ sp (.cl C :: ds) M1) E := pq Iff.rfl
theorem u_makeV : dMakeV i C sp tl τ M Q E = dVar i τ M (fun d M1 => onCl (K := dMake C sp tl τ M1 Q E) C ⟨⟩ d) E := pq Iff.rfl
theorem index_l {ds : List D} {y : D} : mtK (K := Q) ⟨⟩ gIndex (.lst ds) [y] M = (flatD y = true ∧ ds.all flatD = true ∧ ∃ j, idxD y ds = some j ∧ Q (.int (j : Nat)) M) := pq Iff.rfl
theorem r_enum : diEnum tl τ M Ql E = tl τ M (fun ds M1 => onEnum (K := fun xs => Ql xs M1) ⟨⟩ ds) E := pq Iff.rfl
end
end DL

namespace DL
open PySem L2 He
/-! ### str(o): the class's __str__ raises nothing and gives a text -/
def gStrO (C : Str) (sp : DSp) : DCb := fun xs M Q => match xs with
  | [d] => isIns C M d ∧ sp [d] M (fun x M2 => (∃ t, x = .str t) ∧ Q x M2) noX
  | _ => False
def rStrO (K : PySem.W.Frag) (C : Str) (sp : DSp) (xs : List V) (H : Hp) (Q : VK) : Prop := ∃ a dx gs, xs = [.ref a] ∧ H a = some (.ins (ga K C) dx gs) ∧ lsp K sp [.ref a] H (fun v H' => (∃ t, v = .str t) ∧ Q v H') (fun _ _ _ => False)
theorem cb_strO {K : PySem.W.Frag} {C : Str} {sp : DSp} : CbD K (gStrO C sp) (rStrO K C sp) := fun M H xs vs Q0 Q c r h q => by
  match xs, h with
  | [d], h =>
    obtain ⟨v, u, rfl, r1, r2⟩ := r.uncons
    cases r2.unnil
    obtain ⟨a, fs, dx, gs, rfl, rfl, _, e2, _⟩ := isIns_at h.1 r1 c
    exact ⟨a, dx, gs, rfl, e2, [.ref a], M, _, noX, .cons r1 .nil, c, h.2, fun x M' v H' ⟨⟨t, et⟩, hq⟩ r' c' s' => ⟨⟨sx t, by subst et; exact r'⟩, q x M' v H' hq r' c' s'⟩, fun _ _ _ _ _ z => z.elim⟩
theorem call_strO {X : Cx} {C : Str} {sp : DSp} {k : Nat} (F : FnC X.prog X.w X.K X.mg X.base k C "__str__" sp) (hr : Room (k + 2) X.A) : CallR X (.type "str") (rStrO X.K C sp) := by
  intro pins s σ H xs us Q I rv h
  obtain ⟨a, dx, gs, rfl, ha, hsp⟩ := h
  obtain ⟨u, rfl, ru⟩ := rv.one
  cases ru
  obtain ⟨mA, O, _⟩ := ins_get I.hok ha
  obtain ⟨od, J, _⟩ := O.look
  have r1 : Room (k + 1) X.A.in1 := Room.in1 hr
  have r2 : Room k X.A.in1.in1 := Room.in1 r1
  refine PySem.W.kso_call (by have := r2.un; omega) I.kIn J F.at_ F.fn ?_
  have z := run_S (W := fun _ _ _ _ => False) (X := X) F.run takes_none5 r2 I.env0.in1.in1 I (us := [.ref a]) (vs := [.ref a]) (.cons rfl .nil) hsp
  refine thn z fun u s1 ⟨v, H1, I1, r, ⟨t, et⟩, hq⟩ => ?_
  subst et
  obtain ⟨w, rfl⟩ : ∃ w, u = .str t w := r
  exact ⟨.str t, H1, I1, ⟨_, rfl⟩, hq⟩
theorem strO_r {C : Str} {sp : DSp} {M : Mu} {Q : DK} {d : D} : cbK (K := Q) ⟨⟩ (gStrO C sp) [d] M = (isIns C M d ∧ sp [d] M (fun x M2 => (∃ t, x = .str t) ∧ Q x M2) noX) := pq Iff.rfl
end DL

namespace DL
open PySem L2 He
/-! ### own ==, <=, <: the class's def raises nothing -/
structure CmpC (K : PySem.W.Frag) (C : Str) : Prop where
  no : ∀ T ∈ ["NoneType", "bool", "int", "str", "list", "tuple", "dict"], PySem.W.notFirst K (ga K C) (.type T) = true
def cmpCB (C : Str) (K : PySem.W.Frag) : Bool := ["NoneType", "bool", "int", "str", "list", "tuple", "dict"].all fun T => PySem.W.notFirst K (ga K C) (.type T)
theorem cmpCB_ok {K : PySem.W.Frag} {C : Str} (h : cmpCB C K = true) : CmpC K C := ⟨fun T hT => List.all_eq_true.mp h T hT⟩
def gCmpO (C : Str) (sp : DSp) : DOp := fun x y M Q => isIns C M x ∧ (isIns C M y ∨ ∃ n, tyD M y = some n) ∧ sp [x, y] M Q noX
def rCmpO (K : PySem.W.Frag) (C : Str) (sp : DSp) : R2 := fun x y H Q => ∃ a dx gs t, x = .ref a ∧ H a = some (.ins (ga K C) dx gs) ∧ (TyX K H y t ∨ ∃ b dy fs, y = .ref b ∧ t = .ref (ga K C) ∧ H b = some (.ins (ga K C) dy fs)) ∧
  PySem.W.notFirst K (ga K C) t = true ∧ lsp K sp [x, y] H Q (fun _ _ _ => False)
theorem od_cmpO {K : PySem.W.Frag} {C : Str} {sp : DSp} (k : CmpC K C) : OpD K (gCmpO C sp) (rCmpO K C sp) := fun M H x y v u Q0 Q c rx ry h q => by
  obtain ⟨h1, h2, h3⟩ := h
  obtain ⟨a, fs, dx, gs, rfl, rfl, _, e2, _⟩ := isIns_at h1 rx c
  have sp' : lsp K sp [.ref a, u] H Q (fun _ _ _ => False) := ⟨[.ref a, y], M, Q0, noX, .cons rx (.cons ry .nil), c, h3, q, fun _ _ _ _ _ z => z.elim⟩
  rcases h2 with h2 | ⟨n, h2⟩
  · obtain ⟨b, fs2, dy, gs2, rfl, rfl, _, e3, _⟩ := isIns_at h2 ry c
    exact ⟨a, dx, gs, .ref (ga K C), rfl, e2, .inr ⟨b, dy, gs2, rfl, rfl, e3⟩, by unfold PySem.W.notFirst; rw [beq_self_eq_true]; rfl, sp'⟩
  · obtain ⟨t1, t2⟩ := ty_rep c ry h2
    exact ⟨a, dx, gs, .type n, rfl, e2, .inl t1, k.no n t2, sp'⟩
theorem op_cmpO {X : Cx} {C : Str} {sp : DSp} {k : Nat} {op : CmpOp} (hop : ∀ a b, compareOp op a b = richCompare op a b) (F : FnC X.prog X.w X.K X.mg X.base k C (cmpInfo op).2.1 sp) (hr : Room k X.A) : OpR X (compareOp op) (rCmpO X.K C sp) := by
  intro pins s σ H x y v u Q I rx ry h
  obtain ⟨a, dx, gs, t, rfl, ha, ht, hn, hsp⟩ := h
  cases rx
  obtain ⟨mA, O, _⟩ := ins_get I.hok ha
  obtain ⟨od, J, _⟩ := O.look
  obtain ⟨m, hF⟩ := I.fr
  rw [hop]
  have hb : PySem.W.Looks (model X.prog X.w) s.heap (typeOf u) t := by
    rcases ht with ht | ⟨b, dy, fs, rfl, rfl, hb⟩
    · obtain ⟨P, Z, p, _⟩ := kit_of I ry ht
      exact Z.ty _ _ I.kIn p
    · cases ry
      obtain ⟨mB, O2, _⟩ := ins_get I.hok hb
      obtain ⟨od2, J2, _⟩ := O2.look
      exact J2.type
  refine PySem.W.cmp_K (op := op) (tb := t) (by have := hr.un; omega) hF I.ok.mod.kin J hb hn F.at_ F.fn ?_
  have z := run_S (W := fun _ _ _ _ => False) (X := X) F.run takes_none5 hr I.env0 I (us := [.ref a, u]) (vs := [.ref a, y]) (.cons rfl (.cons ry .nil)) hsp
  refine thn z fun w s1 ⟨z', H1, I1, r, hq⟩ => ?_
  exact SlX.cmpback r ⟨z', H1, I1, r, hq⟩
theorem cmpO_r {C : Str} {sp : DSp} {M : Mu} {Q : DK} {x y : D} : opK (K := Q) ⟨⟩ (gCmpO C sp) x y M = (isIns C M x ∧ (isIns C M y ∨ ∃ n, tyD M y = some n) ∧ sp [x, y] M Q noX) := pq Iff.rfl
/-! ### list.pop(i), 0 <= i -/
def gPop1 : DMt := fun x xs M Q => match x, xs with
  | .ref a, [.int i] => (match M a with
    | some (.lst ds) => 0 ≤ i ∧ i < 1073741824 ∧ (match ds[i.toNat]? with
      | some d => Q d (put M a (.lst (ds.eraseIdx i.toNat)))
      | none => False)
    | _ => False)
  | _, _ => False
theorem seqIx_nat {i : Int} {n : Nat} (h0 : 0 ≤ i) (h : i.toNat < n) : seqIndex? i n = some i.toNat := by
  unfold seqIndex?
  have h1 : ¬ i < 0 := by omega
  have h2 : i < (n : Int) := by omega
  simp [h1, h2, h0]
theorem md_pop1 {K : PySem.W.Frag} : MtD K gPop1 rPopAt := fun M H x v xs vs Q0 Q c rx r h q => by
  match x, xs, h with
  | .ref a, [.int i], h =>
    obtain ⟨u, us, rfl, r1, r2⟩ := r.uncons
    cases r2.unnil; cases rx; cases r1
    have h2 : (match M a with
      | some (.lst ds) => 0 ≤ i ∧ i < 1073741824 ∧ (match ds[i.toNat]? with
        | some d => Q0 d (put M a (.lst (ds.eraseIdx i.toNat)))
        | none => False)
      | _ => False) := h
    cases e : M a with
    | none => rw [e] at h2; exact h2.elim
    | some mo =>
      rw [e] at h2
      cases mo with
      | lst ds =>
        obtain ⟨ws, ha, ra⟩ := mu_lst c e
        have h3 : 0 ≤ i ∧ i < 1073741824 ∧ (match ds[i.toNat]? with
          | some d => Q0 d (put M a (.lst (ds.eraseIdx i.toNat)))
          | none => False) := h2
        obtain ⟨i0, i1, h3⟩ := h3
        cases e2 : ds[i.toNat]? with
        | none => rw [e2] at h3; exact h3.elim
        | some d =>
          rw [e2] at h3
          obtain ⟨w, hw, rw_⟩ := ra.get e2
          have hl : i.toNat < ws.length := (List.getElem?_eq_some_iff.mp hw).1
          have st := Stp.write (H := H) (o := .lst (ws.eraseIdx i.toNat)) (mo' := .lst (ds.eraseIdx i.toNat)) e
          exact ⟨a, ws, i, i.toNat, w, rfl, rfl, ha, by omega, by omega, seqIx_nat i0 hl, hw, q _ _ _ _ h3 (rw_.stp st) (c.write e ⟨_, rfl, ra.erase _⟩) st⟩
      | _ => exact h2.elim
theorem pop1_r {a : Addr} {i : Int} {M : Mu} {Q : DK} : mtK (K := Q) ⟨⟩ gPop1 (.ref a) [.int i] M = onML (K := fun ds => 0 ≤ i ∧ i < 1073741824 ∧ onSome (K := fun d => Q d (put M a (.lst (ds.eraseIdx i.toNat)))) ⟨⟩ ds[i.toNat]?) ⟨⟩ (M a) := by
  show (match M a with
    | some (.lst ds) => 0 ≤ i ∧ i < 1073741824 ∧ (match ds[i.toNat]? with
      | some d => Q d (put M a (.lst (ds.eraseIdx i.toNat)))
      | none => False)
    | _ => False) = _
  cases M a with
  | none => rfl
  | some mo =>
    cases mo with
    | lst ds =>
      show (0 ≤ i ∧ i < 1073741824 ∧ (match ds[i.toNat]? with
        | some d => Q d (put M a (.lst (ds.eraseIdx i.toNat)))
        | none => False)) = (0 ≤ i ∧ i < 1073741824 ∧ onSome (K := fun d => Q d (put M a (.lst (ds.eraseIdx i.toNat)))) ⟨⟩ ds[i.toNat]?)
      cases ds[i.toNat]? <;> rfl
    | _ => rfl
end DL

namespace DL
open PySem L2 He NdefX
/-! ### the machine: an own error's __init__ that begins by super().__init__('..') -/
/-- the def (with its cell and its code object) in the written part -/
structure ErrD (K : PySem.W.Frag) (x qual : Str) (params : Arguments) (body : List Stmt) (scope : Scope) (C f cc cda : Addr) (file : Str) (fd : FuncData) : Prop where
  ex : ∃ (oc : Value) (od : Option Addr) (kV doc pm : Value) (an : Option Addr) (ct : Value) (osl : Array (Option Value)),
    fd = PySem.W.fnX x qual params body scope [("__class__", cc)] .none kV doc pm an (.ref cda) ct ∧ K.lookup f = some ⟨oc, od, .func fd, osl⟩
  crec : PySem.W.codeIn K (.ref cda) qual = true
  cell : ∃ (cl : Value) (cld : Option Addr) (csl : Array (Option Value)), K.lookup cc = some ⟨cl, cld, .cell (some (.ref C)), csl⟩
  code : ∃ (ccl : Value) (cdd : Option Addr) (vs : Array Value) (ccs : Array (Option Value)) (tf : Tok), K.lookup cda = some ⟨ccl, cdd, .fields vs, ccs⟩ ∧ vs[2]? = some (.str file tf)
/-- what the class says -/
structure ErrC (K : PySem.W.Frag) (C : Addr) : Prop where
  T : OexC K C
  sup : PySem.W.ks_superIn K C C "__init__" = some (some (.builtin "ValueError.__init__"))
  sub : PySem.W.subIn K (.ref C) (.type "ValueError") = some true
  self : PySem.W.mroIn K C (.ref C) = some true
  any : PySem.W.nsIn K cStatics "thirdparty.any" = some none
section
open PySem.W PySem.Calls PyProof.Rows
variable {prog : Program} {w : World} {M : Model} {A : Around} {E : Value → Shared → Prop} {h : Heap} {g : Array GenState} {d : Drawn} {t : Nat} {os : OsState}
variable {nm q : Str} {C N : Addr} {bs bm : List Value} {hdct : Bool} {sn : List Str} {sub : List Value} {ab : Bool} {col : Option Bool} {dd : Option Addr} {k0 k1 k2 k3 k5 : Option Value}
theorem err_bound {B newId initId : String} {bmB : List Value} (F : ExcBaseFacts B newId initId bmB) {e : Addr} {oe : Obj} {rest : List Value} {Q : Unit → Shared → Prop}
    (hC : h.get? C = some (excClassObj nm q C N bs bm hdct sn sub ab col dd k0 k1 k2 k3 k5 newId)) (he : h.get? e = some oe) (hcls : oe.cls = .ref C) (hq : Q () ⟨h, g, d, t, os⟩) :
    wpAny M A (checkBoundCall initId ⟨.ref e :: rest, []⟩) Q E ⟨h, g, d, t, os⟩ := by
  have hshort := F.noStar
  simp only [checkBoundCall, F.initKind, F.initRow]
  repeat (first | (with_reducible refine wpAny_loadPart_at he ?_; rw [hcls]) | with_reducible refine wpAny_loadPart_at hC ?_ | wp_step)
  refine wpAny_onRaise ?_
  rw [show ∀ (a b : String) (n : Nat), Bind.check ⟨.positional, "*", B, .self, [⟨"args", .varPos, false⟩]⟩ a b n (List.map (fun x => x.fst) ({ pos := Value.ref e :: rest } : Args).kw) = pure () from
    fun a b n => check_star_args _ _ _ _ _ _]
  exact wpAny_pure hq
/-- super().__init__(..), bound, called -/
theorem err_call {u e t0 : Addr} {rest : List Value} {Q : Value → Shared → Prop}
    (hC : h.get? C = some (excClassObj nm q C N bs bm hdct sn sub ab col dd k0 k1 k2 k3 k5 "ValueError.__new__")) (he : h.get? e = some (HandSPX.excO C t0)) (hu : h.get? u = some (kxs_mw "ValueError.__init__" e)) (hrest : rest.length ≤ sizeLine)
    (hq : ∀ h' t1, (∀ b o, b ≠ e → h.get? b = some o → h'.get? b = some o) → h'.get? e = some (HandSPX.excO C t1) → Q .none ⟨h', g, d, t, os⟩) :
    wpAny (model prog w) A (call (.ref u) rest) Q E ⟨h, g, d, t, os⟩ := by
  refine wpAny_call (codeAny_of_tree ?_)
  show wpAny _ A.in1 (callAny (.ref u) ⟨rest, []⟩) _ _ _
  simp only [callAny]
  refine wpAny_bind (wpAny_load hu ?_)
  simp only [kxs_mw, show (Value.type "method-wrapper" == Value.type "method" || Value.type "method-wrapper" == Value.type "builtin_function_or_method" || Value.type "method-wrapper" == Value.type "method-wrapper") = true by decide, if_true]
  refine W.KFB.if_so (by decide) ?_
  refine wpAny_bind (err_bound F.excBase_ValueError hC he rfl ?_)
  refine wpAny_bind (wpAny_pure (wpAny_pure ?_))
  refine ⟨Code.quiet_builtin _ (by decide +kernel), codeAny_builtin F.excBase_ValueError.initEntry ?_⟩
  rw [Around.under_plainId F.excBase_ValueError.init.plain _]
  wp_walk
  refine hq _ h.objs.size (fun b o hb ho => ?_) ?_
  · rw [Heap.get?_update_other _ _ (Ne.symm hb)]
    exact Heap.get?_push_of_some _ ho
  · rw [Heap.get?_update_self _ (Heap.get?_push_of_some _ he) rfl]
    rfl
end
/-- the statement super().__init__('..') of the class C's __init__ -/
theorem err_super {X : Cx} {F : NF} {f L a C cc cda : Addr} {file x qual m : Str} {params : Arguments} {body : List Stmt} {scope : Scope} {fd : FuncData} {pins : List (Addr × Obj)} {σ : L2.St} {H : Hp} {s : Shared} {ar : Arg} {p0 p1 p2 p3 p4 p5 : Pos} {j : Nat} {cbody : List Stmt}
    (D : ErrD X.K x qual params body scope C f cc cda file fd) (T : ErrC X.K C) (henv : X.env = PySem.W.envX qual scope L f (.ref cda) [("__class__", cc)]) (I : Inv X pins σ H s) (ea : H a = some (exo a C none))
    (hp : (params.posonlyargs ++ params.args).head? = some ar) (h0 : X.N[0]? = some ar.arg) (hs0 : σ[0]? = some (some (.ref a)))
    (hfile : ((X.prog.main.file : Str) == file) = true) (hm : X.mg "super" = none) (htop : (X.prog.main.scope.names.lookup ("super" : Str)).isSome = false)
    (hks : scope.names.lookup ("super" : Str) = some .globalImplicit) (hkc : scope.names.lookup ("__class__" : Str) = some .free) (hka : scope.names.lookup ar.arg = some .local)
    {Q : Flow → Shared → Prop} {E : Value → Shared → Prop} {pl : Sem Bool} (hq : ∀ s', Inv X pins σ H s' → Q .next s')
    (hi : interactive X.env = false := by rfl) (hsw : swapsWith (.Call (.Attribute (.Call (.Name "super" p0) [] [] p1) "__init__" p2) [.Constant (.str m) j p3] [] p4) none p5.line X.env = pure false := by rfl)
    (he : eval (.Call (.Attribute (.Call (.Name "super" p0) [] [] p1) "__init__" p2) [.Constant (.str m) j p3] [] p4) X.env = (do
      let ov ← attributeBase (.Call (.Name "super" p0) [] [] p1) "__init__" X.env (eval (.Call (.Name "super" p0) [] [] p1) X.env)
      standAt p2.atName
      let (f, first) ← holding [ov] (getMethod ov "__init__" pl)
      callWith p4 f first (backTo p4 (starEach [.Constant (.str m) j p3] X.env)) []) := by rfl) :
    _root_.PySem.wpAt (model X.prog X.w) X.A (.func cbody X.env) (exec (.Expr (.Call (.Attribute (.Call (.Name "super" p0) [] [] p1) "__init__" p2) [.Constant (.str m) j p3] [] p4) p5) X.env) Q E s := by
  obtain ⟨oc, od, kV, doc, pm, an, ct, osl, rfl, hf⟩ := D.ex
  obtain ⟨cl, cld, csl, hcell⟩ := D.cell
  obtain ⟨ccl, cdd, vs, ccs, tf, hcode, hvs⟩ := D.code
  have KX := I.kIn
  refine ks_wpAt_Expr_any (ks_wpAt_MethodCall (pl := pl) ?_ he) hi hsw
  obtain ⟨nm, q, N, bs, bm, sn, sub, ab, col, dd, k0, k1, k2, k3, k5, hC, hbm⟩ := T.T.cls
  obtain ⟨mb, hb1, hb2⟩ := I.mod.blt
  obtain ⟨mL, hns, hloc⟩ := I.loc
  obtain ⟨u0, hu0, hl0⟩ := hloc 0 ar.arg (.ref a) h0 hs0 (.inl (by rw [henv]; exact hka))
  obtain rfl : u0 = Value.ref a := hu0
  have hself : mL ar.arg = some (.ref a) := by
    rcases hl0 with ⟨_, e⟩ | ⟨e, _⟩
    · exact e
    · have e1 : scope.names.lookup ar.arg = some .cell ∨ scope.names.lookup ar.arg = some .free := by rw [henv] at e; exact e
      rw [hka] at e1
      rcases e1 with e1 | e1 <;> cases e1
  obtain ⟨t1, ho⟩ := exo_at I.hok ea
  have hkS : X.env.kindOf "super" = some .globalImplicit := by rw [henv]; exact hks
  have hkC : X.env.kindOf "__class__" = some .free := by rw [henv]; exact hkc
  refine PySem.ks_wpAt_super_base (f := f) (cc := cda) hkS hkC (by decide) (by rw [henv]) (KX _ _ hf) rfl hp (by rw [henv]) (KX _ _ hcode) rfl hvs hfile htop ?_
  refine PySem.W.ks_loadName_global I.ok.kind hkS (Calls.loadGlobal_builtin (by rw [I.ok.glob]; exact I.mod.glob.keeps I.bk) hm (by rw [I.ok.blt]; exact hb1.keeps I.bk) ((hb2 "super" (by decide)).trans (by decide +kernel)) ⟨rfl, ?_⟩)
  refine wpAny_loadName_free I.ok.kind hkC (c := cc) (by rw [henv]; rfl) ⟨_, KX _ _ hcell, rfl⟩ ?_
  refine wpAny_loadName_local I.ok.kind (by rw [henv]; exact hka) hns hself ?_
  refine PySem.ks_wpAny_isType_cls (KX _ _ hC) rfl ⟨rfl, ?_⟩
  obtain ⟨hh, g, d, t, os⟩ := s
  have hno : ∀ c, ({ cls := .ref C, dict := none, data := .fields #[.ref t1, .none, .none, .none, .bool false, .none] } : Obj).data ≠ .cls c := fun c e => by cases e
  refine PySem.ks_wpAny_call_super (KX _ _ hC) rfl ho rfl hno (PySem.W.looks_mroIn KX T.self) fun h' e k => ?_
  have I1 : Inv X pins σ H ⟨h', g, d, t, os⟩ := I.kept (t' := t) k
  have K1 := I1.kIn
  obtain ⟨t2, ho1⟩ := exo_at I1.hok ea
  have hcl : PySem.W.clsIn X.K C = some { name := nm, bases := bs, mro := .ref C :: bm, ns := N, qualname := q, hasDict := true, slotNames := sn, subclasses := sub, abstract := ab, collection := col, hasDel := false } := by unfold PySem.W.clsIn; rw [hC] <;> rfl
  have hsup := T.sup
  unfold PySem.W.ks_superIn at hsup
  rw [hcl] at hsup
  have J : PySem.W.InstAt h' a { cls := .ref C, dict := none, data := .fields #[.ref t2, .none, .none, .none, .bool false, .none] } C none := ⟨ho1, rfl, rfl, trivial⟩
  refine PySem.W.kxs_getMethod PySem.W.kxs_ValueError (D := C) (x := a) (C := C) e (PySem.W.looks_opaque K1 T.any) (l₀ := .ref C :: bm) ?_ rfl K1 hsup (J.type.andThen (PySem.W.looks_subIn K1 T.sub)) (PySem.W.ks_ne K1 J hcl) (by decide) ?_
  · exact fun A Q E s k q => wpAny_bind ((PySem.W.looks_clsIn K1 hcl) A _ E s k (wpAny_pure q))
  have I2 := ClX.pin_new (t' := t + 1) (a := h'.objs.size) (o := PySem.W.kxs_mw "ValueError.__init__" a) (h' := h'.push (PySem.W.kxs_mw "ValueError.__init__" a)) I1 (fun b o e => Heap.get?_push_of_some _ e) (Nat.le_refl _) (Heap.get?_push_at rfl rfl) (fun v e => by cases e)
  refine PySem.W.kxs_callWith (i := "ValueError.__init__") (x := a) rfl ?_
  refine Calls.evalArgs_plain (thn ((pa_cons (pe_str (x := m) (j := j) (pos := p3)) pa_nil).run p4 _ _ σ H (fun ws H2 => ws = [.str m] ∧ H2 = H) I2 ⟨rfl, rfl⟩) fun us s3 ⟨ws, H3, I3, r3, e1, e2⟩ => ?_)
  subst e1 e2
  refine ⟨ClX.pin_at I3, ?_⟩
  obtain ⟨t3, ho3⟩ := exo_at I3.hok ea
  have l3 : us.length ≤ sizeLine := by rw [← Paired.length r3, sizeLine_eq]; show (1 : Nat) ≤ 16777216; decide
  obtain ⟨hp3, g3, d3, tk3, os3⟩ := s3
  refine err_call (I3.kIn _ _ hC) ho3 (ClX.pin_at I3) l3 fun h4 t4 k4 e4 => ?_
  have I4 := ClX.unpin I3
  have J4 := I4.write (t' := tk3) (x := a) (e := a) (o := exo a C none) (by rw [ea]; exact True.intro) (.inl rfl) k4 ⟨_, e4⟩ (exo_ok e4)
  have eu : upd H3 a (exo a C none) = H3 := by
    funext b
    by_cases hb : b = a
    · rw [hb, upd_same, ea]
    · rw [upd_ne hb]
  rw [eu] at J4
  exact hq _ J4
/-- C(x), x kept in the field fld -/
def spErr (C : Addr) (fld : Str) : Sp := fun vs H Q _ => ∃ (a : Addr) (u : V), vs = [.ref a, u] ∧ H a = some (exo a C none) ∧ ∀ dx, H dx = none → dx ≠ a → Q .non (upd (upd H dx (exd dx [(fld, u)])) a (exo a C (some dx)))
theorem err_ok {P : Program} {w : World} {K : PySem.W.Frag} {mg : Str → Option Value} {base : Heap} {CX : CXT} {N : List Str} {x qual self par fld m : Str} {params : Arguments} {body : List Stmt} {scope : Scope} {C f cc cda : Addr} {file : Str} {fd : FuncData} {ar : Arg} {j k : Nat} {p0 p1 p2 p3 p4 p5 p6 p7 p8 p9 : Pos}
    (D : ErrD K x qual params body scope C f cc cda file fd) (T : ErrC K C) (hfld : PySem.W.findIn K (.ref C) fld = some none) (S : NScope N [self, par] ["__class__"] scope)
    (hbody : body = [.Expr (.Call (.Attribute (.Call (.Name "super" p0) [] [] p1) "__init__" p2) [.Constant (.str m) j p3] [] p4) p5, .Assign [.Attribute (.Name self p6) fld p7] (.Name par p8) p9])
    (hp : (params.posonlyargs ++ params.args).head? = some ar) (har : ar.arg = self) (hN0 : N[0]? = some self) (hN1 : N[1]? = some par)
    (hfile : ((P.main.file : Str) == file) = true) (hm : mg "super" = none) (htop : (P.main.scope.names.lookup ("super" : Str)).isSome = false) (hks : scope.names.lookup ("super" : Str) = some .globalImplicit)
    (hi : ∀ L, interactive (PySem.W.envX qual scope L f (.ref cda) [(("__class__" : Str), cc)]) = false)
    (hsw : ∀ L, swapsWith (.Call (.Attribute (.Call (.Name "super" p0) [] [] p1) "__init__" p2) [.Constant (.str m) j p3] [] p4) none p5.line (PySem.W.envX qual scope L f (.ref cda) [(("__class__" : Str), cc)]) = pure false)
    (hsw2 : ∀ L, swapsWith (.Name par p8) (some (.Attribute (.Name self p6) fld p7)) p9.line (PySem.W.envX qual scope L f (.ref cda) [(("__class__" : Str), cc)]) = pure false)
    (he : ∀ L, ∃ pl, eval (.Call (.Attribute (.Call (.Name "super" p0) [] [] p1) "__init__" p2) [.Constant (.str m) j p3] [] p4) (PySem.W.envX qual scope L f (.ref cda) [(("__class__" : Str), cc)]) = (do
      let ov ← attributeBase (.Call (.Name "super" p0) [] [] p1) "__init__" (PySem.W.envX qual scope L f (.ref cda) [(("__class__" : Str), cc)]) (eval (.Call (.Name "super" p0) [] [] p1) (PySem.W.envX qual scope L f (.ref cda) [(("__class__" : Str), cc)]))
      standAt p2.atName
      let (f2, first) ← holding [ov] (getMethod ov "__init__" pl)
      callWith p4 f2 first (backTo p4 (starEach [.Constant (.str m) j p3] (PySem.W.envX qual scope L f (.ref cda) [(("__class__" : Str), cc)]))) []))
    (d1 : (self == ("__debug__" : Str)) = false) (d2 : (self == ("__classdict__" : Str)) = false) (d3 : (par == ("__debug__" : Str)) = false) (d4 : (par == ("__classdict__" : Str)) = false) :
    FnOk P w K mg base CX (k + 1) f fd [self, par] (spErr C fld) := by
  have hself : scope.names.lookup self = some .local := S.par self (by simp)
  have hpar : scope.names.lookup par = some .local := S.par par (by simp)
  have hfr : scope.names.lookup ("__class__" : Str) = some .free := S.frk _ (by simp)
  refine ⟨fun vs H Q E ⟨a, u, e, _⟩ => by rw [e]; rfl, fun A outer s H args us vs Q E hr e0 hb r hsp => ?_⟩
  obtain ⟨a, u, rfl, ea, hq⟩ := hsp
  obtain ⟨oc, od, kV, doc, pm, an, ct, osl, rfl, lk⟩ := D.ex
  obtain ⟨cl, cld, csl, hcell⟩ := D.cell
  have KX : K.In s.heap := e0.mod.kin.keeps fun b o e => (e0.bs b o e).1
  have lim : s.heap.NoLimit := e0.mod.nolimit.keeps fun b o e => (e0.bs b o e).1
  refine codeAny_call_function hr.depth (KX _ _ lk) rfl S.co S.gen rfl (PySem.W.codeRec_of KX D.crec) (hb _ _ _ _ ?_)
  refine wpAny_newFunctionEnv S.nocell (fun ⟨n, _⟩ hy => S.par n (List.of_mem_zip hy).1) (fun h₁ hns hsb => ⟨lim.fresh _ hsb, ?_⟩) S.kind
  have kp : ∀ b o, s.heap.get? b = some o → h₁.get? b = some o := fun b o e => hsb.extBut b o (Nat.ne_of_lt (Heap.lt_size e)) (Heap.get?_push_of_some _ e)
  have CA : CellsAt [(("__class__" : Str), cc)] ["__class__"] [none] s.heap H := by
    have key : ∀ {y : Str} {c : Addr}, List.lookup y [(("__class__" : Str), cc)] = some c → y = "__class__" ∧ c = cc := fun {y c} e => by
      rw [List.lookup_cons] at e
      cases q : (y == ("__class__" : Str)) with
      | true => rw [q] at e; cases e; exact ⟨beq_iff_eq.mp q, rfl⟩
      | false => rw [q] at e; cases e
    refine ⟨rfl, fun y c e => ?_, fun y z c e1 e2 => by rw [(key e1).1, (key e2).1], fun i y e => ?_⟩
    · obtain ⟨rfl, rfl⟩ := key e
      exact ⟨(e0.bs _ _ (e0.mod.kin _ _ hcell)).2, _, _, KX _ _ hcell, rfl⟩
    · cases i with
      | zero =>
        cases e
        exact ⟨cc, rfl, fun v e => by cases e⟩
      | succ i => cases e
  let F : NF := ⟨x, qual, params, body, scope, [("__class__", cc)], cda⟩
  have I : Inv (ncx CX P w K mg base N F f A outer s H E) [] (startF N [.ref a, u] [none]) H { s with heap := h₁, toks := s.toks + ([self, par].zip us).length } := inv_startN (F := F) S hr.hd e0 rfl r CA hns kp
  show codeAny _ _ (.func body (envF F f s.heap.objs.size)) _ _
  refine PySem.ks_codeAny_funcAt ?_
  subst hbody
  obtain ⟨pl, he⟩ := he s.heap.objs.size
  refine PySem.ks_wpAt_execs_cons (err_super (X := ncx CX P w K mg base N F f A outer s H E) (F := F) D T rfl I ea hp (by rw [har]; exact hN0) rfl hfile hm htop hks hfr (by rw [har]; exact hself) (pl := pl) (fun s1 I1 => ?_) (hi _) (hsw _) he)
  refine wpAt_of_wpAny ?_
  have P1 : PSs (ncx CX P w K mg base N F f A outer s H E) [.Assign [.Attribute (.Name self p6) fld p7] (.Name par p8) p9] (tOst K fld (tVar 0) (tVar 1)) :=
    pss_one (ps_ost (pe_var hN0 (.inl hself) d1 d2) (pe_var hN1 (.inl hpar) d3 d4) (hsw2 _))
  have fin : ∀ {σ' : L2.St} {H' : Hp} {v : V} {u : Value} {s' : Shared}, Inv (ncx CX P w K mg base N F f A outer s H E) [] σ' H' s' → L2.RelV v u → Q v H' → CE outer P w H s Q u s' :=
    fun {σ' H' v u s'} J rv q => ⟨v, H', J.os, J.bare, J.base, J.hok, rv, q⟩
  refine wpAny_mono (P1.run [] s1 _ H { nx := fun _ H' => Q .non H', rt := Q } I1 ?_) (fun fl s' hs => ?_) fun e s' hs => hs
  · refine ⟨u, rfl, .ref a, rfl, a, C, rfl, T.T, hfld, .inl ⟨ea, fun dx h1 h2 => hq dx h1 h2⟩⟩
  · cases fl with
    | ret u =>
      obtain ⟨v, σ', H', J, rv, q⟩ := hs
      exact fin J rv q
    | next =>
      obtain ⟨σ', H', J, q⟩ := hs
      exact fin (v := V.non) (u := Value.none) J rfl q
    | brk =>
      obtain ⟨_, _, _, q⟩ := hs
      exact False.elim q
    | cont =>
      obtain ⟨_, _, _, q⟩ := hs
      exact False.elim q
end DL

namespace DL
open PySem L2 He
/-! ### raise C(x) -/
structure FnE (P : Program) (w : World) (K : PySem.W.Frag) (mg : Str → Option Value) (base : Heap) (k : Nat) (C fld : Str) : Prop where
  ex : ∃ f fd ps, FnOk P w K mg base (L2.CX P w) k f fd ps (spErr (ga K C) fld) ∧ PySem.W.findIn K (.ref (ga K C)) "__init__" = some (some (.ref f)) ∧ PySem.W.typeIn K (.ref f) = some (.type "function") ∧ Binds K fd ps []
  T : OexC K (ga K C)
  g : mg C = some (.ref (ga K C))
def dRaise (C fld : Str) (te : DTE) : DTS := fun D0 τ M => te τ M (fun d M1 => D0.xc ⟨C, [(fld, d)]⟩ τ M1) (D0.ex τ)
section
variable {X : Cx} {W : WX} {e : Expr} {te : DTE} {pos pos' p : Pos} {C fld : Str} {k : Nat}
theorem ds_raise (F : FnE X.prog X.w X.K X.mg X.base k C fld) (G : Gd X W) (hr : Room (k + 1) X.A) (he : DE X W e te) (hg : Gl X C := by rfl) (hdb : (C == ("__debug__" : Str)) = false := by decide)
    (hst : starEach [e] X.env = (false, eval e X.env) :: starEach [] X.env := by rfl) (hpl : (backTo pos (starEach [] X.env)).any (·.1) = false := by rfl) : DS X W (.Raise (some (.Call (.Name C p) [e] [] pos)) none pos') (dRaise C fld te) := by
  obtain ⟨f, fd, ps, Fk, hi, ht, hb⟩ := F.ex
  refine PS.of (ps_raise G.calm G.tk (pmk_oex (dvs := []) (ds := []) F.T hi ht Fk hr hb .nil (fun pins σ H s e s' I h => passAt takes_none5 σ pins H s e s' I h) hg F.g (da_cons he da_nil (hs := hst)) hdb hst hpl)) fun D1 σ H ⟨τ, M, D0, S, h⟩ => ?_
  refine S.sub (R1 := RA X.K) (t := daCons te daNil) (G := fun ds M1 => match ds with
    | [d] => D0.xc ⟨C, [(fld, d)]⟩ τ M1
    | _ => False) h fun ds M1 vs H1 h1 r1 S1 s1 => ?_
  match ds, h1 with
  | [d], h1 =>
    obtain ⟨v, us, rfl, rv, rn⟩ := r1.uncons
    cases rn.unnil
    refine ⟨(by show (1 : Nat) ≤ 1000; decide), fun a ha => ⟨a, v, rfl, upd_same, fun dx hdx hne => ⟨rfl, dx, [(fld, v)], upd_same, by rw [upd_ne hne, upd_same], by rw [upd_ne hne] at hdx; exact hdx, ?_⟩⟩⟩
    have hdx1 : H1 dx = none := by rw [upd_ne hne] at hdx; exact hdx
    have e1 : upd (L2.del (upd (upd (upd H1 a (exo a (ga X.K C) none)) dx (exd dx [(fld, v)])) a (exo a (ga X.K C) (some dx))) a) dx (.xd [(fld, v)]) = upd H1 dx (.xd [(fld, v)]) := by
      funext b
      by_cases hb : b = dx
      · rw [hb, upd_same, upd_same]
      · rw [upd_ne hb, upd_ne hb]
        by_cases hba : b = a
        · rw [hba, L2.del_same, ha]
        · rw [L2.del_ne hba, upd_ne hba, upd_ne hb, upd_ne hba]
    rw [e1]
    have st : Stp M1 H1 M1 (upd H1 dx (.xd [(fld, v)])) := Stp.new hdx1
    exact S1.xc ⟨C, [(fld, d)]⟩ τ M1 _ _ σ _ h1 ⟨rfl, _, upd_same, S1.co.free hdx1, rfl, .cons (rv.stp st) .nil⟩ (S1.rs.stp st) (S1.co.new hdx1) st
/-! ### try .. except LentError as e -/
/-- is the error class C a T? (all error classes stand right beneath LentError, and that beneath ValueError) -/
def isE (C T : Str) : Bool := decide (T = C) || decide (T = "LentError")
structure ErrT (K : PySem.W.Frag) (Es Ts : List Str) : Prop where
  exm : ∀ C ∈ Es, PySem.W.exmOne K (.ref (ga K C)) (.ref (ga K "LentError")) = some true
  kit : ∀ C ∈ Es, ∀ T ∈ Ts, PySem.W.kitOne K (.ref (ga K C)) (.ref (ga K T)) = some (isE C T)
  kitV : ∀ C ∈ Es, PySem.W.kitOne K (.ref (ga K C)) (.type "ValueError") = some true
  cls : ∀ C ∈ Es, (PySem.W.clsIn K (ga K C)).isSome = true
  xf : ∀ C ∈ Es, XfC K (ga K C)
  cl : ∀ C ∈ Es, PySem.W.findIn K (.ref (ga K C)) "__class__" = some (some (.builtin "object.__class__"))
  top : ∀ C ∈ Es, PySem.W.mroIn K (ga K C) (.type "object") = some true
  sp : PySem.W.specialIn K (.builtin "object.__class__") "__get__" = some (some (.builtin "getset_descriptor.__get__"))
  tk : PySem.W.takesIn K (.builtin "object.__class__") = some true
def errTB (Es Ts : List Str) (K : PySem.W.Frag) : Bool :=
  Es.all (fun C => decide (PySem.W.exmOne K (.ref (ga K C)) (.ref (ga K "LentError")) = some true) && (Ts.all (fun T => decide (PySem.W.kitOne K (.ref (ga K C)) (.ref (ga K T)) = some (isE C T))) &&
    (decide (PySem.W.kitOne K (.ref (ga K C)) (.type "ValueError") = some true) && ((PySem.W.clsIn K (ga K C)).isSome && (xfB K (ga K C) && (He.eqO (PySem.W.findIn K (.ref (ga K C)) "__class__") (some (some (.builtin "object.__class__"))) &&
    decide (PySem.W.mroIn K (ga K C) (.type "object") = some true))))))) &&
  (decide (PySem.W.specialIn K (.builtin "object.__class__") "__get__" = some (some (.builtin "getset_descriptor.__get__"))) && decide (PySem.W.takesIn K (.builtin "object.__class__") = some true))
theorem errTB_ok {Es Ts : List Str} {K : PySem.W.Frag} (h : errTB Es Ts K = true) : ErrT K Es Ts := by
  obtain ⟨h1, h2⟩ := ba h
  obtain ⟨h3, h4⟩ := ba h2
  have hC := List.all_eq_true.mp h1
  refine ⟨fun C m => ?_, fun C m => ?_, fun C m => ?_, fun C m => ?_, fun C m => ?_, fun C m => ?_, fun C m => ?_, of_decide_eq_true h3, of_decide_eq_true h4⟩
  all_goals
    obtain ⟨a1, b1⟩ := ba (hC C m)
    obtain ⟨a2, b2⟩ := ba b1
    obtain ⟨a3, b3⟩ := ba b2
    obtain ⟨a4, b4⟩ := ba b3
    obtain ⟨a5, b5⟩ := ba b4
    obtain ⟨a6, a7⟩ := ba b5
  · exact of_decide_eq_true a1
  · exact fun T mT => of_decide_eq_true (List.all_eq_true.mp a2 T mT)
  · exact of_decide_eq_true a3
  · exact a4
  · exact xfB_ok a5
  · exact He.eqO_ok a6
  · exact of_decide_eq_true a7
/-! isinstance(e, ..) in the suite -/
def isED (C : Str) : D → Bool
  | .cl T => isE C T
  | .ty _ => true
  | _ => false
def okED (Ts : List Str) : D → Bool
  | .cl T => decide (T ∈ Ts)
  | .ty n => decide (n = "ValueError")
  | _ => false
/-- (a, dd, C): the exception that the suite holds -/
def gIsE (a dd : Addr) (C : Str) (Ts : List Str) : DCb := fun xs M Q => match xs with
  | [.exc a' dd' C' _ _, z] => a' = a ∧ dd' = dd ∧ C' = C ∧ (match z with
    | .tup cs => cs.all (okED Ts) = true ∧ Q (.bl (cs.any (isED C))) M
    | z => okED Ts z = true ∧ Q (.bl (isED C z)) M)
  | _ => False
def rIsEx (K : PySem.W.Frag) (a dd D : Addr) : List V → Hp → VK → Prop := fun xs H Q => ∃ gs, H dd = some (.xd gs) ∧
  ((∃ (tp : Addr) (cs : List V) (us : List Value) (b : Bool), xs = [.ref a, .ref tp] ∧ (H tp = some (.tup cs) ∨ WrT K tp cs) ∧ Paired ClsV cs us ∧ PySem.W.kitAny K (.ref D) us = some b ∧ Q (.bl b) H) ∨
   ∃ (c : V) (u : Value) (b : Bool), xs = [.ref a, c] ∧ ClsV c u ∧ PySem.W.kitOne K (.ref D) u = some b ∧ Q (.bl b) H)
theorem call_isEx {X : Cx} {a dd : Addr} {C : Str} {oe : Obj} {pn : List (Addr × Obj)} {Es Ts : List Str} (T : ErrT X.K Es Ts) (hC : C ∈ Es) (hz : Zc (.ref (ga X.K C)) (some dd) oe) (hf : ∃ vs, oe.data = .fields vs) :
    CallR (X.suite a ((a, oe) :: pn)) (.builtin "isinstance") (rIsEx X.K a dd (ga X.K C)) := by
  intro pins s σ H xs us Q I r h
  obtain ⟨gs, hdd, h⟩ := h
  obtain ⟨hget, _⟩ := I.pin (a, oe) (List.mem_append.mpr (.inl List.mem_cons_self))
  obtain ⟨vs, hv⟩ := hf
  have hx : ObjOk X.prog X.w H s.heap dd (.xd gs) := I.hok dd _ hdd
  obtain ⟨mA, hns, _⟩ := hx
  obtain ⟨od, ho, _⟩ := lookIn_ns hns
  have J : PySem.W.InstAt s.heap a oe (ga X.K C) (some od) := ⟨hget, hz.1, by unfold PySem.W.notCls; rw [hv] <;> rfl, by rw [hz.2]; exact ho⟩
  have Z := PySem.W.kitx_exc (K := X.K) (x := a) (C := ga X.K C) (ox := oe) (od := some od) (T.cls C hC) (T.xf C hC).ga (T.xf C hC).gg (T.xf C hC).exC (T.cl C hC) T.sp T.tk (T.top C hC)
  rcases h with ⟨tp, cs, ws, b, rfl, ht, hp, hk, q⟩ | ⟨c, u, b, rfl, hp, hk, q⟩
  · obtain ⟨u1, u2, rfl, r1, r2⟩ := vals2 r
    cases (show u1 = Value.ref a from r1)
    cases (show u2 = Value.ref tp from r2)
    rcases ht with ht | ⟨o, its, n, lk, h2, h3, _, rv⟩
    rotate_left
    · have e3 := ClsV.all hp rv
      subst e3
      obtain ⟨oc, odd, dt, sl⟩ := o
      simp only at h2 h3
      subst h2 h3
      exact PySem.W.kia_tup Z I.kIn J (by simpa using I.kIn _ _ lk) hk (fun z => nomatch z) fun tk => ⟨.bl b, H, I.kept (t' := tk) fun _ _ z => z, rfl, q⟩
    obtain ⟨_, its, rv, o, h1, h2, n, h3⟩ := (show ObjOk X.prog X.w H s.heap tp (.tup cs) from I.hok tp _ ht)
    have e3 := ClsV.all hp rv
    subst e3
    obtain ⟨oc, odd, dt, sl⟩ := o
    simp only at h2 h3
    subst h2 h3
    exact PySem.W.kia_tup Z I.kIn J h1 hk (fun z => nomatch z) fun tk => ⟨.bl b, H, I.kept (t' := tk) fun _ _ z => z, rfl, q⟩
  · obtain ⟨u1, u2, rfl, r1, r2⟩ := vals2 r
    cases (show u1 = Value.ref a from r1)
    have e2 := hp.eq r2
    subst e2
    exact PySem.W.kia_one Z I.kIn J hk (fun z => nomatch z) fun tk => ⟨.bl b, H, I.kept (t' := tk) fun _ _ z => z, rfl, q⟩
theorem rep_tupW {K : PySem.W.Frag} {M : Mu} {H : Hp} {ds : List D} {v : V} (r : Rep K M H (.tup ds) v) : ∃ a vs, v = .ref a ∧ ((H a = some (.tup vs) ∧ M a = none) ∨ WrT K a vs) ∧ Reps K M H ds vs := r
theorem cls_reps {K : PySem.W.Frag} {M : Mu} {H : Hp} {Ts : List Str} {C : Str} {Es : List Str} (T : ErrT K Es Ts) (hC : C ∈ Es) : ∀ {cs : List D} {vs : List V}, cs.all (okED Ts) = true → Reps K M H cs vs →
    ∃ us, Paired ClsV vs us ∧ PySem.W.kitAny K (.ref (ga K C)) us = some (cs.any (isED C))
  | [], _, _, r => by cases r.unnil; exact ⟨[], .nil, rfl⟩
  | c :: cs, _, h, r => by
    obtain ⟨v, vs, rfl, r1, r2⟩ := r.uncons
    obtain ⟨h1, h2⟩ := ba (show (okED Ts c && cs.all (okED Ts)) = true from h)
    obtain ⟨us, p, k⟩ := cls_reps T hC h2 r2
    cases c with
    | cl T' =>
      cases r1
      refine ⟨.ref (ga K T') :: us, .cons (.own _) p, ?_⟩
      unfold PySem.W.kitAny
      rw [T.kit C hC T' (of_decide_eq_true h1)]
      show _ = some (isE C T' || cs.any (isED C))
      cases isE C T' with
      | true => rfl
      | false => exact k
    | ty n =>
      cases r1
      have e : n = "ValueError" := of_decide_eq_true h1
      subst e
      refine ⟨.type "ValueError" :: us, .cons (.ty _) p, ?_⟩
      unfold PySem.W.kitAny
      rw [T.kitV C hC]
      rfl
    | _ => cases h1
theorem cb_isE {K : PySem.W.Frag} {a dd : Addr} {C : Str} {Es Ts : List Str} (T : ErrT K Es Ts) (hC : C ∈ Es) : CbD K (gIsE a dd C Ts) (rIsEx K a dd (ga K C)) := fun M H xs vs Q0 Q c r h q => by
  match xs, h with
  | [.exc a' dd' C' ns es, z], h =>
    obtain ⟨e1, e2, e3, h⟩ := h
    subst e1 e2 e3
    obtain ⟨v, us, rfl, r1, r2⟩ := r.uncons
    obtain ⟨u, us, rfl, r3, r4⟩ := r2.uncons
    cases r4.unnil
    obtain ⟨rfl, gs, g1, g2, g3, g4⟩ := (show v = .ref a' ∧ _ from r1)
    refine ⟨gs, g1, ?_⟩
    cases z with
    | tup cs =>
      obtain ⟨tp, ws, rfl, ht, rw⟩ := rep_tupW r3
      obtain ⟨us, p, k⟩ := cls_reps T hC h.1 rw
      exact .inl ⟨tp, ws, us, _, rfl, ht.elim (fun z => .inl z.1) .inr, p, k, q _ M _ H h.2 rfl c (Stp.refl M H)⟩
    | cl T' =>
      cases r3
      exact .inr ⟨_, _, _, rfl, .own _, T.kit C' hC T' (of_decide_eq_true h.1), q _ M _ H h.2 rfl c (Stp.refl M H)⟩
    | ty n =>
      cases r3
      have e : n = "ValueError" := of_decide_eq_true h.1
      subst e
      exact .inr ⟨_, _, _, rfl, .ty _, T.kitV C' hC, q _ M _ H h.2 rfl c (Stp.refl M H)⟩
    | _ => exact absurd h.1 Bool.false_ne_true
/-! e.f in the suite -/
def dXF (a dd : Addr) (C f : Str) (te : DTE) : DTE := fun τ M Q E => te τ M (fun z M1 => match z with
  | .exc a' dd' C' ns ds => a' = a ∧ dd' = dd ∧ C' = C ∧ (match (ns.zip ds).lookup f with
    | some y => Q y M1
    | none => False)
  | _ => False) E
theorem zip_fld {K : PySem.W.Frag} {M : Mu} {H : Hp} {f : Str} {y : D} : ∀ {ns : List Str} {ds : List D} {gs : List (Str × V)}, gs.map (·.1) = ns → Reps K M H ds (gs.map (·.2)) → (ns.zip ds).lookup f = some y → ∃ v, gs.lookup f = some v ∧ Rep K M H y v
  | [], ds, gs, _, _, e => by cases e
  | n :: ns, [], gs, _, _, e => by cases e
  | n :: ns, d :: ds, [], h, _, _ => by cases h
  | n :: ns, d :: ds, (g, v) :: gs, h, r, e => by
    obtain ⟨h1, h2⟩ := List.cons.inj h
    have h1 : g = n := h1
    subst h1
    obtain ⟨v', us, e1, r1, r2⟩ := r.uncons
    obtain ⟨e2, e3⟩ := List.cons.inj e1
    subst e2 e3
    rw [List.zip_cons_cons, List.lookup_cons] at e
    rw [List.lookup_cons]
    cases q : (f == g) with
    | true =>
      rw [q] at e
      cases e
      exact ⟨_, rfl, r1⟩
    | false =>
      rw [q] at e
      exact zip_fld h2 r2 e
theorem de_xf {X : Cx} {W : WX} {a dd : Addr} {C f : Str} {oe : Obj} {pn : List (Addr × Obj)} {Es Ts : List Str} {e : Expr} {te : DTE} {pos : Pos} (T : ErrT X.K Es Ts) (hC : C ∈ Es) (hno : PySem.W.findIn X.K (.ref (ga X.K C)) f = some none)
    (hz : Zc (.ref (ga X.K C)) (some dd) oe) (hf : ∃ vs, oe.data = .fields vs) (he : DE (X.suite a ((a, oe) :: pn)) W e te) (hb : attributeBase e f X.env (eval e X.env) = eval e X.env := by rfl) :
    DE (X.suite a ((a, oe) :: pn)) W (.Attribute e f pos) (dXF a dd C f te) :=
  PE.of (pe_xf (T.xf C hC) hno hz hf he hb) fun σ H Q ⟨τ, M, Q0, E0, S, h⟩ => S.sub h fun z M1 v H1 h1 r1 S1 s1 => by
    cases z with
    | exc a' dd' C' ns ds =>
      obtain ⟨e1, e2, e3, hh⟩ := h1
      subst e1 e2 e3
      obtain ⟨rfl, gs, g1, g2, g3, g4⟩ := (show v = .ref a' ∧ _ from r1)
      cases q : (ns.zip ds).lookup f with
      | none => rw [q] at hh; exact hh.elim
      | some y =>
        rw [q] at hh
        obtain ⟨u, h1, h2⟩ := zip_fld g3 g4 q
        exact ⟨rfl, rfl, dd', gs, u, rfl, g1, h1, S1.end_ hh h2⟩
    | _ => exact h1.elim
/-! the statement -/
def suE (D0 : DEnds) (i : Nat) : DEnds := ⟨fun τ2 M2 => D0.nx (τ2.set i none) M2, D0.rt, fun τ2 M2 => D0.bk (τ2.set i none) M2, fun τ2 M2 => D0.ct (τ2.set i none) M2, fun _ _ _ => False⟩
def caE (Es : List Str) (i : Nat) (ts : Addr → Addr → Str → DTS) (D0 : DEnds) (x : XD) (τ : DSt) (M : Mu) : Prop :=
  x.cls ∈ Es ∧ x.fs ≠ [] ∧ ∀ a dd, M a = none → ts a dd x.cls (suE D0 i) (τ.set i (some (.exc a dd x.cls (x.fs.map (·.1)) (x.fs.map (·.2))))) M
def dTryAs (Es : List Str) (i : Nat) (tb : DTS) (ts : Addr → Addr → Str → DTS) : DTS := fun D0 τ M => tb ⟨D0.nx, D0.rt, D0.bk, D0.ct, caE Es i ts D0⟩ τ M
theorem ds_tryas {X : Cx} {W : WX} {n : Str} {body suite : List Stmt} {b₀ : Stmt} {np pos pos' : Pos} {tb : DTS} {ts : Addr → Addr → Str → DTS} {Es Ts : List Str} (i : Nat) (T : ErrT X.K Es Ts) (G : Gd X W) (hm : X.mg "LentError" = some (.ref (ga X.K "LentError")))
    (hb : ∀ (W1 : WX) (pn : List (Addr × Obj)) (xe : Value → Shared → Prop), Gd (X.tr pn xe) W1 → DSs (X.tr pn xe) W1 body tb)
    (hsu : ∀ (a dd : Addr) (C : Str) (oe : Obj) (pn : List (Addr × Obj)), C ∈ Es → Zc (.ref (ga X.K C)) (some dd) oe → (∃ vs, oe.data = .fields vs) → DSs (X.suite a ((a, oe) :: pn)) (fun _ _ _ _ => False) (b₀ :: suite) (ts a dd C))
    (hs : X.stack = X.env :: X.outer := by rfl) (hf : X.env.frame = some X.env.locals := by rfl) (hi : X.N[i]? = some n := by rfl) (hln : X.env.kindOf n = some .local := by rfl) (hg : Gl X "LentError" := by rfl) :
    DS X W (.Try body [.ExceptHandler (some (.Name "LentError" np)) (some n) (b₀ :: suite) pos'] [] [] pos) (dTryAs Es i tb ts) := by
  refine PS.of (ps_try_as (Wout := fun _ _ _ _ => False) (c := .ref (ga X.K "LentError")) (tb := fun W1 => lifS X.K W1 tb)
    (ts := fun a cls d D σ H => ∃ C dd, C ∈ Es ∧ cls = .ref (ga X.K C) ∧ d = some dd ∧ lifS X.K (fun _ _ _ _ => False) (ts a dd C) D σ H) hs hf G.nd hi hln ⟨hg, by decide, .inl hm⟩ takes_none5
    (fun W1 pn xe tk hp => hb W1 pn xe ⟨G.calm, tk, G.hu, hp, G.nd⟩) (fun a oe cls d pn hz hf => ⟨fun pins s σ H D I h => ?_⟩)) fun D1 σ H ⟨τ, M, D0, S, h⟩ => ?_
  · obtain ⟨C, dd, hC, rfl, rfl, h⟩ := h
    exact (hsu a dd C oe pn hC hz hf).run pins s σ H D I h
  · refine ⟨τ, M, ⟨D0.nx, D0.rt, D0.bk, D0.ct, caE Es i ts D0⟩, ⟨S.rs, S.co, S.nx, S.rt, S.bk, S.ct, fun x τ' M' c d σ' H' h rx rs co st => ?_⟩, h⟩
    obtain ⟨hC, hne, h⟩ := (show caE Es i ts D0 x τ' M' from h)
    obtain ⟨rfl, rx⟩ := rx
    cases d with
    | none => exact absurd rx hne
    | some dd =>
      obtain ⟨gs, g1, g2, g3, g4⟩ := rx
      refine ⟨true, T.exm _ hC, fun _ a ha => ⟨x.cls, dd, hC, rfl, rfl, ?_⟩, fun z => by cases z⟩
      refine ⟨τ'.set i (some (.exc a dd x.cls (x.fs.map (·.1)) (x.fs.map (·.2)))), M', suE D0 i, ⟨rs.set (show Rep X.K M' H' (.exc a dd x.cls (x.fs.map (·.1)) (x.fs.map (·.2))) (.ref a) from ⟨rfl, gs, g1, g2, g3, g4⟩) i, co, ?_, ?_, ?_, ?_, fun _ _ _ _ _ _ _ z => z.elim⟩, h a dd (co.free ha)⟩
      · exact fun τ2 M2 σ2 H2 h2 r2 c2 s2 => S.nx _ M2 _ H2 h2 (r2.none i none) c2 (st.trans s2)
      · exact fun d2 M2 v2 H2 h2 r2 c2 s2 => S.rt d2 M2 v2 H2 h2 r2 c2 (st.trans s2)
      · exact fun τ2 M2 σ2 H2 h2 r2 c2 s2 => S.bk _ M2 _ H2 h2 (r2.none i none) c2 (st.trans s2)
      · exact fun τ2 M2 σ2 H2 h2 r2 c2 s2 => S.ct _ M2 _ H2 h2 (r2.none i none) c2 (st.trans s2)
end
end DL

namespace DL
open PySem L2 He
/-! ### rows -/
def onExc {K : List Str → List D → Prop} (a dd : Addr) (C : Str) (_ : Lk K) (z : D) : Prop := match z with
  | .exc a' dd' C' ns ds => a' = a ∧ dd' = dd ∧ C' = C ∧ K ns ds
  | _ => False
theorem onExc_e {K : List Str → List D → Prop} {a dd : Addr} {C : Str} {ns : List Str} {ds : List D} : onExc (K := K) a dd C ⟨⟩ (.exc a dd C ns ds) = K ns ds := by show (a = a ∧ dd = dd ∧ C = C ∧ K ns ds) = K ns ds; simp
section
variable {C f fld : Str} {te : DTE} {tb : DTS} {ts : Addr → Addr → Str → DTS} {τ : DSt} {M : Mu} {Q : DK} {E : DX} {D0 : DEnds} {i : Nat} {a dd : Addr} {Es Ts : List Str} {ns : List Str} {ds cs : List D} {d y : D}
theorem u_raise : dRaise C fld te D0 τ M = te τ M (fun d M1 => D0.xc ⟨C, [(fld, d)]⟩ τ M1) (D0.ex τ) := pq Iff.rfl
theorem u_tryas : dTryAs Es i tb ts D0 τ M = tb ⟨D0.nx, D0.rt, D0.bk, D0.ct, caE Es i ts D0⟩ τ M := pq Iff.rfl
theorem u_ca : caE Es i ts D0 ⟨C, [(fld, d)]⟩ τ M = (C ∈ Es ∧ ∀ a dd, M a = none → ts a dd C (suE D0 i) (τ.set i (some (.exc a dd C [fld] [d]))) M) := by
  show (C ∈ Es ∧ [(fld, d)] ≠ [] ∧ _) = _
  simp only [ne_eq, reduceCtorEq, not_false_eq_true, true_and]
  rfl
theorem su_mk {nx : DSt → Mu → Prop} {rt : DK} {bk ct : DSt → Mu → Prop} {xc : XD → DSt → Mu → Prop} : suE ⟨nx, rt, bk, ct, xc⟩ i = ⟨fun τ2 M2 => nx (τ2.set i none) M2, rt, fun τ2 M2 => bk (τ2.set i none) M2, fun τ2 M2 => ct (τ2.set i none) M2, fun _ _ _ => False⟩ := rfl
theorem isE_t : cbK (K := Q) ⟨⟩ (gIsE a dd C Ts) [.exc a dd C ns ds, .tup cs] M = (cs.all (okED Ts) = true ∧ Q (.bl (cs.any (isED C))) M) := by
  show (a = a ∧ dd = dd ∧ C = C ∧ _) = _
  simp
theorem isE_c {T' : Str} : cbK (K := Q) ⟨⟩ (gIsE a dd C Ts) [.exc a dd C ns ds, .cl T'] M = (T' ∈ Ts ∧ Q (.bl (isE C T')) M) := by
  show (a = a ∧ dd = dd ∧ C = C ∧ okED Ts (.cl T') = true ∧ Q (.bl (isED C (.cl T'))) M) = _
  show (a = a ∧ dd = dd ∧ C = C ∧ decide (T' ∈ Ts) = true ∧ Q (.bl (isE C T')) M) = _
  simp
theorem isE_v : cbK (K := Q) ⟨⟩ (gIsE a dd C Ts) [.exc a dd C ns ds, .ty "ValueError"] M = Q (.bl true) M := by
  show (a = a ∧ dd = dd ∧ C = C ∧ okED Ts (.ty "ValueError") = true ∧ Q (.bl true) M) = _
  have e : okED Ts (.ty "ValueError") = true := rfl
  simp [e]
theorem u_xf : dXF a dd C f te τ M Q E = te τ M (fun z M1 => onExc (K := fun ns ds => onSome (K := fun y => Q y M1) ⟨⟩ ((ns.zip ds).lookup f)) a dd C ⟨⟩ z) E := by
  unfold dXF
  congr 1
  funext z M1
  cases z with
  | exc a' dd' C' ns ds =>
    show (a' = a ∧ dd' = dd ∧ C' = C ∧ (match (ns.zip ds).lookup f with
      | some y => Q y M1
      | none => False)) = (a' = a ∧ dd' = dd ∧ C' = C ∧ onSome (K := fun y => Q y M1) ⟨⟩ ((ns.zip ds).lookup f))
    cases (ns.zip ds).lookup f <;> rfl
  | _ => rfl
theorem zip_1 : (([f] : List Str).zip [y]).lookup f = some y := by rw [List.zip_cons_cons, List.lookup_cons, beq_self_eq_true]
end
/-! ### the head: an error class's own __init__ -/
def exCB (C : Str) (K : PySem.W.Frag) : Bool := match K.lookup (ga K C) with
  | some ⟨.type "type", _, .cls cd, sl⟩ => (match cd.mro, sl.toList with
    | .ref C' :: bm, [_, _, _, _, some (.builtin n), _] => decide (C' = ga K C) && (decide (n = "ValueError.__new__") && (!cd.hasDel && (cd.hasDict && PySem.HandSPX.refsVE bm)))
    | _, _ => false)
  | _ => false
theorem exCB_ok {C : Str} {K : PySem.W.Frag} (h : exCB C K = true) : ∃ nm q N bs bm sn sub ab col dd k0 k1 k2 k3 k5, K.lookup (ga K C) = some (excClassObj nm q (ga K C) N bs bm true sn sub ab col dd k0 k1 k2 k3 k5 "ValueError.__new__") ∧ PySem.HandSPX.refsVE bm = true := by
  unfold exCB at h
  split at h
  · rename_i dd cd sl ho
    split at h
    · rename_i C' bm k0 k1 k2 k3 n k5 hm hs
      obtain ⟨e1, h⟩ := ba h
      obtain ⟨e2, h⟩ := ba h
      obtain ⟨e3, h⟩ := ba h
      obtain ⟨e4, e5⟩ := ba h
      have e1 := of_decide_eq_true e1
      have e2 := of_decide_eq_true e2
      obtain ⟨nm, bs, mro, ns, qn, hd, sn, sub, ab, col, del⟩ := cd
      dsimp only at hm e3 e4
      have e3 : del = false := by simpa using e3
      subst hm e1 e2 e3 e4
      have hsl : sl = #[k0, k1, k2, k3, some (.builtin "ValueError.__new__"), k5] := by
        obtain ⟨l⟩ := sl
        simp only at hs
        rw [hs]
      subst hsl
      exact ⟨nm, qn, ns, bs, bm, sn, sub, ab, col, dd, k0, k1, k2, k3, k5, ho, e5⟩
    · cases h
  · cases h
def errCB (C fld : Str) (K : PySem.W.Frag) : Bool :=
  exCB C K && (eqO (PySem.W.findIn K (.ref (ga K C)) "__setattr__") (some (some (.builtin "object.__setattr__"))) && (decide (PySem.W.subIn K (.ref (ga K C)) (.type "BaseException") = some true) && (decide (PySem.W.typeIn K (.ref (ga K C)) = some (.type "type")) &&
  (PySem.W.keepIn K (.ref (ga K C)) && (eqO (PySem.W.ks_superIn K (ga K C) (ga K C) "__init__") (some (some (.builtin "ValueError.__init__"))) && (decide (PySem.W.subIn K (.ref (ga K C)) (.type "ValueError") = some true) &&
  (decide (PySem.W.mroIn K (ga K C) (.ref (ga K C)) = some true) && (eqO (PySem.W.nsIn K cStatics "thirdparty.any") (some none) && (eqO (PySem.W.findIn K (.ref (ga K C)) fld) (some none) &&
  (eqO (PySem.W.findIn K (.ref (ga K C)) "__init__") (some (some (.ref (ma K (ga K C) "__init__")))) && decide (PySem.W.typeIn K (.ref (ma K (ga K C) "__init__")) = some (.type "function"))))))))))))
theorem errCB_ok {C fld : Str} {K : PySem.W.Frag} (h : errCB C fld K = true) : ErrC K (ga K C) ∧ PySem.W.findIn K (.ref (ga K C)) fld = some none ∧ PySem.W.findIn K (.ref (ga K C)) "__init__" = some (some (.ref (ma K (ga K C) "__init__"))) ∧ PySem.W.typeIn K (.ref (ma K (ga K C) "__init__")) = some (.type "function") := by
  obtain ⟨h1, h⟩ := ba h
  obtain ⟨h2, h⟩ := ba h
  obtain ⟨h3, h⟩ := ba h
  obtain ⟨h4, h⟩ := ba h
  obtain ⟨h5, h⟩ := ba h
  obtain ⟨h6, h⟩ := ba h
  obtain ⟨h7, h⟩ := ba h
  obtain ⟨h8, h⟩ := ba h
  obtain ⟨h9, h⟩ := ba h
  obtain ⟨h10, h⟩ := ba h
  obtain ⟨h11, h12⟩ := ba h
  exact ⟨⟨⟨exCB_ok h1, eqO_ok h2, of_decide_eq_true h3, of_decide_eq_true h4, h5⟩, eqO_ok h6, of_decide_eq_true h7, of_decide_eq_true h8, eqO_ok h9⟩, eqO_ok h10, eqO_ok h11, of_decide_eq_true h12⟩
/-- the def of an error's __init__ -/
structure DefE where
  C : Str
  qual : Str
  params : Arguments
  body : List Stmt
  scope : Scope
  file : Str
def fnE (K : PySem.W.Frag) (a : Addr) : He5.FnW := match K.lookup a with
  | some ⟨_, _, .func fd, _⟩ => some (fd.name, fd.qualname, fd.params, fd.body, fd.scope, fd.globals, fd.closure.map fun q => (q.1, 0), fd.builtins)
  | _ => none
def DefE.val (d : DefE) : He5.FnW := some ("__init__", d.qual, d.params, .stmts d.body, d.scope, mainGlobals, [("__class__", 0)], builtinsNs)
def DefE.ok (K : PySem.W.Frag) (d : DefE) : Bool := match K.lookup (ma K (ga K d.C) "__init__") with
  | some ⟨_, _, .func fd, _⟩ => (match fd.closure, fd.code, fd.defaults with
    | [(_, cc)], .ref cda, .none => PySem.W.codeIn K (.ref cda) d.qual && ((match K.lookup cc with
      | some ⟨_, _, .cell (some (.ref D)), _⟩ => decide (D = ga K d.C)
      | _ => false) && (match K.lookup cda with
      | some ⟨_, _, .fields vs, _⟩ => (match (vs[2]? : Option Value) with
        | some (.str f _) => decide (f = d.file)
        | _ => false)
      | _ => false))
    | _, _, _ => false)
  | _ => false
theorem DefE.errD {K : PySem.W.Frag} {d : DefE} (e : fnE K (ma K (ga K d.C) "__init__") = d.val) (c : d.ok K = true) : ∃ cc cda fd, ErrD K "__init__" d.qual d.params d.body d.scope (ga K d.C) (ma K (ga K d.C) "__init__") cc cda d.file fd := by
  unfold fnE at e
  unfold DefE.ok at c
  cases q : K.lookup (ma K (ga K d.C) "__init__") with
  | none =>
    rw [q] at c
    cases c
  | some o =>
    obtain ⟨oc, od, dt, osl⟩ := o
    rw [q] at c e
    cases dt with
    | func fd =>
      obtain ⟨n1, n2, n3, n4, n5, n6, n7, n8, n9, n10, n11, n12, n13, n14, n15⟩ := fd
      have e2 : (some (n1, n2, n3, n4, n5, n6, n7.map fun q => (q.1, 0), n15) : He5.FnW) = some (("__init__" : Str), d.qual, d.params, FuncBody.stmts d.body, d.scope, mainGlobals, [(("__class__" : Str), 0)], builtinsNs) := e
      simp only [Option.some.injEq, Prod.mk.injEq] at e2
      obtain ⟨h1, h2, h3, h4, h5, h6, h7, h8⟩ := e2
      dsimp only at c
      split at c
      · rename_i nm cc cda
        obtain ⟨c1, c⟩ := ba c
        obtain ⟨c2, c3⟩ := ba c
        subst h1 h2 h3 h4 h5 h6 h8
        have h9 : nm = "__class__" := by
          have := List.cons.inj h7
          exact congrArg Prod.fst this.1
        subst h9
        refine ⟨cc, cda, _, ⟨oc, od, n9, n10, n11, n12, n14, osl, rfl, q⟩, c1, ?_, ?_⟩
        · split at c2
          · rename_i cl cld D csl ho
            have e := of_decide_eq_true c2
            subst e
            exact ⟨cl, cld, csl, ho⟩
          · cases c2
        · split at c3
          · rename_i ccl cdd vs ccs ho
            split at c3
            · rename_i f tf hv
              have e := of_decide_eq_true c3
              subst e
              exact ⟨ccl, cdd, vs, ccs, tf, ho, hv⟩
            · cases c3
          · cases c3
      · cases c
    | _ => cases c
abbrev AlE : Type := AlZ × (Bool × List He5.FnW)
def obsE (fa : List Fa) (fn : List DefD) (gb : List (PySem.W.Frag → Bool)) (ts : List Tab) (fx : List He5.DefA) (fe : List DefE) (K : PySem.W.Frag) : AlE := (obsZ fa fn gb ts fx K, fe.all fun d => d.ok K, fe.map fun d => fnE K (ma K (ga K d.C) "__init__"))
def valE (fn : List DefD) (ts : List Tab) (fx : List He5.DefA) (fe : List DefE) (w : World) : AlE := (valZ fn ts fx w, true, fe.map DefE.val)
def SaysE (fa : List Fa) (fn : List DefD) (gb : List (PySem.W.Frag → Bool)) (ts : List Tab) (fx : List He5.DefA) (fe : List DefE) (w : World) (K : PySem.W.Frag) : Prop := obsE fa fn gb ts fx fe K = valE fn ts fx fe w
def obsEG (n : Nat) (fa : List Fa) (fn : List DefD) (gb : List (PySem.W.Frag → Bool)) (ts : List Tab) (fx : List He5.DefA) (fe : List DefE) (g : Addr → Option Obj) : AlE := obsE fa fn gb ts fx fe (frG g (He5.asA g n))
def hookE (n : Nat) (fa : List Fa) (fn : List DefD) (gb : List (PySem.W.Frag → Bool)) (ts : List Tab) (fx : List He5.DefA) (fe : List DefE) : PySem.W.Hook where
  α := AlE
  obs := fun s => obsEG n fa fn gb ts fx fe s.heap.get?
  val := fun w => valE fn ts fx fe w
  says := fun w h => ∃ K : PySem.W.Frag, K.In h ∧ SaysE fa fn gb ts fx fe w K
  of := fun _ _ e => ⟨_, frG_in, e⟩
  keeps := fun _ _ _ ⟨K, hK, c⟩ k => ⟨K, hK.keeps k, c⟩
theorem obsEG_eq {n : Nat} {fa : List Fa} {fn : List DefD} {gb : List (PySem.W.Frag → Bool)} {ts : List Tab} {fx : List He5.DefA} {fe : List DefE} {g : Addr → Option Obj} {s : Shared} (h : ∀ a, g a = s.heap.get? a) : obsEG n fa fn gb ts fx fe g = (hookE n fa fn gb ts fx fe).obs s := by
  rw [funext h] <;> rfl
section
variable {fa : List Fa} {fn : List DefD} {gb : List (PySem.W.Frag → Bool)} {ts : List Tab} {fx : List He5.DefA} {fe : List DefE} {w : World} {K : PySem.W.Frag}
theorem SaysE.z (c : SaysE fa fn gb ts fx fe w K) : SaysZ fa fn gb ts fx w K := congrArg (fun z : AlE => z.1) c
theorem SaysE.err_ (c : SaysE fa fn gb ts fx fe w K) (i : Nat) {d : DefE} (h : fe[i]? = some d := by rfl) : ∃ cc cda fd, ErrD K "__init__" d.qual d.params d.body d.scope (ga K d.C) (ma K (ga K d.C) "__init__") cc cda d.file fd := by
  have c2 : (fe.all fun d => d.ok K) = true := congrArg (fun z : AlE => z.2.1) c
  have e : fe.map (fun d => fnE K (ma K (ga K d.C) "__init__")) = fe.map DefE.val := congrArg (fun z : AlE => z.2.2) c
  have e2 : (fe.map fun d => fnE K (ma K (ga K d.C) "__init__"))[i]? = (fe.map DefE.val)[i]? := by rw [e]
  rw [List.getElem?_map, List.getElem?_map, h] at e2
  exact DefE.errD (Option.some.inj e2) (List.all_eq_true.mp c2 d (List.mem_of_getElem? h))
end
theorem fnE_of {P : Program} {w : World} {K : PySem.W.Frag} {mg : Str → Option Value} {base : Heap} {k : Nat} {x qual : Str} {params : Arguments} {body : List Stmt} {scope : Scope} {C fld : Str} {cc cda : Addr} {file : Str} {fd : FuncData} {ps : List Str}
    (D : ErrD K x qual params body scope (ga K C) (ma K (ga K C) "__init__") cc cda file fd) (F : FnOk P w K mg base (L2.CX P w) k (ma K (ga K C) "__init__") fd ps (spErr (ga K C) fld)) (c : errCB C fld K = true) (g : mg C = some (.ref (ga K C)))
    (hb : ∀ (kV doc pm : Value) (an : Option Addr) (ct : Value) (us : List Value), us.length = ps.length → bindArgs (PySem.W.fnX x qual params body scope [("__class__", cc)] .none kV doc pm an (.ref cda) ct) ⟨us, []⟩ = pure (ps.zip us)) : FnE P w K mg base k C fld := by
  obtain ⟨c1, c2, c3, c4⟩ := errCB_ok c
  obtain ⟨oc, od, kV, doc, pm, an, ct, osl, rfl, lk⟩ := D.ex
  exact ⟨⟨_, _, ps, F, c3, c4, Binds.all (hb kV doc pm an ct)⟩, c1.T, g⟩
end DL

namespace DL
open PySem L2 He
/-! ### tuple(x), divmod, str.upper -/
def gTuple : DCb := fun xs M Q => match xs with
  | [.lst ds] => Q (.tup ds) M
  | [.tup ds] => Q (.tup ds) M
  | [.ref a] => (match M a with
    | some (.lst ds) => Q (.tup ds) M
    | _ => False)
  | _ => False
def gDivmod : DCb := fun xs M Q => match xs with
  | [.int i, .int j] => CDiv i j ∧ Q (.tup [.int (i / j), .int (i % j)]) M
  | _ => False
def gUpper : DMt := fun x xs M Q => match x, xs with
  | .str t, [] => t.length ≤ 5592405 ∧ Q (.str (T (PySem.Txt.upper (sx t)))) M
  | _, _ => False
/-- t.index(y), t a tuple of texts -/
def gIndexT : DMt := fun x xs M Q => match x, xs with
  | .tup ds, [.str y] => ∃ (ts : List Tx) (j : Nat), ds = ts.map D.str ∧ ts[j]? = some y ∧ (∀ m, m < j → ts[m]? ≠ some y) ∧ Q (.int (j : Nat)) M
  | _, _ => False
section
variable {K : PySem.W.Frag}
theorem md_indexT : MtD K gIndexT (fun x xs H Q => ∃ p, ∃ ys : List Str, ∃ z j, x = .ref p ∧ xs = [.str z] ∧ SqT K H p (ys.map V.str) ∧ ys[j]? = some z ∧ (∀ m, m < j → ys[m]? ≠ some z) ∧ Q (.int (j : Nat)) H) := fun M H x v xs vs Q0 Q c rx r h q => by
  match x, xs, h with
  | .tup ds, [.str y], h =>
    obtain ⟨ts, j, rfl, h1, h2, h3⟩ := h
    obtain ⟨v2, u, rfl, r1, r2⟩ := r.uncons
    cases r2.unnil; cases r1
    obtain ⟨a, ws, rfl, ha, ra⟩ := rep_of_tup rx
    have e := ra.strs
    subst e
    refine ⟨a, ts.map sx, sx y, j, rfl, rfl, sqT_of ha, by rw [List.getElem?_map, h1]; rfl, fun m hm z => ?_, q _ M _ H h3 rfl c (Stp.refl M H)⟩
    rw [List.getElem?_map] at z
    cases e : ts[m]? with
    | none => rw [e] at z; cases z
    | some t =>
      rw [e] at z
      exact h2 m hm (by rw [e, sx_inj (Option.some.inj z)])
theorem cb_tuple : CbD K gTuple (fun xs H Q => ∃ p ys, xs = [.ref p] ∧ ((SqL K H p ys ∧ ∀ l, H l = none → Q (.ref l) (upd H l (.tup ys))) ∨ (SqT K H p ys ∧ Q (.ref p) H))) := fun M H xs vs Q0 Q c r h q => by
  have new : ∀ {ds : List D} {ws : List V}, Reps K M H ds ws → Q0 (.tup ds) M → ∀ l, H l = none → Q (.ref l) (upd H l (.tup ws)) := fun {ds ws} ra h l hl => by
    have st : Stp M H M (upd H l (.tup ws)) := Stp.new hl
    exact q _ M _ _ h (rep_tup upd_same (c.free hl) (ra.stp st)) (c.new hl) st
  match xs, h with
  | [.lst ds], h =>
    obtain ⟨v, u, rfl, r1, r2⟩ := r.uncons
    cases r2.unnil
    obtain ⟨a, ws, rfl, ha, ma, ra⟩ := rep_of_lst r1
    exact ⟨a, ws, rfl, .inl ⟨.inl (.inl ha), new ra h⟩⟩
  | [.tup ds], h =>
    obtain ⟨v, u, rfl, r1, r2⟩ := r.uncons
    cases r2.unnil
    obtain ⟨a, ws, rfl, ha, ra⟩ := rep_of_tup r1
    exact ⟨a, ws, rfl, .inr ⟨sqT_of ha, q _ M _ H h r1 c (Stp.refl M H)⟩⟩
  | [.ref a], h =>
    obtain ⟨v, u, rfl, r1, r2⟩ := r.uncons
    cases r2.unnil; cases r1
    have h2 : (match M a with
      | some (.lst ds) => Q0 (.tup ds) M
      | _ => False) := h
    cases e : M a with
    | none => rw [e] at h2; exact h2.elim
    | some mo =>
      rw [e] at h2
      cases mo with
      | lst ds =>
        obtain ⟨ws, ha, ra⟩ := mu_lst c e
        exact ⟨a, ws, rfl, .inl ⟨.inl (.inl ha), new ra h2⟩⟩
      | _ => exact h2.elim
theorem cb_divmod : CbD K gDivmod (fun xs H Q => ∃ i j, xs = [.int i, .int j] ∧ CDiv i j ∧ ∀ p, H p = none → Q (.ref p) (upd H p (.tup [.int (i / j), .int (i % j)]))) := fun M H xs vs Q0 Q c r h q => by
  match xs, h with
  | [.int i, .int j], h =>
    obtain ⟨v, u, rfl, r1, r2⟩ := r.uncons
    obtain ⟨v2, u2, rfl, r3, r4⟩ := r2.uncons
    cases r4.unnil; cases r1; cases r3
    refine ⟨i, j, rfl, h.1, fun p hp => ?_⟩
    have st : Stp M H M (upd H p (.tup [.int (i / j), .int (i % j)])) := Stp.new hp
    exact q _ M _ _ h.2 (rep_tup upd_same (c.free hp) (.cons rfl (.cons rfl .nil))) (c.new hp) st
theorem md_upper : MtD K gUpper (fun x xs H Q => ∃ a, x = .str a ∧ xs = [] ∧ a.length ≤ 5592405 ∧ Q (.str (PySem.Txt.upper a)) H) := fun M H x v xs vs Q0 Q c rx r h q => by
  match x, xs, h with
  | .str t, [], h =>
    cases rx
    cases r.unnil
    refine ⟨sx t, rfl, rfl, by rw [sx_len]; exact h.1, ?_⟩
    exact q _ M _ H h.2 (show V.str _ = V.str (sx (T _)) by rw [sx_T]) c (Stp.refl M H)
end
theorem upper_len (t : Tx) : (T (PySem.Txt.upper (sx t))).length ≤ 3 * t.length := by
  have := PyProof.Rows.len_upper (sx t)
  rw [sx_len] at this
  have e : (T (PySem.Txt.upper (sx t))).length = (PySem.Txt.upper (sx t)).length := by rw [← sx_len, sx_T]
  rw [e]
  exact this
/-- T.index(e), T a tuple of texts of the module -/
def dIdxC (ts : List Tx) (te : DTE) : DTE := fun τ M Q E => te τ M (fun y M1 => match y with
  | .str x => ∃ j : Nat, ts[j]? = some x ∧ (∀ m, m < j → ts[m]? ≠ some x) ∧ Q (.int (j : Nat)) M1
  | _ => False) E
def noDictB (x : Str) (K : PySem.W.Frag) : Bool := match K.lookup (ga K x) with
  | some o => o.dict.isNone
  | _ => false
theorem noDictB_ok {x : Str} {K : PySem.W.Frag} (h : noDictB x K = true) : ∃ o, K.lookup (ga K x) = some o ∧ o.dict = none := by
  unfold noDictB at h
  split at h
  · rename_i o ho
    exact ⟨o, ho, Option.isNone_iff_eq_none.mp h⟩
  · cases h
theorem de_idxC {X : Cx} {W : WX} {x : Str} {e : Expr} {te : DTE} {p cpos apos : Pos} {zs : List Str} (hm : X.mg x = some (.ref (ga X.K x))) (h : ∃ f, X.mg x = some (.ref f) ∧ WrT X.K f (zs.map V.str)) (hd : ∃ o, X.K.lookup (ga X.K x) = some o ∧ o.dict = none) (he : DE X W e te)
    (hg : Gl X x := by rfl) (hdb : (x == ("__debug__" : Str)) = false := by decide)
    (hbase : attributeBase (.Name x p) "index" X.env (eval (.Name x p) X.env) = eval (.Name x p) X.env := by rfl)
    (hfew : ((backTo cpos (starEach [e] X.env)).all (fun x => !x.1) && (backToKw cpos (keywordEach [] X.env)).all (fun x => x.1.isSome)
      && decide (([e] : List Expr).length + ([] : List Keyword).length + (if ([] : List Keyword).isEmpty then 0 else 1) < 30)) = true := by rfl)
    (hline : (apos.endLine == cpos.line) = true := by rfl) (hs : starEach [e] X.env = (false, eval e X.env) :: starEach [] X.env := by rfl) (hplain : (backTo cpos (starEach [] X.env)).any (·.1) = false := by rfl) :
    DE X W (.Call (.Attribute (.Name x p) "index" apos) [e] [] cpos) (dIdxC (zs.map T) te) := by
  obtain ⟨f, h1, h2⟩ := h
  have ef : f = ga X.K x := by rw [hm] at h1; cases h1; rfl
  subst ef
  obtain ⟨o, ho, hn⟩ := hd
  refine PE.of (pe_bm PySem.F.plainAttrs_tuple PySem.F.slot_tuple_index PySem.F.type_tuple_index mt_tup_index (pe_glob (v := .ref (ga X.K x)) hg hm rfl hdb) (da_cons he da_nil (hs := hs)) hbase hfew hline hs hplain) fun σ H Q ⟨τ, M, Q0, E0, S, h⟩ => ?_
  refine ⟨?_, S.sub (R1 := RA X.K) (t := daCons te daNil) (G := fun ds M1 => match ds with
    | [y] => (match y with
      | .str x => ∃ j : Nat, (zs.map T)[j]? = some x ∧ (∀ m, m < j → (zs.map T)[m]? ≠ some x) ∧ Q0 (.int (j : Nat)) M1
      | _ => False)
    | _ => False) ?_ fun ds M1 vs H1 h1 r1 S1 s1 => ?_⟩
  · obtain ⟨o2, its, n, l2, c2, _⟩ := h2
    rw [ho] at l2
    cases l2
    exact .inr (.inl ⟨rfl, o, ho, c2, hn⟩)
  · exact h
  · cases ds with
    | nil => exact h1.elim
    | cons y r =>
      cases r with
      | cons y2 r => exact h1.elim
      | nil =>
        cases y with
        | str y =>
          obtain ⟨j, h3, h4, h5⟩ := h1
          obtain ⟨v, us, rfl, rv, rn⟩ := r1.uncons
          cases rn.unnil
          cases rv
          have tt : ∀ m, (zs.map T)[m]? = zs[m]?.map T := fun m => List.getElem?_map
          refine ⟨ga X.K x, zs, sx y, j, rfl, rfl, sqT_of (M := M1) (.inr h2), ?_, fun m hm z => ?_, S1.end_ h5 rfl⟩
          · rw [tt] at h3
            cases e : zs[j]? with
            | none => rw [e] at h3; cases h3
            | some z =>
              rw [e] at h3
              have : T z = y := Option.some.inj h3
              rw [← this, sx_T]
          · refine h4 m hm ?_
            rw [tt, z]
            show some (T (sx y)) = _
            rw [T_sx]
        | _ => exact h1.elim
section
variable {M : Mu} {Q : DK} {ds : List D}
theorem u_idxC {ts : List Tx} {te : DTE} {τ : DSt} {E : DX} : dIdxC ts te τ M Q E = te τ M (fun y M1 => onStr (K := fun x => ∃ j : Nat, ts[j]? = some x ∧ (∀ m, m < j → ts[m]? ≠ some x) ∧ Q (.int (j : Nat)) M1) ⟨⟩ y) E := by
  unfold dIdxC
  congr 1
theorem tuple_l : cbK (K := Q) ⟨⟩ gTuple [.lst ds] M = Q (.tup ds) M := pq Iff.rfl
theorem tuple_t : cbK (K := Q) ⟨⟩ gTuple [.tup ds] M = Q (.tup ds) M := pq Iff.rfl
theorem divmod_i {i j : Int} : cbK (K := Q) ⟨⟩ gDivmod [.int i, .int j] M = (CDiv i j ∧ Q (.tup [.int (i / j), .int (i % j)]) M) := pq Iff.rfl
theorem indexT_t {y : Tx} : mtK (K := Q) ⟨⟩ gIndexT (.tup ds) [.str y] M = (∃ (ts : List Tx) (j : Nat), ds = ts.map D.str ∧ ts[j]? = some y ∧ (∀ m, m < j → ts[m]? ≠ some y) ∧ Q (.int (j : Nat)) M) := pq Iff.rfl
theorem upper_s {t : Tx} : mtK (K := Q) ⟨⟩ gUpper (.str t) [] M = (t.length ≤ 5592405 ∧ Q (.str (T (PySem.Txt.upper (sx t)))) M) := pq Iff.rfl
end
end DL

namespace DL
open PySem L2
/-! ### is True, is not True -/
def gIsB (nb : Bool → Bool) : DOp := fun x y M Q => match x, y with
  | .bl a, .bl b => Q (.bl (nb (a == b))) M
  | _, _ => False
theorem od_isB {K : PySem.W.Frag} : OpD K (gIsB id) (fun x y H Q => ∃ a b, x = .bl a ∧ y = .bl b ∧ Q (.bl (decide (a = b))) H) := fun M H x y v u Q0 Q c rx ry h q => by
  cases x with
  | bl a => cases y with
    | bl b =>
      cases rx; cases ry
      refine ⟨a, b, rfl, rfl, ?_⟩
      rw [show decide (a = b) = id (a == b) by cases a <;> cases b <;> rfl]
      exact q _ M _ H h rfl c (Stp.refl M H)
    | _ => exact h.elim
  | _ => exact h.elim
theorem od_notB {K : PySem.W.Frag} : OpD K (gIsB not) (fun x y H Q => ∃ a b, x = .bl a ∧ y = .bl b ∧ Q (.bl (!decide (a = b))) H) := fun M H x y v u Q0 Q c rx ry h q => by
  cases x with
  | bl a => cases y with
    | bl b =>
      cases rx; cases ry
      refine ⟨a, b, rfl, rfl, ?_⟩
      rw [show (!decide (a = b)) = not (a == b) by cases a <;> cases b <;> rfl]
      exact q _ M _ H h rfl c (Stp.refl M H)
    | _ => exact h.elim
  | _ => exact h.elim
theorem isB_t {nb : Bool → Bool} {a : Bool} {M : Mu} {Q : DK} : opK (K := Q) ⟨⟩ (gIsB nb) (.bl a) (.bl true) M = Q (.bl (nb a)) M := pq (by show Q (.bl (nb (a == true))) M ↔ _; rw [show (a == true) = a by cases a <;> rfl])
theorem isB_f {nb : Bool → Bool} {a : Bool} {M : Mu} {Q : DK} : opK (K := Q) ⟨⟩ (gIsB nb) (.bl a) (.bl false) M = Q (.bl (nb !a)) M := pq (by show Q (.bl (nb (a == false))) M ↔ _; rw [show (a == false) = !a by cases a <;> rfl])
end DL

namespace DL
open PySem PySem.W L2 He
/-- what the head's run tells, told in three parts: the kernel needs less room for each -/
theorem run_of {r : PySem.W.OpenRow} {q : Program} {H : PySem.W.Hook} {ob : PySem.W.SharedT → H.α} {M : Nat} {loose : List PySem.Str} {w : World}
    (h1 : ∀ os : OsState, (HandSHeadRun.endF (HandSHeadRun.stepQ (HandSHeadRun.denQ HandSHeadRun.tabQ) r.prog w) M r.prog w os).map (fun s => HandSHeadRun.looksF r.prog (PySem.W.boot_heap w.params) s.abs) = some true)
    (h2 : ∀ os : OsState, (HandSHeadRun.endF (HandSHeadRun.stepQ (HandSHeadRun.denQ HandSHeadRun.tabQ) r.prog w) M r.prog w os).map (fun s => HandSHeadRun.seenQ q loose (importedModules r.prog.main.body) (fun s => PySem.W.xlAt q [] s && PySem.W.recOk r.records s) s.abs) = some (PySem.W.openGood q loose))
    (h3 : ∀ os : OsState, (HandSHeadRun.endF (HandSHeadRun.stepQ (HandSHeadRun.denQ HandSHeadRun.tabQ) r.prog w) M r.prog w os).map ob = some (H.val w)) : HandSHeadRun.RunEq r q H ob M loose w := by
  intro os
  have h1 := h1 os
  have h2 := h2 os
  have h3 := h3 os
  generalize HandSHeadRun.endF (HandSHeadRun.stepQ (HandSHeadRun.denQ HandSHeadRun.tabQ) r.prog w) M r.prog w os = e at h1 h2 h3 ⊢
  cases e with
  | none => cases h1
  | some s =>
    simp only [Option.map_some, Option.some.injEq] at h1 h2 h3 ⊢
    rw [h1, h2, h3]
/-! what the names reach, each address looked at once -/
def memN (a : Nat) : List Nat → Bool
  | [] => false
  | b :: r => match Nat.beq a b with
    | true => true
    | false => memN a r
def addNew : List Addr → List Addr → List Addr → List Addr × List Addr
  | [], seen, nw => (seen, nw)
  | a :: r, seen, nw => match memN a seen with
    | true => addNew r seen nw
    | false => addNew r (a :: seen) (a :: nw)
def refsG (g : Addr → Option Obj) : List Addr → List Addr
  | [] => []
  | a :: r => match g a with
    | some o => He.refsD o ++ refsG g r
    | none => refsG g r
def asF (g : Addr → Option Obj) : Nat → List Addr → List Addr → List Addr
  | 0, seen, _ => seen
  | n + 1, seen, fr => match addNew (refsG g fr) seen [] with
    | (seen, nw) => asF g n seen nw
def asQ (g : Addr → Option Obj) (n : Nat) : List Addr := mainGlobals :: cStatics :: asF g n [mainGlobals] [mainGlobals]
def obsEQ (n : Nat) (fa : List He.Fa) (fn : List He.DefD) (gb : List (PySem.W.Frag → Bool)) (ts : List He.Tab) (fx : List He5.DefA) (fe : List DefE) (g : Addr → Option Obj) : AlE := obsE fa fn gb ts fx fe (He.frG g (asQ g n))
def hookQ (n : Nat) (fa : List He.Fa) (fn : List He.DefD) (gb : List (PySem.W.Frag → Bool)) (ts : List He.Tab) (fx : List He5.DefA) (fe : List DefE) : PySem.W.Hook where
  α := AlE
  obs := fun s => obsEQ n fa fn gb ts fx fe s.heap.get?
  val := fun w => valE fn ts fx fe w
  says := fun w h => ∃ K : PySem.W.Frag, K.In h ∧ SaysE fa fn gb ts fx fe w K
  of := fun _ _ e => ⟨_, He.frG_in, e⟩
  keeps := fun _ _ _ ⟨K, hK, c⟩ k => ⟨K, hK.keeps k, c⟩
theorem obsEQ_eq {n : Nat} {fa : List He.Fa} {fn : List He.DefD} {gb : List (PySem.W.Frag → Bool)} {ts : List He.Tab} {fx : List He5.DefA} {fe : List DefE} {g : Addr → Option Obj} {s : Shared} (h : ∀ a, g a = s.heap.get? a) : obsEQ n fa fn gb ts fx fe g = (hookQ n fa fn gb ts fx fe).obs s := by
  rw [funext h] <;> rfl
end DL

namespace DL
open PySem L2
/-! ### texts in order; sorted texts; d.get(k, x); rows in a list that may change -/
def ltT (a b : Tx) : Bool := decide (a < b)
def gLtS : DOp := fun x y M Q => match x, y with
  | .str a, .str b => Q (.bl (ltT a b)) M
  | _, _ => False
def gGtS : DOp := fun x y M Q => match x, y with
  | .str a, .str b => Q (.bl (ltT b a)) M
  | _, _ => False
theorem od_ltS {K : PySem.W.Frag} : OpD K gLtS (fun x y H Q => ∃ i j, x = .str i ∧ y = .str j ∧ Q (.bl (decide (i.cps.toList < j.cps.toList))) H) := fun M H x y v u Q0 Q c rx ry h q => by
  cases x with
  | str a => cases y with
    | str b =>
      cases rx; cases ry
      exact ⟨sx a, sx b, rfl, rfl, q _ M _ H h rfl c (Stp.refl M H)⟩
    | _ => exact h.elim
  | _ => exact h.elim
theorem od_gtS {K : PySem.W.Frag} : OpD K gGtS (fun x y H Q => ∃ i j, x = .str i ∧ y = .str j ∧ Q (.bl (decide (j.cps.toList < i.cps.toList))) H) := fun M H x y v u Q0 Q c rx ry h q => by
  cases x with
  | str a => cases y with
    | str b =>
      cases rx; cases ry
      exact ⟨sx a, sx b, rfl, rfl, q _ M _ H h rfl c (Stp.refl M H)⟩
    | _ => exact h.elim
  | _ => exact h.elim
theorem ltS_s {a b : Tx} {M : Mu} {Q : DK} : opK (K := Q) ⟨⟩ gLtS (.str a) (.str b) M = Q (.bl (ltT a b)) M := pq Iff.rfl
theorem gtS_s {a b : Tx} {M : Mu} {Q : DK} : opK (K := Q) ⟨⟩ gGtS (.str a) (.str b) M = Q (.bl (ltT b a)) M := pq Iff.rfl
/-- sorted(texts), any number of them -/
def rSortedSA (K : PySem.W.Frag) : List V → Hp → VK → Prop := fun vs H Q => ∃ (a : Addr) (xs : List Str), vs = [V.ref a] ∧ SqL K H a (xs.map V.str) ∧
  ∀ (ys : List Str) (p : Addr), ys.Perm xs → PyProof.Rows.sortedS ys = true → H p = none → Q (.ref p) (upd H p (.lst (ys.map V.str)))
theorem cr_sortedSA {X : Cx} : CallR X (.builtin "sorted") (rSortedSA X.K) := by
  intro pins s σ H vs us Q I r h
  obtain ⟨a, xs, rfl, hs, q⟩ := h
  obtain ⟨its, rv, hl, hz⟩ := I.list hs
  rw [Vals.ref1 r]
  refine PyProof.Rows.sortedKAny PyProof.Rows.strKind_oneLt hl.isList (PyProof.Rows.StrsAre.keysOf rv.strs) (fun v₁ v₂ rest e => PyProof.Rows.keyKind_strs (by rw [← e]; exact rv.strs)) (by rw [← rv.length]; exact hz) fun st' hp hs => ?_
  obtain ⟨ys, h1, h2, h3⟩ := PyProof.Rows.sorted_out_str rv.strs hp hs
  obtain ⟨ep, he'⟩ := PyProof.Rows.sortedAll_at s.heap its ((PyProof.Rows.arrOf st').map (·.2))
  have hlen : (ys.map V.str).length ≤ sizeLine := by rw [List.length_map, h2.length_eq]; rw [List.length_map] at hz; exact hz
  exact ⟨.ref _, upd H (s.heap.objs.size + 1) (.lst (ys.map V.str)), I.laid (t' := s.toks) (fun _ _ => PyProof.Rows.sortedAll_old) (Nat.le_succ _) ⟨hlen, _, ep, vals_of_strs h1, he'⟩, rfl, q ys _ h2 h3 (I.hok.fresh (Nat.le_succ _))⟩
/-- sorted(texts), never changed afterwards -/
def gSorted : DCb := fun xs M Q => match xs with
  | [.lst ds] => ∃ ts : List Tx, ds = ts.map D.str ∧ ∀ us : List Tx, us.Perm ts → PyProof.Rows.sortedS (us.map sx) = true → Q (.lst (us.map D.str)) M
  | _ => False
theorem cb_sorted {K : PySem.W.Frag} : CbD K gSorted (rSortedSA K) := fun M H xs vs Q0 Q c r h q => by
  match xs, h with
  | [.lst ds], h =>
    obtain ⟨v, u, rfl, r1, r2⟩ := r.uncons
    cases r2.unnil
    obtain ⟨a, vs, rfl, ha, ma, ra⟩ := rep_of_lst r1
    obtain ⟨ts, rfl, k⟩ := (show ∃ ts : List Tx, ds = ts.map D.str ∧ ∀ us : List Tx, us.Perm ts → PyProof.Rows.sortedS (us.map sx) = true → Q0 (.lst (us.map D.str)) M from h)
    obtain rfl := ra.strs
    refine ⟨a, ts.map sx, rfl, .inl (.inl ha), fun ys p hp hs hn => ?_⟩
    have ey : ys = (ys.map T).map sx := by
      rw [List.map_map]
      conv => lhs; rw [← List.map_id ys]
      exact List.map_congr_left fun y _ => (sx_T y).symm
    have hp2 : (ys.map T).Perm ts := by
      have := hp.map T
      rw [List.map_map, show (T ∘ sx) = id from funext T_sx, List.map_id] at this
      exact this
    have k2 := k (ys.map T) hp2 (by rw [← ey]; exact hs)
    have rz : Reps K M H ((ys.map T).map D.str) (ys.map V.str) := by
      have := Reps.of_strs (K := K) (M := M) (H := H) (ys.map T)
      rw [← ey] at this
      exact this
    exact new_lst c rz k2 q p hn
theorem sorted_l {ds : List D} {M : Mu} {Q : DK} : cbK (K := Q) ⟨⟩ gSorted [.lst ds] M = (∃ ts : List Tx, ds = ts.map D.str ∧ ∀ us : List Tx, us.Perm ts → PyProof.Rows.sortedS (us.map sx) = true → Q (.lst (us.map D.str)) M) := pq Iff.rfl
/-! d.get(k, x) -/
def keyK {K : DKey → Prop} (_ : Lk K) (d : D) : Prop := match d with
  | .str x => K (.inr x)
  | .int i => K (.inl i)
  | _ => False
theorem keyK_s {K : DKey → Prop} {x : Tx} : keyK (K := K) ⟨⟩ (.str x) = K (.inr x) := pq Iff.rfl
theorem keyK_i {K : DKey → Prop} {x : Int} : keyK (K := K) ⟨⟩ (.int x) = K (.inl x) := pq Iff.rfl
def dDGet (td ty tx : DTE) : DTE := fun τ M Q E => td τ M (fun d M1 => onRef (K := fun a => onDR (K := fun _ => ty τ M1 (fun y M2 => tx τ M2 (fun z M3 => keyK (K := fun k => onDR (K := fun kvs => Q ((lookK kvs k).getD z) M3) ⟨⟩ (M3 a)) ⟨⟩ y) E) E) ⟨⟩ (M1 a)) ⟨⟩ d) E
theorem u_dget {td ty tx : DTE} {τ : DSt} {M : Mu} {Q : DK} {E : DX} : dDGet td ty tx τ M Q E = td τ M (fun d M1 => onRef (K := fun a => onDR (K := fun _ => ty τ M1 (fun y M2 => tx τ M2 (fun z M3 => keyK (K := fun k => onDR (K := fun kvs => Q ((lookK kvs k).getD z) M3) ⟨⟩ (M3 a)) ⟨⟩ y) E) E) ⟨⟩ (M1 a)) ⟨⟩ d) E := pq Iff.rfl
theorem onDR_dOf {K : List (DKey × D) → Prop} {o : Option MO} (h : onDR (K := K) ⟨⟩ o) : ∃ mo kvs, o = some mo ∧ dOf mo = some kvs ∧ K kvs := by
  cases o with
  | none => exact h.elim
  | some mo => cases mo with
    | dK kvs => exact ⟨_, kvs, rfl, rfl, h⟩
    | fK kvs u => exact ⟨_, kvs, rfl, rfl, h⟩
    | _ => exact h.elim
section
variable {X : Cx} {W : WX} {o e f : Expr} {td ty tx : DTE} {apos cpos : Pos}
theorem de_dget (G : Gd X W) (ho : DE X W o td) (he : DE X W e ty) (hf : DE X W f tx) (m : M2 X o "get" apos e f cpos) : DE X W (.Call (.Attribute o "get" apos) [e, f] [] cpos) (dDGet td ty tx) :=
  PE.of (pe_dget2 G.hu1 ho he hf m) fun σ H Q ⟨τ, M, Q0, E0, S, h⟩ => S.sub h fun d M1 v H1 h1 r1 S1 s1 => by
    cases d with
    | ref a =>
      cases r1
      have h1 : onDR (K := fun _ => ty τ M1 (fun y M2 => tx τ M2 (fun z M3 => keyK (K := fun k => onDR (K := fun kvs => Q0 ((lookK kvs k).getD z) M3) ⟨⟩ (M3 a)) ⟨⟩ y) E0) E0) ⟨⟩ (M1 a) := h1
      obtain ⟨mo, kvs, em, ed, h2⟩ := onDR_dOf h1
      obtain ⟨ks, hr, _, _⟩ := mu_dR S1.co em ed
      refine ⟨a, rfl, .inl ⟨ks, hr⟩, S1.sub h2 fun y M2 w H2 h3 r2 S2 s2 => S2.sub h3 fun z M3 w3 H3 h4 r3 S3 s3 => ?_⟩
      have ry := r2.stp s3
      have go : ∀ k : DKey, w = kV (kO k) → onDR (K := fun kvs => Q0 ((lookK kvs k).getD z) M3) ⟨⟩ (M3 a) → ∃ o, DGet H3 a w o ∧ Q (o.getD w3) H3 := fun k ek h5 => by
        obtain ⟨mo3, kvs3, em3, ed3, h6⟩ := onDR_dOf h5
        obtain ⟨ks3, hr3, ek3, ra3⟩ := mu_dR S3.co em3 ed3
        refine ⟨valV ks3 (kO k), .inl ⟨ks3, kO k, hr3, ek, rfl⟩, ?_⟩
        have lr := look_rep (k := k) ek3 ra3
        cases q : lookK kvs3 k with
        | none =>
          rw [q] at h6 lr
          rw [lr]
          exact S3.end_ h6 r3
        | some d =>
          rw [q] at h6 lr
          obtain ⟨u, e1, e2⟩ := lr
          rw [e1]
          exact S3.end_ h6 e2
      cases y with
      | str x => exact go (.inr x) ry h4
      | int i => exact go (.inl i) ry h4
      | _ => exact h4.elim
    | _ => exact h1.elim
end
/-! rows that stand in a list that may change -/
def onRowsR (C f : Str) (M : Mu) (d : D) (K : List D → Prop) : Prop := ∃ a fs p ds, d = .ref a ∧ M a = some (.ins C fs) ∧ fs.lookup f = some (.ref p) ∧ M p = some (.lst ds) ∧ K ds
def gLenOR (C f : Str) : DCb := fun xs M Q => match xs with
  | [d] => onRowsR C f M d fun ds => Q (.int ds.length) M
  | _ => False
def gListOR (C f : Str) : DCb := fun xs M Q => match xs with
  | [d] => onRowsR C f M d fun ds => Q (.lst ds) M
  | _ => False
section
variable {K : PySem.W.Frag} {C f : Str}
theorem onRowsR_at {M : Mu} {H : Hp} {x : D} {v : V} {L : List D → Prop} (h : onRowsR C f M x L) (r : Rep K M H x v) (c : Cor K M H) :
    ∃ a dx gs l ds vs, v = .ref a ∧ H a = some (.ins (He.ga K C) dx gs) ∧ gs.lookup f = some (.ref l) ∧ H l = some (.lst vs) ∧ Reps K M H ds vs ∧ L ds := by
  obtain ⟨a, fs, p, ds, rfl, e, q, e2, h4⟩ := h
  cases r
  obtain ⟨dx, gs, h1, h3, h5⟩ := mu_ins c e
  obtain ⟨v, h6, h7⟩ := fld_get h3 h5 q
  cases h7
  obtain ⟨vs, h8, h10⟩ := mu_lst c e2
  exact ⟨a, dx, gs, p, ds, vs, rfl, h1, h6, h8, h10, h4⟩
theorem cb_lenOR : CbD K (gLenOR C f) (rLenO K C f) := fun M H xs vs Q0 Q c r h q => by
  match xs, h with
  | [d], h =>
    obtain ⟨v, u, rfl, r1, r2⟩ := r.uncons
    cases r2.unnil
    obtain ⟨a, dx, gs, l, ds, vs, rfl, h1, h2, h3, h5, h6⟩ := onRowsR_at h r1 c
    exact ⟨a, dx, gs, l, vs, rfl, h1, h2, h3, by rw [h5.length]; exact q _ M _ H h6 rfl c (Stp.refl M H)⟩
theorem cb_listOR : CbD K (gListOR C f) (rListO K C f) := fun M H xs vs Q0 Q c r h q => by
  match xs, h with
  | [d], h =>
    obtain ⟨v, u, rfl, r1, r2⟩ := r.uncons
    cases r2.unnil
    obtain ⟨a, dx, gs, l, ds, vs, rfl, h1, h2, h3, h5, h6⟩ := onRowsR_at h r1 c
    exact ⟨a, dx, gs, l, vs, rfl, h1, h2, h3, new_lst c h5 h6 q⟩
end
theorem lenOR_r {C f : Str} {M : Mu} {Q : DK} {d : D} : cbK (K := Q) ⟨⟩ (gLenOR C f) [d] M = onRowsR C f M d (fun ds => Q (.int ds.length) M) := pq Iff.rfl
theorem listOR_r {C f : Str} {M : Mu} {Q : DK} {d : D} : cbK (K := Q) ⟨⟩ (gListOR C f) [d] M = onRowsR C f M d (fun ds => Q (.lst ds) M) := pq Iff.rfl
end DL

namespace DL
open PySem L2 He
/-! ### a walk over an own object whose `__iter__` gives iter(self.f) -/
def iOwnR (K : PySem.W.Frag) (C f : Str) (te : TE) : TI := fun σ H R => te σ H fun x H1 => ∃ a dx gs l xs, x = .ref a ∧ H1 a = some (.ins (ga K C) dx gs) ∧ gs.lookup f = some (.ref l) ∧ H1 l = some (.lst xs) ∧ R (Itl K l) H1
section
variable {X : Cx} {W : WX} {C f : Str} {e tg : Expr}
theorem pi_ownR {te : TE} (he : PE X e te) (T : IterC X.prog X.w X.K X.mg X.base C f) (hr : Room 1 X.A) : PI X tg e (iOwnR X.K C f te) := by
  refine ⟨fun pins s σ H R I h => ?_⟩
  refine thn (he.run pins s σ H _ I h) fun v s1 ⟨x, H1, I1, r1, a, dx, gs, l, ys, ex, hH, hf, hl, q⟩ => ?_
  subst ex
  cases r1
  refine iter_at T hr I1.env0 I1 hH hf hl fun it s' hn hsz I3 => ?_
  have hob : s'.heap.get? it = some (GNX.itObj l 0) := (show _ ∧ _ from I3.hok it _ upd_same).1
  have F := ItX.inv_fp I3 upd_same (Nat.le_trans I1.sz hsz)
  have I5 := ItX.inv_drop I3 upd_same
  rw [ItX.dropH_upd hn] at I5 F
  refine ⟨it, [it], _, _, H1, rfl, I5, turn_list l it, ⟨_, hob, rfl, rfl⟩, fun b hb => ?_, q⟩
  have e : b = it := by simpa using hb
  rw [e]
  exact F
def diOwn (C f : Str) (te : DTE) : DTI := fun τ M Q E => te τ M (fun d M1 => onRows C f M1 d fun ds => Q ds M1) E
theorem di_own {te : DTE} (T : IterC X.prog X.w X.K X.mg X.base C f) (hr : Room 1 X.A) (he : DE X W e te) : DI X W tg e (diOwn C f te) := PI.of (pi_ownR he T hr) fun σ H R ⟨τ, M, Q0, E0, S, h⟩ => S.sub h fun d M1 v H1 h1 r1 S1 s1 => by
  obtain ⟨a, dx, gs, l, ds, vs, rfl, h1, h2, h3, h4, h5, h6⟩ := onRows_at h1 r1 S1.co
  exact ⟨a, dx, gs, l, vs, rfl, h1, h2, h3, S1.end_ h6 (it_lst h3 h4 h5)⟩
theorem r_own {te : DTE} {τ : DSt} {M : Mu} {Ql : List D → Mu → Prop} {E : DX} : diOwn C f te τ M Ql E = te τ M (fun d M1 => onRows C f M1 d fun ds => Ql ds M1) E := pq Iff.rfl
end
end DL

namespace DL
open PySem L2
/-! ### places in lists -/
theorem atI_nat {α : Type} {xs : List α} {i : Nat} (h : i < xs.length) : atI xs (i : Int) = some xs[i] := by
  unfold atI ixN
  rw [if_pos (by omega), if_pos (by omega)]
  show xs[(i : Int).toNat]? = _
  rw [Int.toNat_natCast, List.getElem?_eq_getElem h]
theorem atI_of {α : Type} {xs : List α} {i : Int} {x : α} (h0 : 0 ≤ i) (h : xs[i.toNat]? = some x) : atI xs i = some x := by
  have hl := (List.getElem?_eq_some_iff.mp h).1
  unfold atI ixN
  rw [if_pos h0, if_pos (by omega)]
  exact h
theorem atI_0 {α : Type} {a : α} {l : List α} : atI (a :: l) 0 = some a := atI_of (by decide) rfl
theorem atI_1 {α : Type} {a b : α} {l : List α} : atI (a :: b :: l) 1 = some b := atI_of (by decide) rfl
theorem atI_2 {α : Type} {a b c : α} {l : List α} : atI (a :: b :: c :: l) 2 = some c := atI_of (by decide) rfl
theorem atI_3 {α : Type} {a b c d : α} {l : List α} : atI (a :: b :: c :: d :: l) 3 = some d := atI_of (by decide) rfl
theorem atI_4 {α : Type} {a b c d e : α} {l : List α} : atI (a :: b :: c :: d :: e :: l) 4 = some e := atI_of (by decide) rfl
theorem ixN_m1 {n : Nat} : ixN (n + 1) (-1) = some n := by
  unfold ixN
  rw [if_neg (by decide), if_pos (by omega)]
  congr 1
  omega
theorem atI_m1 {α : Type} {xs : List α} {x : α} : atI (xs ++ [x]) (-1) = some x := by
  unfold atI
  rw [List.length_append, show ([x] : List α).length = 1 from rfl, ixN_m1]
  show (xs ++ [x])[xs.length]? = _
  simp
theorem ixN_nat {n i : Nat} (h : i < n) : ixN n (i : Int) = some i := by
  unfold ixN
  rw [if_pos (by omega), if_pos (by omega), Int.toNat_natCast]
theorem ixN_of {n : Nat} {i : Int} (h0 : 0 ≤ i) (h : i < n) : ixN n i = some i.toNat := by
  unfold ixN
  rw [if_pos h0, if_pos h]
theorem atI_is {α : Type} {xs : List α} {i : Int} (h0 : 0 ≤ i) (h : i < xs.length) : ∃ x, x ∈ xs ∧ atI xs i = some x ∧ xs[i.toNat]? = some x := by
  have hl : i.toNat < xs.length := by omega
  exact ⟨xs[i.toNat], List.getElem_mem hl, atI_of h0 (List.getElem?_eq_getElem hl), List.getElem?_eq_getElem hl⟩
theorem atI_map {α β : Type} {f : α → β} {xs : List α} {i : Int} : atI (xs.map f) i = (atI xs i).map f := by
  unfold atI
  rw [List.length_map]
  cases ixN xs.length i with
  | none => rfl
  | some j => show (xs.map f)[j]? = (xs[j]?).map f; rw [List.getElem?_map]
theorem ixN_40 : ixN 4 0 = some 0 := rfl
theorem ixN_41 : ixN 4 1 = some 1 := rfl
theorem ixN_42 : ixN 4 2 = some 2 := rfl
theorem ixN_43 : ixN 4 3 = some 3 := rfl
/-! ### cuts -/
theorem cut_to {α : Type} {xs : List α} {i : Int} (h0 : 0 ≤ i) (h : i ≤ xs.length) : cut xs none (some i) = xs.take i.toNat := by
  unfold cut HT.sIx
  simp only [List.drop_zero, Nat.sub_zero]
  rw [if_neg (by omega)]
  congr 1
  omega
theorem cut_from {α : Type} {xs : List α} {i : Int} (h0 : 0 ≤ i) : cut xs (some i) none = xs.drop i.toNat := by
  unfold cut HT.sIx
  simp only []
  rw [if_neg (by omega)]
  rw [List.take_of_length_le (by rw [List.length_drop]; omega)]
  by_cases h : i.toNat ≤ xs.length
  · congr 1; omega
  · rw [List.drop_eq_nil_of_le (by omega), List.drop_eq_nil_of_le (by omega)]
theorem cut_nat {α : Type} {xs : List α} {n : Nat} : cut xs (some (n : Int)) none = xs.drop n := by rw [cut_from (by omega), Int.toNat_natCast]
theorem cut_init {α : Type} {xs : List α} {x : α} : cut (xs ++ [x]) none (some (-1)) = xs := by
  unfold cut HT.sIx
  simp only [List.drop_zero, Nat.sub_zero]
  rw [if_pos (by decide)]
  rw [List.length_append, show ([x] : List α).length = 1 from rfl]
  rw [show (((-1 : Int) + ((xs.length + 1 : Nat) : Int)).toNat) = xs.length by omega]
  first
    | simp
    | (rw [Nat.min_eq_left (by omega)]; simp)
/-! ### loops -/
theorem wFor_by {g : DTG} {tb : DTS} {D0 : DEnds} {ds : List D} {τ : DSt} {M : Mu} (I : Nat → DSt → Mu → Prop) (h0 : I 0 τ M)
    (step : ∀ i d τ M, ds[i]? = some d → I i τ M → ∀ nxt : DSt → Mu → Prop, (∀ τ2 M2, I (i + 1) τ2 M2 → nxt τ2 M2) → g d τ M (fun τ1 M1 => tb { D0 with nx := nxt, ct := nxt, bk := D0.nx } τ1 M1) (D0.ex τ))
    (done : ∀ τ M, I ds.length τ M → D0.nx τ M) : wFor g tb D0 ds τ M := by
  have all : ∀ (rest pre : List D) (τ : DSt) (M : Mu), ds = pre ++ rest → I pre.length τ M → wFor g tb D0 rest τ M := by
    intro rest
    induction rest with
    | nil =>
      intro pre τ M e h
      rw [List.append_nil] at e
      rw [← e] at h
      exact done τ M h
    | cons d rest ih =>
      intro pre τ M e h
      refine step pre.length d τ M (by rw [e]; simp) h _ fun τ2 M2 h2 => ?_
      refine ih (pre ++ [d]) τ2 M2 (by rw [e]; simp) ?_
      rw [List.length_append]
      exact h2
  exact all ds [] τ M rfl h0
theorem wFor_nil {g : DTG} {tb : DTS} {D0 : DEnds} {τ : DSt} {M : Mu} (h : D0.nx τ M) : wFor g tb D0 [] τ M := h
theorem wFor_cons {g : DTG} {tb : DTS} {D0 : DEnds} {τ : DSt} {M : Mu} {d : D} {ds : List D} (h : g d τ M (fun τ1 M1 => tb { D0 with nx := wFor g tb D0 ds, ct := wFor g tb D0 ds, bk := D0.nx } τ1 M1) (D0.ex τ)) : wFor g tb D0 (d :: ds) τ M := h
theorem wForK_by {g : DTG} {tb : DTS} {D0 : DEnds} {ds : List D} {τ : DSt} {M : Mu} {a : Addr} {kvs : List (DKey × D)} {u : HO} (I : Nat → DSt → Mu → Prop) (h0 : I 0 τ M) (hk : ∀ i τ M, I i τ M → M a = some (.fK kvs u))
    (step : ∀ i d τ M, ds[i]? = some d → I i τ M → ∀ nxt : DSt → Mu → Prop, (∀ τ2 M2, I (i + 1) τ2 M2 → nxt τ2 M2) → g d τ M (fun τ1 M1 => tb { D0 with nx := nxt, ct := nxt, bk := D0.nx } τ1 M1) (D0.ex τ))
    (done : ∀ τ M, I ds.length τ M → D0.nx τ M) : wForK a kvs u g tb D0 ds τ M := by
  have all : ∀ (rest pre : List D) (τ : DSt) (M : Mu), ds = pre ++ rest → I pre.length τ M → wForK a kvs u g tb D0 rest τ M := by
    intro rest
    induction rest with
    | nil =>
      intro pre τ M e h
      rw [List.append_nil] at e
      rw [← e] at h
      exact ⟨hk _ _ _ h, done τ M h⟩
    | cons d rest ih =>
      intro pre τ M e h
      refine ⟨hk _ _ _ h, step pre.length d τ M (by rw [e]; simp) h _ fun τ2 M2 h2 => ?_⟩
      refine ih (pre ++ [d]) τ2 M2 (by rw [e]; simp) ?_
      rw [List.length_append]
      exact h2
  exact all ds [] τ M rfl h0
theorem wForR_by {g : DTG} {tb : DTS} {D0 : DEnds} {all ds : List D} {τ : DSt} {M : Mu} {a : Addr} (I : Nat → DSt → Mu → Prop) (h0 : I 0 τ M) (hk : ∀ i τ M, I i τ M → M a = some (.lst all))
    (step : ∀ i d τ M, ds[i]? = some d → I i τ M → ∀ nxt : DSt → Mu → Prop, (∀ τ2 M2, I (i + 1) τ2 M2 → nxt τ2 M2) → g d τ M (fun τ1 M1 => tb { D0 with nx := nxt, ct := nxt, bk := D0.nx } τ1 M1) (D0.ex τ))
    (done : ∀ τ M, I ds.length τ M → D0.nx τ M) : wForR a all g tb D0 ds τ M := by
  have go : ∀ (rest pre : List D) (τ : DSt) (M : Mu), ds = pre ++ rest → I pre.length τ M → wForR a all g tb D0 rest τ M := by
    intro rest
    induction rest with
    | nil =>
      intro pre τ M e h
      rw [List.append_nil] at e
      rw [← e] at h
      exact ⟨hk _ _ _ h, done τ M h⟩
    | cons d rest ih =>
      intro pre τ M e h
      refine ⟨hk _ _ _ h, step pre.length d τ M (by rw [e]; simp) h _ fun τ2 M2 h2 => ?_⟩
      refine ih (pre ++ [d]) τ2 M2 (by rw [e]; simp) ?_
      rw [List.length_append]
      exact h2
  exact go ds [] τ M rfl h0
/-- a comprehension over a list that may change, each item's image by its place -/
theorem lcR_map {i : Nat} {vs : List Nat} {τ : DSt} {p a : Addr} {te : DTE} {Nx : Mu → Prop} {all : List D} {M : Mu} (f : Nat → D) (hl : all.length < 16777216) (hm : M a = some (.lst all)) (ha : a ≠ p)
    (he : ∀ k d, all[k]? = some d → ∀ acc (N : D → Mu → Prop), N (f k) (put M p (.lst acc)) → te ((wipeD τ vs).set i (some d)) (put M p (.lst acc)) N noX)
    (h : Nx (put M p (.lst ((List.range all.length).map f)))) : wTsR a all (dgName i) dYes vs τ (dEm p te) Nx all (put M p (.lst [])) := by
  have go : ∀ (rest pre : List D), all = pre ++ rest → wTsR a all (dgName i) dYes vs τ (dEm p te) Nx rest (put M p (.lst ((List.range pre.length).map f))) := by
    intro rest
    induction rest with
    | nil =>
      intro pre e
      rw [List.append_nil] at e
      refine ⟨by rw [put_ne ha]; exact hm, ?_⟩
      rw [← e]
      exact h
    | cons d rest ih =>
      intro pre e
      refine ⟨by rw [put_ne ha]; exact hm, ?_⟩
      refine he pre.length d (by rw [e]; simp) _ _ ⟨_, put_same, ?_, ?_⟩
      · rw [List.length_map, List.length_range, line24]
        have := congrArg List.length e
        rw [List.length_append] at this
        omega
      · have q := ih (pre ++ [d]) (by rw [e]; simp)
        rw [List.length_append, List.length_singleton, List.range_succ, List.map_append] at q
        rw [put_put]
        exact q
  exact go all [] rfl
theorem upTo_at {lo : Int} {n i : Nat} {d : D} (h : (upTo lo n)[i]? = some d) : d = .int (lo + i) ∧ i < n := ⟨upTo_get h, by have := (List.getElem?_eq_some_iff.mp h).1; rwa [upTo_len] at this⟩
theorem map_at {α : Type} {f : α → D} {l : List α} {i : Nat} {d : D} (h : (l.map f)[i]? = some d) : ∃ a, l[i]? = some a ∧ f a = d := by
  rw [List.getElem?_map] at h
  exact Option.map_eq_some_iff.mp h
end DL

namespace DL
open PySem L2
/-! ### a law's end -/
theorem no_err {P : Program} {w : World} {H : Hp} {s s' : Shared} {e : Value} (h : L2.CX P w [] H s (fun _ _ _ => False) e s') : False := by
  obtain ⟨_, _, _, _, _, _, _, _, _, _, _, _, z⟩ := h
  exact z
theorem law_start {K : PySem.W.Frag} {H : Hp} {a : Addr} {ns : List Int} {sp : DSp} (hO : Only H) (hS : SqL K H a (ns.map V.int)) (h : sp [.scr ns] (fun _ => none) (fun d _ => d = .bl true) (fun _ _ => False)) : lsp K sp [.ref a] H (fun v _ => v = .bl true) (fun _ _ _ => False) := by
  refine ⟨[.scr ns], fun _ => none, fun d _ => d = .bl true, fun _ _ => False, ?_, fun _ _ e => (nomatch e), h, fun d M' v H' q r _ _ => ?_, fun _ _ _ _ _ q => q.elim⟩
  · refine Reps.cons ?_ Reps.nil
    refine ⟨a, rfl, ?_⟩
    rcases hS with (hS | hS) | hS
    · rcases hO a with z | ⟨o, xs, z⟩
      · rw [hS] at z; cases z
      · rw [hS] at z; cases z
    · exact .inl ⟨hS, rfl⟩
    · exact .inr hS
  · subst q
    exact r
theorem law_walk {l : PySem.W.OpenLaw} {sp : DSp} {k : Nat} {q : Program} {loose : List Str} {XP : (Str → Option Value) → Heap → Prop} {YP : World → Heap → Prop} {d : DefRec} {x : Str} (h63 : l.most = some 63) (hdf : d.params.defaults = []) (hr : Room k callerA)
    (hsp : ∀ ns : List Int, ns.length ≤ 63 → sp [.scr ns] (fun _ => none) (fun d _ => d = .bl true) (fun _ _ => False))
    (F : ∀ (w : World) (mg : Str → Option Value) (fa : Addr) (h : Heap), YP w h → h.Ns mainGlobals mg → mg d.name = some (.ref fa) → ∃ (K : PySem.W.Frag) (fd : FuncData), K.In h ∧ (∀ (s : Shared) (u : Value), BindsTo s fd ⟨[u], []⟩ [(x, u)]) ∧
      ∀ base : Heap, K.In base → base.Ns mainGlobals mg → FnOk l.prog w K mg base (L2.CX l.prog w) k fa fd [x] (lsp K sp)) : PySem.W.WalkO q loose XP YP l.row.toRowW d [] (fun f vs => PySem.call f vs) :=
  Att.attach_call h63 hdf fun w s0 s1 mg mb fa o pm cd doc a vs ns G Y ho hd hcd hmg hobj his hlen hgen => by
    obtain ⟨K, fd, hK, hb, hF⟩ := F w mg fa _ Y G.T.g hmg
    exact law_call hK G.T.g G.T.b G.T.builtins G.T.nolimit hgen hobj his (Nat.le_trans hlen (by decide)) hr hF hb (fun H hO hS => law_start hO hS (hsp ns hlen)) fun H e s' z => no_err z
theorem FnM.never {P : Program} {w : World} {K : PySem.W.Frag} {mg : Str → Option Value} {base : Heap} {k : Nat} {x : Str} {f : Addr} {fd : FuncData} {ps : List Str} {sp : DSp} (hno : ∀ ds M Q E, ¬ sp ds M Q E) (hm : mg x = some (.ref f)) (hk : PySem.W.keepIn K (.ref f) = true) (hb : Binds K fd ps []) : FnM P w K mg base k x sp :=
  ⟨f, fd, ps, ⟨fun vs H Q E ⟨ds, M, Q0, E0, _, _, h, _⟩ => (hno _ _ _ _ h).elim, fun A outer s H args us vs Q E _ _ _ _ ⟨ds, M, Q0, E0, _, _, h, _⟩ => (hno _ _ _ _ h).elim⟩, hm, hk, hb⟩
end DL

namespace DL
open PySem L2
/-! ### one of two readings; a tuple's last list is to change no more -/
theorem FnM.mono {P : Program} {w : World} {K : PySem.W.Frag} {mg : Str → Option Value} {base : Heap} {j k : Nat} {x : Str} {sp : DSp} (F : FnM P w K mg base j x sp) (h : j ≤ k) : FnM P w K mg base k x sp := by
  obtain ⟨f, fd, ps, h1, h2⟩ := F.ex
  exact ⟨f, fd, ps, h1.mono h, h2⟩
section
variable {X : Cx} {W : WX} {e : Expr} {st : Stmt} {te t1 t2 : DTE} {s1 s2 : DTS}
def dOrE (t1 t2 : DTE) : DTE := fun τ M Q E => t1 τ M Q E ∨ t2 τ M Q E
theorem de_orE (a : DE X W e t1) (b : DE X W e t2) : DE X W e (dOrE t1 t2) := ⟨fun pins s σ H Q I h => by
  obtain ⟨τ, M, Q0, E0, S, h⟩ := h
  rcases h with h | h
  · exact a.run pins s σ H Q I ⟨τ, M, Q0, E0, S, h⟩
  · exact b.run pins s σ H Q I ⟨τ, M, Q0, E0, S, h⟩⟩
def dOrS (t1 t2 : DTS) : DTS := fun D0 τ M => t1 D0 τ M ∨ t2 D0 τ M
theorem ds_orS (a : DS X W st s1) (b : DS X W st s2) : DS X W st (dOrS s1 s2) := ⟨fun pins s σ H D I h => by
  obtain ⟨τ, M, D0, S, h⟩ := h
  rcases h with h | h
  · exact a.run pins s σ H D I ⟨τ, M, D0, S, h⟩
  · exact b.run pins s σ H D I ⟨τ, M, D0, S, h⟩⟩
def frzTK {K : DK} (_ : Lk K) (d : D) (M : Mu) : Prop := match d with
  | .tup ds => (match ds.getLast? with
    | some (.ref a) => (match M a with
      | some (.lst xs) => K (.tup (ds.dropLast ++ [.lst xs])) (del M a)
      | _ => False)
    | _ => K (.tup ds) M)
  | _ => False
def dFrzT (te : DTE) : DTE := fun τ M Q E => te τ M (fun d M1 => frzTK (K := Q) ⟨⟩ d M1) E
theorem last_rep {K : PySem.W.Frag} {M : Mu} {H : Hp} : ∀ {ds : List D} {vs : List V} {d : D}, Reps K M H ds vs → ds.getLast? = some d → ∃ v, vs = vs.dropLast ++ [v] ∧ Rep K M H d v := fun {ds vs d} r e => by
  obtain ⟨ys, rfl⟩ := List.getLast?_eq_some_iff.mp e
  have hl := r.length
  rw [List.length_append] at hl
  have hne : vs ≠ [] := fun z => by rw [z] at hl; simp at hl
  refine ⟨vs.getLast hne, (List.dropLast_concat_getLast hne).symm, ?_⟩
  obtain ⟨v, h1, h2⟩ := r.get (i := ys.length) (d := d) (by simp)
  have : vs.getLast hne = v := by
    have h3 := List.getLast?_eq_getElem? (l := vs)
    rw [hl, show ys.length + [d].length - 1 = ys.length by simp, h1, List.getLast?_eq_some_getLast hne] at h3
    exact Option.some.inj h3
  rw [this]; exact h2
theorem de_frzT (h : DE X W e te) : DE X W e (dFrzT te) := PE.of h fun σ H Q ⟨τ, M, Q0, E0, S, h⟩ => S.sub h fun d M1 v H1 h1 r1 S1 s1 => by
  cases d with
  | tup ds =>
    have h2 : (match ds.getLast? with
      | some (.ref a) => (match M1 a with
        | some (.lst xs) => Q0 (.tup (ds.dropLast ++ [.lst xs])) (del M1 a)
        | _ => False)
      | _ => Q0 (.tup ds) M1) := h1
    cases hl : ds.getLast? with
    | none => rw [hl] at h2; exact S1.q _ _ _ _ h2 r1 S1.co (Stp.refl M1 H1)
    | some z =>
      rw [hl] at h2
      cases z with
      | ref a =>
        have h2 : (match M1 a with
          | some (.lst xs) => Q0 (.tup (ds.dropLast ++ [.lst xs])) (del M1 a)
          | _ => False) := h2
        cases q : M1 a with
        | none => rw [q] at h2; exact h2.elim
        | some mo =>
          rw [q] at h2
          cases mo with
          | lst xs =>
            obtain ⟨o, e1, us, e2, r⟩ := S1.co a _ q
            subst e2
            obtain ⟨b, vs, rfl, hb, rb⟩ := rep_of_tup r1
            obtain ⟨u, e3, r3⟩ := last_rep rb hl
            cases (show u = .ref a from r3)
            refine S1.q _ _ _ _ h2 ?_ S1.co.frz Stp.frz
            have r4 : Reps X.K (del M1 a) H1 (ds.dropLast ++ [.lst xs]) vs := by
              rw [e3]
              exact ((rb.dropLast).stp Stp.frz).append (.cons (rep_lst e1 del_same (r.stp Stp.frz)) .nil)
            show Rep X.K (del M1 a) H1 (.tup (ds.dropLast ++ [.lst xs])) (.ref b)
            unfold Rep
            refine ⟨b, vs, rfl, ?_, r4⟩
            rcases hb with ⟨h5, h6⟩ | h5
            · refine .inl ⟨h5, ?_⟩
              by_cases z : b = a
              · rw [z, del_same]
              · rw [del_ne z]; exact h6
            · exact .inr h5
          | _ => exact h2.elim
      | _ => exact S1.q _ _ _ _ h2 r1 S1.co (Stp.refl M1 H1)
  | _ => exact h1.elim
end
section
variable {τ : DSt} {M : Mu} {Q : DK} {E : DX} {te : DTE} {a b c d : D} {p : Addr}
theorem u_frzT : dFrzT te τ M Q E = te τ M (fun d M1 => frzTK (K := Q) ⟨⟩ d M1) E := pq Iff.rfl
theorem frzT_5 : frzTK (K := Q) ⟨⟩ (.tup [a, b, c, d, .ref p]) M = onML (K := fun xs => Q (.tup [a, b, c, d, .lst xs]) (del M p)) ⟨⟩ (M p) := pq Iff.rfl
theorem frzT_5l {xs : List D} : frzTK (K := Q) ⟨⟩ (.tup [a, b, c, d, .lst xs]) M = Q (.tup [a, b, c, d, .lst xs]) M := pq Iff.rfl
theorem frzT_2s {x : Tx} : frzTK (K := Q) ⟨⟩ (.tup [a, .str x]) M = Q (.tup [a, .str x]) M := pq Iff.rfl
theorem frzT_2i {x : Int} : frzTK (K := Q) ⟨⟩ (.tup [a, .int x]) M = Q (.tup [a, .int x]) M := pq Iff.rfl
end
end DL

namespace DL
open PySem L2 He
/-! ### methods that call themselves -/
theorem FnC.never {P : Program} {w : World} {K : PySem.W.Frag} {mg : Str → Option Value} {base : Heap} {k : Nat} {C m : Str} {sp : DSp} (hno : ∀ ds M Q E, ¬ sp ds M Q E) (M : Meth K (ga K C) m (ma K (ga K C) m)) : FnC P w K mg base k C m sp :=
  ⟨M.at_, M.fn, M.kp, fun A outer s H us vs Q E _ _ _ ⟨ds, M, Q0, E0, _, _, h, _⟩ => (hno _ _ _ _ h).elim⟩
end DL

namespace Lw
open PySem L2 DL
def top (i : Nat) : Stmt := PySem.Challenge.pw_lentahead_k30_straight_programs.main.body.getD i (.Pass ⟨0, 0, 0, 0⟩)
def clsBody : Stmt → List Stmt
  | .ClassDef _ _ _ b _ _ _ _ _ _ _ => b
  | _ => []
def mth (i j : Nat) : Stmt := (clsBody (top i)).getD j (.Pass ⟨0, 0, 0, 0⟩)
abbrev s_l_begin : Stmt := top 10
abbrev s_l_draw : Stmt := top 11
abbrev s_l_pick : Stmt := top 12
abbrev s_l_name : Stmt := top 15
abbrev s_l_step : Stmt := top 16
abbrev s_l_tail : Stmt := top 17
abbrev s_l_place : Stmt := top 18
abbrev s_l_parts : Stmt := top 19
abbrev s_l_near : Stmt := top 20
abbrev s_l_places : Stmt := top 21
abbrev s_l_argument : Stmt := top 22
abbrev s_l_call : Stmt := top 23
abbrev s_l_simple : Stmt := top 24
abbrev s_l_block : Stmt := top 25
abbrev s_l_wrapped : Stmt := top 30
abbrev s_l_branched : Stmt := top 31
abbrev s_l_way : Stmt := top 26
abbrev s_l_long_way : Stmt := top 32
abbrev s_l_copy_call : Stmt := top 27
abbrev s_l_copy : Stmt := top 28
abbrev s_Walker_init : Stmt := mth 6 0
abbrev s_Walker_choice : Stmt := mth 6 1
abbrev s_copied_argument : Stmt := top 1
abbrev s_copied_call : Stmt := top 2
abbrev s_copied_block : Stmt := top 4
abbrev s_copied_statement : Stmt := top 3
abbrev s_Walker_block : Stmt := mth 6 2
abbrev s_walked_along : Stmt := top 7
abbrev s_straight : Stmt := top 8
abbrev s_l_same_row : Stmt := top 13
abbrev s_l_same : Stmt := top 14
abbrev s_l_follow : Stmt := top 29
abbrev s_l_due : Stmt := top 34
abbrev s_l_change_call : Stmt := top 33
abbrev s_law : Stmt := top 35
def fn : List He.DefD := [⟨("_law_begin", none), "_law_begin", "_law_begin", defArgs (top 10), defBody (top 10), defScope (top 10), [], []⟩,
  ⟨("_law_draw", none), "_law_draw", "_law_draw", defArgs (top 11), defBody (top 11), defScope (top 11), [], []⟩,
  ⟨("_law_pick", none), "_law_pick", "_law_pick", defArgs (top 12), defBody (top 12), defScope (top 12), [], []⟩,
  ⟨("_law_name", none), "_law_name", "_law_name", defArgs (top 15), defBody (top 15), defScope (top 15), [], []⟩,
  ⟨("_law_step", none), "_law_step", "_law_step", defArgs (top 16), defBody (top 16), defScope (top 16), [], []⟩,
  ⟨("_law_tail", none), "_law_tail", "_law_tail", defArgs (top 17), defBody (top 17), defScope (top 17), [], []⟩,
  ⟨("_law_place", none), "_law_place", "_law_place", defArgs (top 18), defBody (top 18), defScope (top 18), [], []⟩,
  ⟨("_law_parts", none), "_law_parts", "_law_parts", defArgs (top 19), defBody (top 19), defScope (top 19), [], []⟩,
  ⟨("_law_near", none), "_law_near", "_law_near", defArgs (top 20), defBody (top 20), defScope (top 20), [], []⟩,
  ⟨("_law_places", none), "_law_places", "_law_places", defArgs (top 21), defBody (top 21), defScope (top 21), [], []⟩,
  ⟨("_law_argument", none), "_law_argument", "_law_argument", defArgs (top 22), defBody (top 22), defScope (top 22), [], []⟩,
  ⟨("_law_call", none), "_law_call", "_law_call", defArgs (top 23), defBody (top 23), defScope (top 23), [], []⟩,
  ⟨("_law_simple", none), "_law_simple", "_law_simple", defArgs (top 24), defBody (top 24), defScope (top 24), [], []⟩,
  ⟨("_law_block", none), "_law_block", "_law_block", defArgs (top 25), defBody (top 25), defScope (top 25), [], []⟩,
  ⟨("_law_wrapped", none), "_law_wrapped", "_law_wrapped", defArgs (top 30), defBody (top 30), defScope (top 30), [], []⟩,
  ⟨("_law_branched", none), "_law_branched", "_law_branched", defArgs (top 31), defBody (top 31), defScope (top 31), [], []⟩,
  ⟨("_law_way", none), "_law_way", "_law_way", defArgs (top 26), defBody (top 26), defScope (top 26), [], []⟩,
  ⟨("_law_long_way", none), "_law_long_way", "_law_long_way", defArgs (top 32), defBody (top 32), defScope (top 32), [], []⟩,
  ⟨("_law_copy_call", none), "_law_copy_call", "_law_copy_call", defArgs (top 27), defBody (top 27), defScope (top 27), [], []⟩,
  ⟨("_law_copy", none), "_law_copy", "_law_copy", defArgs (top 28), defBody (top 28), defScope (top 28), [], []⟩,
  ⟨("Walker", some "__init__"), "__init__", "Walker.__init__", defArgs (mth 6 0), defBody (mth 6 0), defScope (mth 6 0), [], []⟩,
  ⟨("Walker", some "choice"), "choice", "Walker.choice", defArgs (mth 6 1), defBody (mth 6 1), defScope (mth 6 1), [], []⟩,
  ⟨("copied_argument", none), "copied_argument", "copied_argument", defArgs (top 1), defBody (top 1), defScope (top 1), [], []⟩,
  ⟨("copied_call", none), "copied_call", "copied_call", defArgs (top 2), defBody (top 2), defScope (top 2), [], []⟩,
  ⟨("copied_block", none), "copied_block", "copied_block", defArgs (top 4), defBody (top 4), defScope (top 4), [], []⟩,
  ⟨("copied_statement", none), "copied_statement", "copied_statement", defArgs (top 3), defBody (top 3), defScope (top 3), [], []⟩,
  ⟨("Walker", some "block"), "block", "Walker.block", defArgs (mth 6 2), defBody (mth 6 2), defScope (mth 6 2), [], []⟩,
  ⟨("walked_along", none), "walked_along", "walked_along", defArgs (top 7), defBody (top 7), defScope (top 7), [], []⟩,
  ⟨("straight", none), "straight", "straight", defArgs (top 8), defBody (top 8), defScope (top 8), [], []⟩,
  ⟨("_law_same_row", none), "_law_same_row", "_law_same_row", defArgs (top 13), defBody (top 13), defScope (top 13), [], []⟩,
  ⟨("_law_same", none), "_law_same", "_law_same", defArgs (top 14), defBody (top 14), defScope (top 14), [], []⟩,
  ⟨("_law_follow", none), "_law_follow", "_law_follow", defArgs (top 29), defBody (top 29), defScope (top 29), [], []⟩,
  ⟨("_law_due", none), "_law_due", "_law_due", defArgs (top 34), defBody (top 34), defScope (top 34), [], []⟩,
  ⟨("_law_change_call", none), "_law_change_call", "_law_change_call", defArgs (top 33), defBody (top 33), defScope (top 33), [], []⟩,
  ⟨("law", none), "law", "law", defArgs (top 35), defBody (top 35), defScope (top 35), [], []⟩]
def fx : List He5.DefA := []
def fe : List DefE := []
def gb : List (PySem.W.Frag → Bool) := []
def ts : List He.Tab := []
def fa : List He.Fa := [.glo "_law_begin", .glo "_law_draw", .glo "_law_pick", .glo "_law_name", .glo "_law_step", .glo "_law_tail", .glo "_law_place", .glo "_law_parts", .glo "_law_near", .glo "_law_places", .glo "_law_argument", .glo "_law_call", .glo "_law_simple", .glo "_law_block", .glo "_law_wrapped", .glo "_law_branched", .glo "_law_way", .glo "_law_long_way", .glo "_law_copy_call", .glo "_law_copy", .meth "Walker" "__init__", .meth "Walker" "choice", .glo "copied_argument", .glo "copied_call", .glo "copied_block", .glo "copied_statement", .meth "Walker" "block", .glo "walked_along", .glo "straight", .glo "_law_same_row", .glo "_law_same", .glo "_law_follow", .glo "_law_due", .glo "_law_change_call", .glo "law", .free "bool", .free "int", .free "isinstance", .free "len", .free "list", .free "range", .free "str", .free "tuple", .cls "Walker", .noat "Walker" "passed", .mkr "Walker", .glo "Walker", .noat "Walker" "_way", .noat "Walker" "taken"]
abbrev R : PySem.W.OpenRow := PySem.W.OpenLaw.row PySem.Challenge.rw_lentahead_k30_straight_programs
abbrev hk : PySem.W.Hook := DL.hookQ 6 fa fn gb ts fx fe
def ob (s : PySem.W.SharedT) : DL.AlE := DL.obsEQ 6 fa fn gb ts fx fe (HandSHeadRun.getT s)
theorem ob_eq (s : PySem.W.SharedT) : ob s = hk.obs s.abs := DL.obsEQ_eq (HandSHeadRun.getT_eq s)
def names0 : List PySem.Str := ["copied_argument", "copied_call", "copied_statement", "copied_block", "Walker", "walked_along", "straight", "_law_begin", "_law_draw", "_law_pick", "_law_same_row", "_law_same", "_law_name", "_law_step", "_law_tail", "_law_place", "_law_parts", "_law_near", "_law_places", "_law_argument", "_law_call", "_law_simple", "_law_block", "_law_way", "_law_copy_call", "_law_copy", "_law_follow", "_law_wrapped", "_law_branched", "_law_long_way"]
def names1 : List PySem.Str := ["_law_change_call", "_law_due"]
def names : List PySem.Str := names0 ++ names1
theorem run_l (w : World) : ∀ os : OsState, (HandSHeadRun.endF (HandSHeadRun.stepQ (HandSHeadRun.denQ HandSHeadRun.tabQ) R.prog w) 30000 R.prog w os).map (fun s => HandSHeadRun.looksF R.prog (PySem.W.boot_heap w.params) s.abs) = some true := by
  intro os
  kernel_rfl
theorem run_s (w : World) : ∀ os : OsState, (HandSHeadRun.endF (HandSHeadRun.stepQ (HandSHeadRun.denQ HandSHeadRun.tabQ) R.prog w) 30000 R.prog w os).map (fun s => HandSHeadRun.seenQ (PySem.W.view R.prog [35]) names (importedModules R.prog.main.body) (fun s => PySem.W.xlAt (PySem.W.view R.prog [35]) [] s && PySem.W.recOk R.records s) s.abs) = some (PySem.W.openGood (PySem.W.view R.prog [35]) names) := by
  intro os
  kernel_rfl
theorem run_o (w : World) : ∀ os : OsState, (HandSHeadRun.endF (HandSHeadRun.stepQ (HandSHeadRun.denQ HandSHeadRun.tabQ) R.prog w) 30000 R.prog w os).map ob = some (hk.val w) := by
  intro os
  kernel_rfl
theorem run (w : World) : HandSHeadRun.RunEq R (PySem.W.view R.prog [35]) hk ob 30000 names w := DL.run_of (run_l w) (run_s w) (run_o w)
end Lw
namespace DL
open PySem L2
local macro_rules | `(tactic| walk_at "dl") => `(tactic| try simp (config := { proj := false }) only [↓ex_mk, ↓nx_mk, ↓rt_mk, ↓bk_mk, ↓ct_mk, ↓xc_mk, ↓u_c, ↓u_op, ↓u_un, ↓u_and, ↓u_or, ↓u_not, ↓u_if, ↓u_anil, ↓u_acons, ↓u_lst, ↓u_lstM, ↓u_tup, ↓u_call, ↓u_sl, ↓u_onone, ↓u_cb, ↓u_mt, ↓u_mt0, ↓u_pass, ↓u_seq, ↓u_set, ↓u_asg, ↓u_drop, ↓u_ret, ↓u_retN, ↓u_ifs, ↓u_brk, ↓u_cnt, ↓u_for, ↓u_gname, ↓u_gsub, ↓u_fs, ↓u_fmt, ↓u_js0, ↓u_js, ↓u_em, ↓u_yes, ↓u_never, ↓u_ref, ↓u_forR, ↓u_star, ↓u_dict, ↓u_dict0, ↓u_dp0, ↓u_dp1, ↓u_forK, ↓u_lock, ↓u_kd, ↓u_fld, ↓u_setF, ↓u_make, ↓u_binL, ↓u_binR, ↓u_inO, ↓u_getO, ↓u_setO, ↓u_augO, ↓u_prp, ↓u_inv, ↓u_meth, ↓u_keys, ↓u_try, ↓u_cm, ↓u_makeV, ↓r_enum, ↓r_own, ↓u_raise, ↓u_tryas, ↓u_ca, ↓u_xf, ↓u_idxC, su_mk,
  ↓r_var, ↓r_test, ↓r_andV, ↓r_orV, ↓r_notV, ↓r_tru, ↓r_frz, ↓r_osome, ↓r_any, ↓r_scr, scr_c, ↓r_rng1, ↓r_rng2, ↓r_fz, wipeD,
  onSome_s, onBl_b, onInt_i, onStr_s, onVar_s, onML_l, onML2_l, onML2_d, onDK_d, fmt_s, fmt_i, tru_n, tru_b, tru_i, tru_s, tru_l, tru_t, tru_r, frz_r, sl_s, sl_l, sl_t, sl_r, add_i, add_s, add_l, add_t, add_rl, add_lr, sub_i, mul_i, div_i, mod_i, pow_i, neg_i, cmp_i, eq_i, eq_s, eq_b, eq_n, eq_l, eq_t, eq_rl, eq_lr, eq_ni, eq_in, eq_ns, eq_sn, eq_nb, eq_bn, eq_is, eq_si,
  ix_l, ix_t, ix_s, ix_ri, ix_rs, in_ss, in_l, in_t, in_ir, in_sr, isB_t, isB_f, ltS_s, gtS_s, sorted_l, keyK_s, keyK_i, u_dget, lenOR_r, listOR_r, isn_n, isn_b, isn_i, isn_s, isn_r, isn_l, isn_t, len_s, len_c, len_l, len_t, len_r, int_i, int_b, min_ii, max_ii, list_l, list_t, list_r, list_c, listM_l, listM_c, listM_t, listM_r, isi_, isi_k, ty_n, ty_b, ty_i, ty_s, ty_l, ty_t, it_s, it_l, it_r, itM_l, itM_d, app_r, rev_r, ends_s, ins_r, set_rs, str_i, str_s, ext_l, pop_r, clr_r, star_l, star_t, star_r, onRef_r, onML3_l, onML3_d, onML3_f, onDR_d, onDR_f, onFK_f, join_l, join_t, join_r, starts_s, r_gtup, r_glst, r_gnil, r_gcons, set_r, items_s, items_l, items_t, rng1_i, rng2_i, fz_r, addM_l, addM_rl, onIns_i, onLst_l, isIns_r, isInsM_i, noF_r, noFM_i, rows_r, lenO_r, listO_r, listOM_r, isCK_i, isCK_l, isC_r, isC_s, isC_i, isC_b, isC_n, isC_l, isC_t, putG_0, putG_1, lk_1, onCl_c, onEnum_l, index_l, strO_r, cmpO_r, pop1_r, tuple_l, tuple_t, divmod_i, upper_s, indexT_t, onExc_e, isE_t, isE_c, isE_v, zip_1,
  List.map_cons, List.map_nil, List.cons_append, List.nil_append, List.length_cons, List.length_nil, List.replicate, List.getElem?_cons_zero, List.getElem?_cons_succ, List.set_cons_zero, List.set_cons_succ, id, decide_eq_true_eq, if_true, if_false, Bool.false_eq_true, reduceIte, Bool.not_true, Bool.not_false, true_and, Nat.reduceAdd, Nat.reduceSub, Int.reduceToNat, Int.toNat_natCast, put_same, put_put, atI_0, atI_1, atI_2, atI_3, atI_4, ixN_40, ixN_41, ixN_42, ixN_43])
abbrev Ret (Q : DK) (E : DX) : DEnds := { nx := fun _ M' => Q .non M', rt := Q, xc := fun x _ M' => E x M' }
/-! ### the reader of draws -/
def Src (M : Mu) (a : Addr) : Prop := ∃ (ns : List Int) (at_ r d : Int), M a = some (.lst [.lst (ns.map D.int), .int at_, .int r, .int d]) ∧ 0 ≤ at_
def SrcTo (a : Addr) (M M' : Mu) : Prop := Src M' a ∧ ∀ b, b ≠ a → M' b = M b
theorem SrcTo.trans {a : Addr} {M M1 M2 : Mu} (h1 : SrcTo a M M1) (h2 : SrcTo a M1 M2) : SrcTo a M M2 := ⟨h2.1, fun b hb => (h2.2 b hb).trans (h1.2 b hb)⟩
theorem SrcTo.refl {a : Addr} {M : Mu} (h : Src M a) : SrcTo a M M := ⟨h, fun _ _ => rfl⟩
theorem src_other {a p : Addr} {M : Mu} {m : MO} (h : Src M a) (hp : M p = none) : Src (put M p m) a ∧ a ≠ p := by
  obtain ⟨ns, t, r, d, e, h0⟩ := h
  have hn : a ≠ p := fun z => by rw [z, hp] at e; cases e
  exact ⟨⟨ns, t, r, d, by rw [put_ne hn]; exact e, h0⟩, hn⟩
def sp_l_begin : DSp := fun ds M Q _ => ∃ (ns : List Int), ds = [.scr ns] ∧ ∀ p M', M p = none → SrcTo p M M' → Q (.ref p) M'
def sp_l_draw : DSp := fun ds M Q _ => ∃ (a : Addr) (n : Int), ds = [.ref a, .int n] ∧ Src M a ∧ 0 < n ∧ n < 1073741824 ∧ ∀ i M', 0 ≤ i → i < n → SrcTo a M M' → Q (.int i) M'
/-- the items of a row of things (a list that may change, too) -/
def rowI (M : Mu) (a : Addr) : D → Option (List D)
  | .ref q => if q = a then none else match M q with
    | some (.lst ds) => some ds
    | _ => none
  | d => itemsD d
theorem rowI_of {M : Mu} {a : Addr} {row : D} {xs : List D} (h : itemsD row = some xs) : rowI M a row = some xs := by
  cases row <;> first | exact h | cases h
theorem rowI_ref {M : Mu} {a q : Addr} {xs : List D} (n : q ≠ a) (h : M q = some (.lst xs)) : rowI M a (.ref q) = some xs := by
  show (if q = a then none else match M q with
    | some (.lst ds) => some ds
    | _ => none) = some xs
  rw [if_neg n, h]
def sp_l_pick : DSp := fun ds M Q _ => ∃ (a : Addr) (row : D) (xs : List D), ds = [.ref a, row] ∧ rowI M a row = some xs ∧ 0 < xs.length ∧ xs.length < 1000000 ∧ Src M a ∧ ∀ d M', d ∈ xs → SrcTo a M M' → Q d M'
theorem draw_ {a : Addr} {n : Int} {M : Mu} {Q : DK} {E : DX} (h : Src M a) (h0 : 0 < n) (h1 : n < 1073741824) (k : ∀ i M', 0 ≤ i → i < n → SrcTo a M M' → Q (.int i) M') : sp_l_draw [.ref a, .int n] M Q E := ⟨a, n, rfl, h, h0, h1, k⟩
theorem pick_ {a : Addr} {row : D} {xs : List D} {M : Mu} {Q : DK} {E : DX} (h : Src M a) (hi : itemsD row = some xs) (h0 : 0 < xs.length) (h1 : xs.length < 1000000) (k : ∀ d M', d ∈ xs → SrcTo a M M' → Q d M') : sp_l_pick [.ref a, row] M Q E := ⟨a, row, xs, rfl, rowI_of hi, h0, h1, h, k⟩
def w_l_begin : DTS := dRet (dLstM (daCons (dCB gList (daCons (dVar 0) (daNil))) (daCons (dC (.int 0)) (daCons (dUn gNeg (dC (.int 1))) (daCons (dC (.int 0)) (daNil))))))
def w_l_draw_c1 : DTS := dSeq (dAsg (dOp gAdd (dOp gIx (dVar 0) (dC (.int 1))) (dC (.int 1))) (dgSub (dVar 0) (dC (.int 1)) gSetA)) (dSeq (dAsg (dUn gNeg (dC (.int 1))) (dgSub (dVar 0) (dC (.int 2)) gSetA)) (dRet (dVar 3)))
def w_l_draw_c2 : DTS := dSeq (dAsg (dOp gAdd (dOp gIx (dVar 0) (dC (.int 3))) (dC (.int 1))) (dgSub (dVar 0) (dC (.int 3)) gSetA)) (dSeq (dIfS (dTest (dOp gGe (dVar 2) (dOp gPow (dC (.int 10)) (dC (.int 18))))) (dSeq (dSet 3 (dOp gMod (dCB gInt1 (daCons (dOp gIx (dVar 0) (dC (.int 2))) (daNil))) (dVar 1))) (dSeq (dAsg (dOp gDiv (dOp gIx (dVar 0) (dC (.int 2))) (dVar 1)) (dgSub (dVar 0) (dC (.int 2)) gSetA)) (dIfS (dAnd (dTest (dOp gGt (dOp gIx (dVar 0) (dC (.int 2))) (dC (.int 0)))) (dTest (dOp gLt (dOp gIx (dVar 0) (dC (.int 3))) (dC (.int 60))))) (dRet (dVar 3)) (dPass)))) (dIfS (dTest (dOp gEq (dOp gIx (dVar 0) (dC (.int 3))) (dC (.int 1)))) (dSeq (dSet 4 (dOp gMod (dCB gInt1 (daCons (dOp gAdd (dOp gAdd (dOp gMul (dVar 2) (dC (.int 48271))) (dOp gMul (dOp gIx (dVar 0) (dC (.int 1))) (dC (.int 7919)))) (dC (.int 12345))) (daNil))) (dC (.int 2147483647)))) (dRet (dOp gMod (dCB gInt1 (daCons (dOp gMod (dCB gInt1 (daCons (dOp gAdd (dOp gMul (dVar 4) (dC (.int 69621))) (dC (.int 101))) (daNil))) (dC (.int 1000003))) (daNil))) (dVar 1)))) (dSeq (dSet 4 (dOp gMod (dCB gInt1 (daCons (dOp gAdd (dOp gAdd (dOp gMul (dVar 2) (dC (.int 16807))) (dOp gMul (dOp gIx (dVar 0) (dC (.int 1))) (dC (.int 104729)))) (dC (.int 54321))) (daNil))) (dC (.int 2147483399)))) (dSet 3 (dOp gMod (dCB gInt1 (daCons (dOp gMod (dCB gInt1 (daCons (dOp gAdd (dOp gMul (dVar 4) (dC (.int 40692))) (dC (.int 211))) (daNil))) (dC (.int 999983))) (daNil))) (dVar 1)))))) (w_l_draw_c1))
def w_l_draw_c3 : DTS := dSeq (dIfS (dTest (dOp gLt (dOp gIx (dVar 0) (dC (.int 2))) (dC (.int 0)))) (dSeq (dAsg (dVar 2) (dgSub (dVar 0) (dC (.int 2)) gSetA)) (dAsg (dC (.int 0)) (dgSub (dVar 0) (dC (.int 3)) gSetA))) (dPass)) (w_l_draw_c2)
def w_l_draw : DTS := dSeq (dIfS (dTest (dOp gGe (dOp gIx (dVar 0) (dC (.int 1))) (dCB gLen (daCons (dOp gIx (dVar 0) (dC (.int 0))) (daNil))))) (dRet (dC (.int 0))) (dPass)) (dSeq (dSet 2 (dOp gIx (dOp gIx (dVar 0) (dC (.int 0))) (dOp gIx (dVar 0) (dC (.int 1))))) (dSeq (dIfS (dTest (dOp gLt (dVar 2) (dC (.int 0)))) (dSet 2 (dOp gSub (dUn gNeg (dC (.int 1))) (dVar 2))) (dPass)) (w_l_draw_c3)))
def w_l_pick : DTS := dRet (dOp gIx (dVar 1) (dCall sp_l_draw (daCons (dVar 0) (daCons (dCB gLen (daCons (dVar 1) (daNil))) (daNil)))))
theorem p_l_begin : ∀ ds M Q E, sp_l_begin ds M Q E → w_l_begin (Ret Q E) (ds.map some ++ List.replicate (1 - 1) none) M := by
  rintro ds M Q E ⟨ns, rfl, hQ⟩
  unfold w_l_begin
  walk_at "dl"
  exact ⟨by decide, fun p hp => hQ p _ hp ⟨⟨ns, 0, -1, 0, put_same, by decide⟩, fun b hb => put_ne hb⟩⟩
theorem src_mk {M M0 : Mu} {a : Addr} {ns : List Int} {t r d : Int} (h : M a = some (.lst [.lst (ns.map D.int), .int t, .int r, .int d])) (h0 : 0 ≤ t) (hb : ∀ b, b ≠ a → M b = M0 b) : SrcTo a M0 M := ⟨⟨ns, t, r, d, h, h0⟩, hb⟩
theorem draw_c1 {a : Addr} {n j : Int} {x4 : Option D} {x2 : Option D} {ns : List Int} {t r d : Int} {M0 M : Mu} {Q : DK} {E : DX} (hM : M a = some (.lst [.lst (ns.map D.int), .int t, .int r, .int d])) (ht : 0 ≤ t) (hb : ∀ b, b ≠ a → M b = M0 b)
    (hj : 0 ≤ j ∧ j < n) (hQ : ∀ i M', 0 ≤ i → i < n → SrcTo a M0 M' → Q (.int i) M') : w_l_draw_c1 (Ret Q E) [some (.ref a), some (.int n), x2, some (.int j), x4] M := by
  unfold w_l_draw_c1
  walk_at "dl"
  try simp only [hM, atI_1]
  walk_at "dl"
  try simp only [hM, atI_1]
  walk_at "dl"
  walk_at "dl"
  try simp only [hM]
  walk_at "dl"
  try simp only [hM]
  walk_at "dl"
  walk_at "dl"
  try simp only [ixN_of (n := 4) (i := 1) (by decide) (by decide), put_same]
  walk_at "dl"
  try simp only [ixN_of (n := 4) (i := 1) (by decide) (by decide), put_same]
  walk_at "dl"
  walk_at "dl"
  try simp only [ixN_of (n := 4) (i := 2) (by decide) (by decide)]
  walk_at "dl"
  try simp only [ixN_of (n := 4) (i := 2) (by decide) (by decide)]
  walk_at "dl"
  walk_at "dl"
  refine hQ j _ hj.1 hj.2 (src_mk put_same (by omega) fun b z => ?_)
  rw [put_ne z, hb b z]
theorem draw_c2 {a : Addr} {n m : Int} {x3 x4 : Option D} {ns : List Int} {t r d : Int} {M0 M : Mu} {Q : DK} {E : DX} (hM : M a = some (.lst [.lst (ns.map D.int), .int t, .int r, .int d])) (ht : 0 ≤ t) (hb : ∀ b, b ≠ a → M b = M0 b)
    (hn : 0 < n ∧ n < 1073741824) (hQ : ∀ i M', 0 ≤ i → i < n → SrcTo a M0 M' → Q (.int i) M') : w_l_draw_c2 (Ret Q E) [some (.ref a), some (.int n), some (.int m), x3, x4] M := by
  have mod : ∀ x : Int, 0 ≤ x % n ∧ x % n < n := fun x => ⟨Int.emod_nonneg _ (by omega), Int.emod_lt_of_pos _ hn.1⟩
  unfold w_l_draw_c2
  walk_at "dl"
  try simp only [hM, atI_3]
  walk_at "dl"
  try simp only [hM, atI_3]
  walk_at "dl"
  walk_at "dl"
  try simp only [hM]
  walk_at "dl"
  try simp only [hM]
  walk_at "dl"
  walk_at "dl"
  try simp only [ixN_of (n := 4) (i := 3) (by decide) (by decide)]
  walk_at "dl"
  try simp only [ixN_of (n := 4) (i := 3) (by decide) (by decide)]
  walk_at "dl"
  walk_at "dl"
  try simp only [put_same, atI_1, atI_2, atI_3]
  walk_at "dl"
  try simp only [put_same, atI_1, atI_2, atI_3]
  walk_at "dl"
  walk_at "dl"
  refine ⟨by unfold CPow; decide, ?_⟩
  by_cases hm : (10 : Int) ^ 18 ≤ m
  · rw [if_pos hm]
    refine ⟨hn.1, ⟨hn.1, hn.2⟩, ?_⟩
    try simp only [ixN_of (n := 4) (i := 2) (by decide) (by decide), put_same, put_put]
    walk_at "dl"
    try simp only [ixN_of (n := 4) (i := 2) (by decide) (by decide), put_same, put_put]
    walk_at "dl"
    walk_at "dl"
    try simp only [put_same, atI_2, atI_3]
    walk_at "dl"
    try simp only [put_same, atI_2, atI_3]
    walk_at "dl"
    walk_at "dl"
    by_cases h1 : 0 < r / n
    · rw [if_pos h1]
      by_cases h2 : d + 1 < 60
      · rw [if_pos h2]
        refine hQ _ _ (mod r).1 (mod r).2 (src_mk put_same ht fun b z => ?_)
        rw [put_ne z, hb b z]
      · rw [if_neg h2]
        refine draw_c1 (M0 := M0) put_same ht (fun b z => by rw [put_ne z, hb b z]) (mod r) hQ
    · rw [if_neg h1]
      exact draw_c1 (M0 := M0) put_same ht (fun b z => by rw [put_ne z, hb b z]) (mod r) hQ
  · rw [if_neg hm]
    have c : ∀ x : Int, 0 < x → x < 2 ^ 64 → ∀ y, CMul y x := fun x h1 h2 y => .inr ⟨by omega, h2⟩
    by_cases h1 : d + 1 = 1
    · rw [if_pos h1]
      refine ⟨c _ (by decide) (by decide) _, c _ (by decide) (by decide) _, by decide, c _ (by decide) (by decide) _, by decide, hn.1, ?_⟩
      refine hQ _ _ (mod _).1 (mod _).2 (src_mk put_same ht fun b z => ?_)
      rw [put_ne z, hb b z]
    · rw [if_neg h1]
      refine ⟨c _ (by decide) (by decide) _, c _ (by decide) (by decide) _, by decide, c _ (by decide) (by decide) _, by decide, hn.1, ?_⟩
      exact draw_c1 (M0 := M0) put_same ht (fun b z => by rw [put_ne z, hb b z]) (mod _) hQ
theorem draw_c3 {a : Addr} {n m : Int} {x3 x4 : Option D} {ns : List Int} {t r d : Int} {M0 M : Mu} {Q : DK} {E : DX} (hM : M a = some (.lst [.lst (ns.map D.int), .int t, .int r, .int d])) (ht : 0 ≤ t) (hb : ∀ b, b ≠ a → M b = M0 b)
    (hn : 0 < n ∧ n < 1073741824) (hQ : ∀ i M', 0 ≤ i → i < n → SrcTo a M0 M' → Q (.int i) M') : w_l_draw_c3 (Ret Q E) [some (.ref a), some (.int n), some (.int m), x3, x4] M := by
  unfold w_l_draw_c3
  walk_at "dl"
  try simp only [hM, atI_2]
  walk_at "dl"
  try simp only [hM, atI_2]
  walk_at "dl"
  walk_at "dl"
  by_cases h1 : r < 0
  · rw [if_pos h1]
    try simp only [hM]
    walk_at "dl"
    try simp only [hM]
    walk_at "dl"
    walk_at "dl"
    try simp only [ixN_of (n := 4) (i := 2) (by decide) (by decide), put_same]
    walk_at "dl"
    try simp only [ixN_of (n := 4) (i := 2) (by decide) (by decide), put_same]
    walk_at "dl"
    walk_at "dl"
    try simp only [ixN_of (n := 4) (i := 3) (by decide) (by decide)]
    walk_at "dl"
    try simp only [ixN_of (n := 4) (i := 3) (by decide) (by decide)]
    walk_at "dl"
    exact draw_c2 (M0 := M0) put_same ht (fun b z => by rw [put_ne z, hb b z]) hn hQ
  · rw [if_neg h1]
    exact draw_c2 (M0 := M0) hM ht hb hn hQ
theorem p_l_draw : ∀ ds M Q E, sp_l_draw ds M Q E → w_l_draw (Ret Q E) (ds.map some ++ List.replicate (5 - 2) none) M := by
  rintro ds M Q E ⟨a, n, rfl, ⟨ns, t, r, d, hM, ht⟩, h0, h1, hQ⟩
  unfold w_l_draw
  walk_at "dl"
  try simp only [hM, atI_1]
  walk_at "dl"
  try simp only [hM, atI_1]
  walk_at "dl"
  walk_at "dl"
  try simp only [hM, atI_0]
  walk_at "dl"
  try simp only [hM, atI_0]
  walk_at "dl"
  walk_at "dl"
  try simp only [List.length_map]
  walk_at "dl"
  try simp only [List.length_map]
  walk_at "dl"
  by_cases hl : (ns.length : Int) ≤ t
  · rw [if_pos hl]
    exact hQ 0 M (by decide) h0 (src_mk hM ht fun _ _ => rfl)
  · rw [if_neg hl]
    try simp only [hM, atI_0]
    walk_at "dl"
    try simp only [hM, atI_0]
    walk_at "dl"
    walk_at "dl"
    try simp only [hM, atI_1]
    walk_at "dl"
    try simp only [hM, atI_1]
    walk_at "dl"
    walk_at "dl"
    obtain ⟨x, _, e, _⟩ := atI_is (xs := ns) ht (by omega)
    try simp only [atI_map, e, Option.map_some]
    walk_at "dl"
    try simp only [atI_map, e, Option.map_some]
    walk_at "dl"
    walk_at "dl"
    by_cases hx : x < 0
    · rw [if_pos hx]
      exact draw_c3 hM ht (fun _ _ => rfl) ⟨h0, h1⟩ hQ
    · rw [if_neg hx]
      exact draw_c3 hM ht (fun _ _ => rfl) ⟨h0, h1⟩ hQ
theorem p_l_pick : ∀ ds M Q E, sp_l_pick ds M Q E → w_l_pick (Ret Q E) (ds.map some ++ List.replicate (2 - 2) none) M := by
  rintro ds M Q E ⟨a, row, xs, rfl, hi, h0, h1, hs, hQ⟩
  unfold w_l_pick
  walk_at "dl"
  cases row with
  | lst ds =>
    have hi : some ds = some xs := hi
    cases hi
    walk_at "dl"
    refine draw_ hs (by omega) (by omega) fun i M' i0 i1 hM' => ?_
    obtain ⟨x, hx, e, _⟩ := atI_is (xs := xs) i0 i1
    walk_at "dl"
    try simp only [e]
    walk_at "dl"
    try simp only [e]
    walk_at "dl"
    exact hQ x M' hx hM'
  | tup ds =>
    have hi : some ds = some xs := hi
    cases hi
    walk_at "dl"
    refine draw_ hs (by omega) (by omega) fun i M' i0 i1 hM' => ?_
    obtain ⟨x, hx, e, _⟩ := atI_is (xs := xs) i0 i1
    walk_at "dl"
    try simp only [e]
    walk_at "dl"
    try simp only [e]
    walk_at "dl"
    exact hQ x M' hx hM'
  | str z =>
    have hi : some (z.map fun c => D.str [c]) = some xs := hi
    cases hi
    rw [List.length_map] at h0 h1
    walk_at "dl"
    refine ⟨by omega, ?_⟩
    refine draw_ hs (by omega) (by omega) fun i M' i0 i1 hM' => ?_
    obtain ⟨x, hx, e, _⟩ := atI_is (xs := z) i0 i1
    walk_at "dl"
    try simp only [e]
    walk_at "dl"
    try simp only [e]
    walk_at "dl"
    exact ⟨by omega, hQ (.str [x]) M' (List.mem_map.mpr ⟨x, hx, rfl⟩) hM'⟩
  | ref q =>
    have hi : (if q = a then none else match M q with
      | some (.lst ds) => some ds
      | _ => none) = some xs := hi
    split at hi
    · cases hi
    · rename_i n
      split at hi
      · rename_i ds e
        cases hi
        try simp only [e]
        walk_at "dl"
        try simp only [e]
        walk_at "dl"
        refine draw_ hs (by omega) (by omega) fun i M' i0 i1 hM' => ?_
        obtain ⟨x, hx, e2, _⟩ := atI_is (xs := xs) i0 i1
        have e3 : M' q = some (.lst xs) := by rw [hM'.2 q n]; exact e
        walk_at "dl"
        try simp only [e3, e2]
        walk_at "dl"
        try simp only [e3, e2]
        walk_at "dl"
        exact hQ x M' hx hM'
      · cases hi
  | _ => cases hi
end DL

namespace DL
open PySem L2
local macro_rules | `(tactic| walk_at "dl") => `(tactic| try simp (config := { proj := false }) only [↓ex_mk, ↓nx_mk, ↓rt_mk, ↓bk_mk, ↓ct_mk, ↓xc_mk, ↓u_c, ↓u_op, ↓u_un, ↓u_and, ↓u_or, ↓u_not, ↓u_if, ↓u_anil, ↓u_acons, ↓u_lst, ↓u_lstM, ↓u_tup, ↓u_call, ↓u_sl, ↓u_onone, ↓u_cb, ↓u_mt, ↓u_mt0, ↓u_pass, ↓u_seq, ↓u_set, ↓u_asg, ↓u_drop, ↓u_ret, ↓u_retN, ↓u_ifs, ↓u_brk, ↓u_cnt, ↓u_for, ↓u_gname, ↓u_gsub, ↓u_fs, ↓u_fmt, ↓u_js0, ↓u_js, ↓u_em, ↓u_yes, ↓u_never, ↓u_ref, ↓u_forR, ↓u_star, ↓u_dict, ↓u_dict0, ↓u_dp0, ↓u_dp1, ↓u_forK, ↓u_lock, ↓u_kd, ↓u_fld, ↓u_setF, ↓u_make, ↓u_binL, ↓u_binR, ↓u_inO, ↓u_getO, ↓u_setO, ↓u_augO, ↓u_prp, ↓u_inv, ↓u_meth, ↓u_keys, ↓u_try, ↓u_cm, ↓u_makeV, ↓r_enum, ↓r_own, ↓u_raise, ↓u_tryas, ↓u_ca, ↓u_xf, ↓u_idxC, su_mk,
  ↓r_var, ↓r_test, ↓r_andV, ↓r_orV, ↓r_notV, ↓r_tru, ↓r_frz, ↓r_osome, ↓r_any, ↓r_scr, scr_c, ↓r_rng1, ↓r_rng2, ↓r_fz, wipeD,
  onSome_s, onBl_b, onInt_i, onStr_s, onVar_s, onML_l, onML2_l, onML2_d, onDK_d, fmt_s, fmt_i, tru_n, tru_b, tru_i, tru_s, tru_l, tru_t, tru_r, frz_r, sl_s, sl_l, sl_t, sl_r, add_i, add_s, add_l, add_t, add_rl, add_lr, sub_i, mul_i, div_i, mod_i, pow_i, neg_i, cmp_i, eq_i, eq_s, eq_b, eq_n, eq_l, eq_t, eq_rl, eq_lr, eq_ni, eq_in, eq_ns, eq_sn, eq_nb, eq_bn, eq_is, eq_si,
  ix_l, ix_t, ix_s, ix_ri, ix_rs, in_ss, in_l, in_t, in_ir, in_sr, isB_t, isB_f, ltS_s, gtS_s, sorted_l, keyK_s, keyK_i, u_dget, lenOR_r, listOR_r, isn_n, isn_b, isn_i, isn_s, isn_r, isn_l, isn_t, len_s, len_c, len_l, len_t, len_r, int_i, int_b, min_ii, max_ii, list_l, list_t, list_r, list_c, listM_l, listM_c, listM_t, listM_r, isi_, isi_k, ty_n, ty_b, ty_i, ty_s, ty_l, ty_t, it_s, it_l, it_r, itM_l, itM_d, app_r, rev_r, ends_s, ins_r, set_rs, str_i, str_s, ext_l, pop_r, clr_r, star_l, star_t, star_r, onRef_r, onML3_l, onML3_d, onML3_f, onDR_d, onDR_f, onFK_f, join_l, join_t, join_r, starts_s, r_gtup, r_glst, r_gnil, r_gcons, set_r, items_s, items_l, items_t, rng1_i, rng2_i, fz_r, addM_l, addM_rl, onIns_i, onLst_l, isIns_r, isInsM_i, noF_r, noFM_i, rows_r, lenO_r, listO_r, listOM_r, isCK_i, isCK_l, isC_r, isC_s, isC_i, isC_b, isC_n, isC_l, isC_t, putG_0, putG_1, lk_1, onCl_c, onEnum_l, index_l, strO_r, cmpO_r, pop1_r, tuple_l, tuple_t, divmod_i, upper_s, indexT_t, onExc_e, isE_t, isE_c, isE_v, zip_1,
  List.map_cons, List.map_nil, List.cons_append, List.nil_append, List.length_cons, List.length_nil, List.replicate, List.getElem?_cons_zero, List.getElem?_cons_succ, List.set_cons_zero, List.set_cons_succ, id, decide_eq_true_eq, if_true, if_false, Bool.false_eq_true, reduceIte, Bool.not_true, Bool.not_false, true_and, Nat.reduceAdd, Nat.reduceSub, Int.reduceToNat, Int.toNat_natCast, put_same, put_put, atI_0, atI_1, atI_2, atI_3, atI_4, ixN_40, ixN_41, ixN_42, ixN_43])
/-! ### equal, and of the same kinds -/
mutual
def eqD : D → D → Bool
  | .non, .non => true
  | .bl a, .bl b => a == b
  | .int a, .int b => a == b
  | .str a, .str b => a == b
  | .lst a, .lst b => eqDs a b
  | .tup a, .tup b => eqDs a b
  | .ref a, .ref b => a == b
  | .ty a, .ty b => a == b
  | .scr a, .scr b => a == b
  | .cl a, .cl b => decide (a = b)
  | .exc a b c e f, .exc a' b' c' e' f' => decide (a = a') && (decide (b = b') && (decide (c = c') && (decide (e = e') && eqDs f f')))
  | _, _ => false
def eqDs : List D → List D → Bool
  | [], [] => true
  | a :: as, b :: bs => eqD a b && eqDs as bs
  | _, _ => false
end
mutual
theorem eqD_refl : ∀ d : D, eqD d d = true
  | .non => rfl
  | .bl a => by simp [eqD]
  | .int a => by simp [eqD]
  | .str a => by simp [eqD]
  | .ref a => by simp [eqD]
  | .ty a => by simp [eqD]
  | .scr a => by simp [eqD]
  | .cl a => by simp [eqD]
  | .exc a b c e f => by unfold eqD; rw [eqDs_refl f]; simp
  | .lst a => by unfold eqD; exact eqDs_refl a
  | .tup a => by unfold eqD; exact eqDs_refl a
theorem eqDs_refl : ∀ d : List D, eqDs d d = true
  | [] => rfl
  | a :: as => by unfold eqDs; rw [eqD_refl a, eqDs_refl as]; rfl
end
mutual
theorem eqD_eq : ∀ {a b : D}, eqD a b = true → a = b
  | .non, b, h => by cases b <;> first | rfl | cases h
  | .bl a, b, h => by cases b <;> first | (rw [show a = _ from eq_of_beq h]) | cases h
  | .int a, b, h => by cases b <;> first | (rw [show a = _ from eq_of_beq h]) | cases h
  | .str a, b, h => by cases b <;> first | (rw [show a = _ from eq_of_beq h]) | cases h
  | .ref a, b, h => by cases b <;> first | (rw [show a = _ from eq_of_beq h]) | cases h
  | .ty a, b, h => by cases b <;> first | (rw [show a = _ from eq_of_beq h]) | cases h
  | .scr a, b, h => by cases b <;> first | (rw [show a = _ from eq_of_beq h]) | cases h
  | .cl a, b, h => by cases b <;> first | (rw [show a = _ from of_decide_eq_true h]) | cases h
  | .exc a b c e f, y, h => by
    cases y with
    | exc a' b' c' e' f' =>
      unfold eqD at h
      simp only [Bool.and_eq_true, decide_eq_true_iff] at h
      obtain ⟨h1, h2, h3, h4, h5⟩ := h
      rw [h1, h2, h3, h4, eqDs_eq h5]
    | _ => cases h
  | .lst a, b, h => by cases b <;> first | (rw [show a = _ from eqDs_eq h]) | cases h
  | .tup a, b, h => by cases b <;> first | (rw [show a = _ from eqDs_eq h]) | cases h
theorem eqDs_eq : ∀ {a b : List D}, eqDs a b = true → a = b
  | [], b, h => by cases b <;> first | rfl | cases h
  | a :: as, b, h => by
    cases b with
    | nil => cases h
    | cons b bs =>
      obtain ⟨h1, h2⟩ := ba (show (eqD a b && eqDs as bs) = true from h)
      rw [eqD_eq h1, eqDs_eq h2]
end
mutual
/-- plain data of that depth, lists of bounded length -/
def pln : Nat → D → Bool
  | _, .ref _ => false
  | _, .ty _ => false
  | _, .scr _ => false
  | _, .cl _ => false
  | _, .exc _ _ _ _ _ => false
  | n, .lst ds => decide (ds.length ≤ 1000000) && plnIn n ds
  | n, .tup ds => decide (ds.length ≤ 1000000) && plnIn n ds
  | _, _ => true
def plnIn : Nat → List D → Bool
  | 0, _ => false
  | n + 1, ds => plns n ds
def plns : Nat → List D → Bool
  | _, [] => true
  | n, d :: ds => pln n d && plns n ds
end
theorem plns_all : ∀ {n : Nat} {ds : List D}, plns n ds = true → ∀ d ∈ ds, pln n d = true
  | n, [], _, d, hd => by cases hd
  | n, e :: ds, h, d, hd => by
    obtain ⟨h1, h2⟩ := ba (show (pln n e && plns n ds) = true from by unfold plns at h; exact h)
    rcases List.mem_cons.mp hd with rfl | hd
    · exact h1
    · exact plns_all h2 d hd
theorem plns_of : ∀ {n : Nat} {ds : List D}, (∀ d ∈ ds, pln n d = true) → plns n ds = true
  | n, [], _ => by unfold plns; rfl
  | n, e :: ds, h => by
    unfold plns
    rw [h e (List.mem_cons_self ..), plns_of fun d hd => h d (List.mem_cons_of_mem _ hd)]
    rfl
def isPl : D → Bool
  | .ref _ => false
  | .ty _ => false
  | .scr _ => false
  | .cl _ => false
  | .exc _ _ _ _ _ => false
  | _ => true
theorem pln_is {n : Nat} {d : D} (h : pln n d = true) : isPl d = true := by
  cases d <;> first | rfl | (unfold pln at h; cases h)
/-- the data, lists that may change read as they are -/
def vw (M : Mu) : Nat → D → D
  | n + 1, .ref a => (match M a with
    | some (.lst ds) => .lst (ds.map (vw M n))
    | _ => .ref a)
  | n + 1, .lst ds => .lst (ds.map (vw M n))
  | n + 1, .tup ds => .tup (ds.map (vw M n))
  | _, d => d
theorem vw_pln (M : Mu) : ∀ {n : Nat} {d : D}, pln n d = true → vw M n d = d
  | 0, d, h => by cases d <;> rfl
  | n + 1, d, h => by
    have go : ∀ ds : List D, plnIn (n + 1) ds = true → ds.map (vw M n) = ds := fun ds hp => by
      have q := plns_all (show plns n ds = true by unfold plnIn at hp; exact hp)
      calc ds.map (vw M n) = ds.map id := List.map_congr_left fun d hd => vw_pln M (q d hd)
        _ = ds := List.map_id _
    cases d with
    | ref a => unfold pln at h; cases h
    | lst ds => show D.lst (ds.map (vw M n)) = _; rw [go ds (ba (show (decide (ds.length ≤ 1000000) && plnIn (n + 1) ds) = true by unfold pln at h; exact h)).2]
    | tup ds => show D.tup (ds.map (vw M n)) = _; rw [go ds (ba (show (decide (ds.length ≤ 1000000) && plnIn (n + 1) ds) = true by unfold pln at h; exact h)).2]
    | _ => rfl
def sp_l_same (n : Nat) : DSp := fun ds M Q _ => ∃ x y, ds = [x, y] ∧ pln n (vw M n x) = true ∧ pln n (vw M n y) = true ∧ Q (.bl (eqD (vw M n x) (vw M n y))) M
def rowOf (M : Mu) : D → Option (List D)
  | .lst ds => some ds
  | .tup ds => some ds
  | .ref a => (match M a with
    | some (.lst ds) => some ds
    | _ => none)
  | _ => none
def sp_l_same_row (n : Nat) : DSp := fun ds M Q _ => ∃ x y xs ys, ds = [x, y] ∧ rowOf M x = some xs ∧ rowOf M y = some ys ∧ pln n (vw M n x) = true ∧ pln n (vw M n y) = true ∧ Q (.bl (eqDs (xs.map (vw M (n - 1))) (ys.map (vw M (n - 1))))) M
def w_l_same_row_b1 (n : Nat) : DTS := dIfS (dNot (dTru (dCall (sp_l_same n) (daCons (dOp gIx (dVar 0) (dVar 2)) (daCons (dOp gIx (dVar 1) (dVar 2)) (daNil)))))) (dRet (dC (.bl false))) (dPass)
def w_l_same_row (n : Nat) : DTS := dSeq (dIfS (dTest (dOp gNe (dCB gLen (daCons (dVar 0) (daNil))) (dCB gLen (daCons (dVar 1) (daNil))))) (dRet (dC (.bl false))) (dPass)) (dSeq (dFor (diRng1 (daCons (dCB gLen (daCons (dVar 1) (daNil))) (daNil))) (dgName 2) (w_l_same_row_b1 n)) (dRet (dC (.bl true))))
def w_l_same (n : Nat) : DTS := dSeq (dIfS (dTest (dOp gIsN (dVar 1) (dC .non))) (dRet (dOp gIsN (dVar 0) (dC .non))) (dPass)) (dSeq (dIfS (dTru (dCB gIsi (daCons (dVar 1) (daCons (dC (.ty "bool")) (daNil))))) (dRet (dAndV (dCB gIsi (daCons (dVar 0) (daCons (dC (.ty "bool")) (daNil)))) (dOp gEq (dVar 0) (dVar 1)))) (dPass)) (dSeq (dIfS (dTru (dCB gIsi (daCons (dVar 1) (daCons (dC (.ty "int")) (daNil))))) (dRet (dAndV (dCB gIsi (daCons (dVar 0) (daCons (dC (.ty "int")) (daNil)))) (dAndV (dNotV (dCB gIsi (daCons (dVar 0) (daCons (dC (.ty "bool")) (daNil))))) (dOp gEq (dVar 0) (dVar 1))))) (dPass)) (dSeq (dIfS (dTru (dCB gIsi (daCons (dVar 1) (daCons (dC (.ty "str")) (daNil))))) (dRet (dAndV (dCB gIsi (daCons (dVar 0) (daCons (dC (.ty "str")) (daNil)))) (dOp gEq (dVar 0) (dVar 1)))) (dPass)) (dSeq (dIfS (dTru (dCB gIsi (daCons (dVar 1) (daCons (dC (.ty "list")) (daNil))))) (dRet (dAndV (dCB gIsi (daCons (dVar 0) (daCons (dC (.ty "list")) (daNil)))) (dCall (sp_l_same_row n) (daCons (dVar 0) (daCons (dVar 1) (daNil)))))) (dPass)) (dRet (dAndV (dCB gIsi (daCons (dVar 0) (daCons (dC (.ty "tuple")) (daNil)))) (dCall (sp_l_same_row n) (daCons (dVar 0) (daCons (dVar 1) (daNil))))))))))
theorem eqDs_len : ∀ {xs ys : List D}, xs.length ≠ ys.length → eqDs xs ys = false
  | [], [], h => absurd rfl h
  | [], _ :: _, _ => rfl
  | _ :: _, [], _ => rfl
  | x :: xs, y :: ys, h => by
    unfold eqDs
    rw [eqDs_len (fun e => h (by rw [List.length_cons, List.length_cons, e])), Bool.and_false]
theorem eqDs_take : ∀ {xs ys : List D} {k : Nat} {a b : D}, xs[k]? = some a → ys[k]? = some b → eqDs (xs.take (k + 1)) (ys.take (k + 1)) = (eqDs (xs.take k) (ys.take k) && eqD a b)
  | [], _, k, _, _, h, _ => by cases h
  | _ :: _, [], k, _, _, _, h => by cases h
  | x :: xs, y :: ys, 0, a, b, h1, h2 => by
    cases h1; cases h2
    simp [eqDs]
  | x :: xs, y :: ys, k + 1, a, b, h1, h2 => by
    rw [List.take_succ_cons, List.take_succ_cons, List.take_succ_cons, List.take_succ_cons]
    unfold eqDs
    rw [eqDs_take (k := k) (by simpa using h1) (by simpa using h2), Bool.and_assoc]
theorem eqDs_ne : ∀ {xs ys : List D} {k : Nat} {a b : D}, xs[k]? = some a → ys[k]? = some b → eqD a b = false → eqDs xs ys = false
  | [], _, k, _, _, h, _, _ => by cases h
  | _ :: _, [], k, _, _, _, h, _ => by cases h
  | x :: xs, y :: ys, 0, a, b, h1, h2, h => by
    cases h1; cases h2
    unfold eqDs
    rw [h, Bool.false_and]
  | x :: xs, y :: ys, k + 1, a, b, h1, h2, h => by
    unfold eqDs
    rw [eqDs_ne (k := k) (by simpa using h1) (by simpa using h2) h, Bool.and_false]
theorem row_len {M : Mu} {x : D} {xs : List D} {Q : DK} (h : rowOf M x = some xs) (q : Q (.int xs.length) M) : gLen [x] M Q := by
  cases x with
  | lst ds => cases h; exact q
  | tup ds => cases h; exact q
  | ref a =>
    show (match M a with
      | some (.lst ds) => Q (.int ds.length) M
      | some (.dK kvs) => Q (.int kvs.length) M
      | _ => False)
    have h2 : (match M a with
      | some (.lst ds) => some ds
      | _ => none) = some xs := h
    split at h2
    · rename_i ds e; cases h2; rw [e]; exact q
    · cases h2
  | _ => cases h
theorem row_ix {M : Mu} {x : D} {xs : List D} {Q : DK} {k : Nat} {a : D} (h : rowOf M x = some xs) (e : xs[k]? = some a) (q : Q a M) : gIx x (.int (k : Int)) M Q := by
  have hk := (List.getElem?_eq_some_iff.mp e).1
  have e2 : atI xs (k : Int) = some a := by rw [atI_nat hk, ← List.getElem?_eq_getElem hk, e]
  cases x with
  | lst ds => cases h; show (match atI xs (k : Int) with | some d => Q d M | none => False); rw [e2]; exact q
  | tup ds => cases h; show (match atI xs (k : Int) with | some d => Q d M | none => False); rw [e2]; exact q
  | ref b =>
    show (match M b with
      | some (.lst ds) => (match atI ds (k : Int) with | some d => Q d M | none => False)
      | some (.dK kvs) => (match lookK kvs (.inl (k : Int)) with | some d => Q d M | none => False)
      | some (.fK kvs _) => (match lookK kvs (.inl (k : Int)) with | some d => Q d M | none => False)
      | _ => False)
    have h2 : (match M b with
      | some (.lst ds) => some ds
      | _ => none) = some xs := h
    split at h2
    · rename_i ds e3; cases h2; rw [e3]; show (match atI xs (k : Int) with | some d => Q d M | none => False); rw [e2]; exact q
    · cases h2
  | _ => cases h
theorem row_vw {M : Mu} {n : Nat} {x : D} {xs : List D} (h : rowOf M x = some xs) : vw M (n + 1) x = .lst (xs.map (vw M n)) ∨ vw M (n + 1) x = .tup (xs.map (vw M n)) := by
  cases x with
  | lst ds => cases h; exact .inl rfl
  | tup ds => cases h; exact .inr rfl
  | ref b =>
    have h2 : (match M b with
      | some (.lst ds) => some ds
      | _ => none) = some xs := h
    split at h2
    · rename_i ds e3
      cases h2
      refine .inl ?_
      show (match M b with
        | some (.lst ds) => D.lst (ds.map (vw M n))
        | _ => .ref b) = _
      rw [e3]
    · cases h2
  | _ => cases h
theorem row_pln {M : Mu} {n : Nat} {x : D} {xs : List D} (h : rowOf M x = some xs) (p : pln (n + 1) (vw M (n + 1) x) = true) : xs.length ≤ 1000000 ∧ ∀ d ∈ xs, pln n (vw M n d) = true := by
  have k : ∀ ds : List D, (decide (ds.length ≤ 1000000) && plnIn (n + 1) ds) = true → ds = xs.map (vw M n) → xs.length ≤ 1000000 ∧ ∀ d ∈ xs, pln n (vw M n d) = true := fun ds hp e => by
    obtain ⟨p1, p2⟩ := ba hp
    have p1 := of_decide_eq_true p1
    rw [e, List.length_map] at p1
    refine ⟨p1, fun d hd => plns_all (show plns n ds = true by unfold plnIn at p2; exact p2) _ ?_⟩
    rw [e]; exact List.mem_map_of_mem hd
  rcases row_vw (n := n) h with e | e
  · rw [e] at p; unfold pln at p; exact k _ p rfl
  · rw [e] at p; unfold pln at p; exact k _ p rfl
theorem p_l_same_row (n : Nat) : ∀ ds M Q E, sp_l_same_row (n + 1) ds M Q E → w_l_same_row n (Ret Q E) (ds.map some ++ List.replicate (3 - 2) none) M := by
  rintro ds M Q E ⟨x, y, xs, ys, rfl, rx, ry, px, py, hQ⟩
  obtain ⟨lx, qx⟩ := row_pln rx px
  obtain ⟨ly, qy⟩ := row_pln ry py
  unfold w_l_same_row
  simp only [dSeq, dIfS, dTest, dOp, dCB, daCons, daNil, dVar, dRet, dC, dPass, dFor, diRng1, List.map_cons, List.map_nil, List.cons_append, List.nil_append, List.replicate, List.getElem?_cons_zero, List.getElem?_cons_succ, Nat.reduceSub]
  refine row_len rx (row_len ry ?_)
  simp only [gEqN]
  by_cases hl : xs.length = ys.length
  · have e : (!decide ((xs.length : Int) = (ys.length : Int))) = false := by simp [hl]
    rw [e]
    simp only [Bool.false_eq_true, if_false]
    refine row_len ry ?_
    refine ⟨by omega, by omega, ?_⟩
    rw [Int.toNat_natCast]
    refine wFor_by (fun i τ M' => M' = M ∧ (∃ z, τ = [some x, some y, z]) ∧ eqDs ((xs.take i).map (vw M n)) ((ys.take i).map (vw M n)) = true) ⟨rfl, ⟨none, rfl⟩, rfl⟩ ?_ ?_
    · rintro i d τ M' hd ⟨rfl, ⟨z, rfl⟩, he⟩ nxt hn
      obtain ⟨rfl, hi⟩ := upTo_at hd
      rw [Int.zero_add]
      have ex := List.getElem?_eq_getElem (l := xs) (i := i) (by omega)
      have ey := List.getElem?_eq_getElem (l := ys) (i := i) hi
      unfold w_l_same_row_b1
      simp only [dgName, dIfS, dNot, dTru, dCall, dOp, daCons, daNil, dVar, dRet, dC, dPass, List.set_cons_zero, List.set_cons_succ, List.getElem?_cons_zero, List.getElem?_cons_succ]
      refine row_ix rx ex (row_ix ry ey ⟨_, _, rfl, qx _ (List.getElem_mem _), qy _ (List.getElem_mem _), ?_⟩)
      simp only [truD]
      have ex2 : (xs.map (vw M' n))[i]? = some (vw M' n xs[i]) := by rw [List.getElem?_map, ex]; rfl
      have ey2 : (ys.map (vw M' n))[i]? = some (vw M' n ys[i]) := by rw [List.getElem?_map, ey]; rfl
      cases e : eqD (vw M' n xs[i]) (vw M' n ys[i]) with
      | true => exact hn _ _ ⟨rfl, ⟨_, rfl⟩, by rw [List.map_take, List.map_take] at he ⊢; rw [eqDs_take ex2 ey2, he, e]; rfl⟩
      | false =>
        show Q (.bl false) _
        rw [Nat.add_sub_cancel, eqDs_ne ex2 ey2 e] at hQ
        exact hQ
    · rintro τ M' ⟨rfl, ⟨z, rfl⟩, he⟩
      rw [upTo_len, List.take_of_length_le (by omega), List.take_of_length_le (by omega)] at he
      rw [Nat.add_sub_cancel, he] at hQ
      exact hQ
  · have e : (!decide ((xs.length : Int) = (ys.length : Int))) = true := by
      rw [Bool.not_eq_true', decide_eq_false_iff_not]; omega
    rw [e]
    simp only [if_true]
    rw [eqDs_len (by rw [List.length_map, List.length_map]; exact hl)] at hQ
    exact hQ
inductive Vk (M : Mu) : Nat → D → D → Prop where
  | non {n : Nat} : Vk M n .non .non
  | bl {n : Nat} (b : Bool) : Vk M n (.bl b) (.bl b)
  | int {n : Nat} (b : Int) : Vk M n (.int b) (.int b)
  | str {n : Nat} (b : Tx) : Vk M n (.str b) (.str b)
  | lst {m : Nat} (ds : List D) : Vk M (m + 1) (.lst ds) (.lst (ds.map (vw M m)))
  | tup {m : Nat} (ds : List D) : Vk M (m + 1) (.tup ds) (.tup (ds.map (vw M m)))
  | ref {m : Nat} (a : Addr) (ds : List D) (h : M a = some (.lst ds)) : Vk M (m + 1) (.ref a) (.lst (ds.map (vw M m)))
theorem vk_of {M : Mu} {n : Nat} {x : D} (p : pln n (vw M n x) = true) : Vk M n x (vw M n x) := by
  cases n with
  | zero =>
    cases x with
    | non => exact .non
    | bl b => exact .bl b
    | int b => exact .int b
    | str b => exact .str b
    | lst ds => have q := (ba (show (decide (ds.length ≤ 1000000) && plnIn 0 ds) = true from by have := p; unfold vw pln at this; exact this)).2; unfold plnIn at q; cases q
    | tup ds => have q := (ba (show (decide (ds.length ≤ 1000000) && plnIn 0 ds) = true from by have := p; unfold vw pln at this; exact this)).2; unfold plnIn at q; cases q
    | _ => unfold vw pln at p; cases p
  | succ m =>
    cases x with
    | non => exact .non
    | bl b => exact .bl b
    | int b => exact .int b
    | str b => exact .str b
    | lst ds => exact .lst ds
    | tup ds => exact .tup ds
    | ref a =>
      have e : vw M (m + 1) (.ref a) = (match M a with
        | some (.lst ds) => .lst (ds.map (vw M m))
        | _ => .ref a) := rfl
      rw [e] at p ⊢
      split at p
      · rename_i ds h; exact .ref a ds h
      · unfold pln at p; cases p
    | _ => unfold vw pln at p; cases p
theorem ty_rl {M : Mu} {a : Addr} {ds : List D} (h : M a = some (.lst ds)) : tyD M (.ref a) = some "list" := by
  show (match M a with
    | some (.lst _) => some "list"
    | some (.dK _) => some "dict"
    | _ => none) = _
  rw [h]
theorem row_rl {M : Mu} {a : Addr} {ds : List D} (h : M a = some (.lst ds)) : rowOf M (.ref a) = some ds := by
  show (match M a with
    | some (.lst ds) => some ds
    | _ => none) = _
  rw [h]
theorem p_l_same (n : Nat) : ∀ ds M Q E, sp_l_same n ds M Q E → w_l_same n (Ret Q E) (ds.map some ++ List.replicate (2 - 2) none) M := by
  rintro ds M Q E ⟨x, y, rfl, px, py, hQ⟩
  have kx := vk_of px
  have ky := vk_of py
  have px0 := px
  have py0 := py
  unfold w_l_same
  generalize vw M n x = x' at kx px hQ
  generalize vw M n y = y' at ky py hQ
  cases ky with
  | non =>
    walk_at "dl"
    cases kx <;> exact hQ
  | bl b =>
    walk_at "dl"
    try simp only [show isaB "bool" "bool" = true by decide]
    walk_at "dl"
    try simp only [show isaB "bool" "bool" = true by decide]
    walk_at "dl"
    refine ⟨by decide, ?_⟩
    cases kx <;> first
      | ((walk_at "dl"); refine ⟨by decide, ?_⟩; (try simp only [show isaB "bool" "bool" = true by decide]); (walk_at "dl"); rename_i a; rw [show decide (a = b) = (a == b) by cases a <;> cases b <;> rfl]; exact hQ)
      | ((walk_at "dl"); refine ⟨by decide, ?_⟩; exact hQ)
      | (rename_i hm; (try simp only [ty_rl hm]); (walk_at "dl"); refine ⟨by decide, ?_⟩; exact hQ)
  | int b =>
    walk_at "dl"
    refine ⟨by decide, ?_⟩
    try simp only [show isaB "int" "bool" = false by decide, show isaB "int" "int" = true by decide]
    walk_at "dl"
    try simp only [show isaB "int" "bool" = false by decide, show isaB "int" "int" = true by decide]
    walk_at "dl"
    refine ⟨by decide, ?_⟩
    cases kx <;> first
      | ((walk_at "dl"); refine ⟨by decide, ?_⟩; exact hQ)
      | ((walk_at "dl"); refine ⟨by decide, ?_⟩; (try simp only [show isaB "int" "int" = true by decide, show isaB "bool" "int" = true by decide]); (walk_at "dl"); refine ⟨by decide, ?_⟩; (try simp only [show isaB "int" "bool" = false by decide, show isaB "bool" "bool" = true by decide, Bool.not_false, Bool.not_true]); (walk_at "dl"); exact hQ)
      | (rename_i hm; (try simp only [ty_rl hm]); (walk_at "dl"); refine ⟨by decide, ?_⟩; exact hQ)
  | str b =>
    walk_at "dl"
    refine ⟨by decide, ?_⟩
    try simp only [show isaB "str" "bool" = false by decide, show isaB "str" "int" = false by decide, show isaB "str" "str" = true by decide]
    walk_at "dl"
    try simp only [show isaB "str" "bool" = false by decide, show isaB "str" "int" = false by decide, show isaB "str" "str" = true by decide]
    walk_at "dl"
    refine ⟨by decide, by decide, ?_⟩
    cases kx <;> first
      | ((walk_at "dl"); refine ⟨by decide, ?_⟩; exact hQ)
      | ((walk_at "dl"); refine ⟨by decide, ?_⟩; (try simp only [show isaB "str" "str" = true by decide]); (walk_at "dl"); rename_i a; rw [show decide (a = b) = (a == b) by rw [Bool.eq_iff_iff, decide_eq_true_iff, beq_iff_eq]]; exact hQ)
      | (rename_i hm; (try simp only [ty_rl hm]); (walk_at "dl"); refine ⟨by decide, ?_⟩; exact hQ)
  | lst bs =>
    walk_at "dl"
    refine ⟨by decide, ?_⟩
    try simp only [show isaB "list" "bool" = false by decide, show isaB "list" "int" = false by decide, show isaB "list" "str" = false by decide, show isaB "list" "list" = true by decide]
    walk_at "dl"
    try simp only [show isaB "list" "bool" = false by decide, show isaB "list" "int" = false by decide, show isaB "list" "str" = false by decide, show isaB "list" "list" = true by decide]
    walk_at "dl"
    refine ⟨by decide, by decide, by decide, ?_⟩
    cases kx <;> first
      | ((walk_at "dl"); refine ⟨by decide, ?_⟩; exact hQ)
      | ((walk_at "dl"); refine ⟨by decide, ?_⟩; (try simp only [show isaB "list" "list" = true by decide]); (walk_at "dl"); exact ⟨_, _, _, _, rfl, rfl, rfl, px0, py0, hQ⟩)
      | (rename_i hm; (try simp only [ty_rl hm]); (walk_at "dl"); refine ⟨by decide, ?_⟩; (try simp only [show isaB "list" "list" = true by decide]); (walk_at "dl"); exact ⟨_, _, _, _, rfl, row_rl hm, rfl, px0, py0, hQ⟩)
  | ref b bs hb =>
    walk_at "dl"
    try simp only [ty_rl hb, show isaB "list" "bool" = false by decide, show isaB "list" "int" = false by decide, show isaB "list" "str" = false by decide, show isaB "list" "list" = true by decide]
    walk_at "dl"
    try simp only [ty_rl hb, show isaB "list" "bool" = false by decide, show isaB "list" "int" = false by decide, show isaB "list" "str" = false by decide, show isaB "list" "list" = true by decide]
    walk_at "dl"
    refine ⟨by decide, ?_⟩
    try simp only [ty_rl hb, show isaB "list" "bool" = false by decide, show isaB "list" "int" = false by decide, show isaB "list" "str" = false by decide, show isaB "list" "list" = true by decide]
    walk_at "dl"
    try simp only [ty_rl hb, show isaB "list" "bool" = false by decide, show isaB "list" "int" = false by decide, show isaB "list" "str" = false by decide, show isaB "list" "list" = true by decide]
    walk_at "dl"
    refine ⟨by decide, ?_⟩
    try simp only [ty_rl hb, show isaB "list" "bool" = false by decide, show isaB "list" "int" = false by decide, show isaB "list" "str" = false by decide, show isaB "list" "list" = true by decide]
    walk_at "dl"
    try simp only [ty_rl hb, show isaB "list" "bool" = false by decide, show isaB "list" "int" = false by decide, show isaB "list" "str" = false by decide, show isaB "list" "list" = true by decide]
    walk_at "dl"
    refine ⟨by decide, ?_⟩
    try simp only [ty_rl hb, show isaB "list" "bool" = false by decide, show isaB "list" "int" = false by decide, show isaB "list" "str" = false by decide, show isaB "list" "list" = true by decide]
    walk_at "dl"
    try simp only [ty_rl hb, show isaB "list" "bool" = false by decide, show isaB "list" "int" = false by decide, show isaB "list" "str" = false by decide, show isaB "list" "list" = true by decide]
    walk_at "dl"
    refine ⟨by decide, ?_⟩
    cases kx <;> first
      | ((walk_at "dl"); refine ⟨by decide, ?_⟩; exact hQ)
      | ((walk_at "dl"); refine ⟨by decide, ?_⟩; (try simp only [show isaB "list" "list" = true by decide]); (walk_at "dl"); exact ⟨_, _, _, _, rfl, rfl, row_rl hb, px0, py0, hQ⟩)
      | (rename_i hm; (try simp only [ty_rl hm]); (walk_at "dl"); refine ⟨by decide, ?_⟩; (try simp only [show isaB "list" "list" = true by decide]); (walk_at "dl"); exact ⟨_, _, _, _, rfl, row_rl hm, row_rl hb, px0, py0, hQ⟩)
  | tup bs =>
    walk_at "dl"
    refine ⟨by decide, ?_⟩
    try simp only [show isaB "tuple" "bool" = false by decide, show isaB "tuple" "int" = false by decide, show isaB "tuple" "str" = false by decide, show isaB "tuple" "list" = false by decide]
    walk_at "dl"
    try simp only [show isaB "tuple" "bool" = false by decide, show isaB "tuple" "int" = false by decide, show isaB "tuple" "str" = false by decide, show isaB "tuple" "list" = false by decide]
    walk_at "dl"
    refine ⟨by decide, by decide, by decide, ?_⟩
    cases kx <;> first
      | ((walk_at "dl"); refine ⟨by decide, ?_⟩; exact hQ)
      | ((walk_at "dl"); refine ⟨by decide, ?_⟩; (try simp only [show isaB "tuple" "tuple" = true by decide]); (walk_at "dl"); exact ⟨_, _, _, _, rfl, rfl, rfl, px0, py0, hQ⟩)
      | (rename_i hm; (try simp only [ty_rl hm]); (walk_at "dl"); refine ⟨by decide, ?_⟩; exact hQ)
theorem no_row0 : ∀ ds M Q E, ¬ sp_l_same_row 0 ds M Q E := by
  rintro ds M Q E ⟨x, y, xs, ys, _, rx, _, px, _⟩
  cases x with
  | lst ds => have q := (ba (show (decide (ds.length ≤ 1000000) && plnIn 0 ds) = true from by have := px; unfold vw pln at this; exact this)).2; unfold plnIn at q; cases q
  | tup ds => have q := (ba (show (decide (ds.length ≤ 1000000) && plnIn 0 ds) = true from by have := px; unfold vw pln at this; exact this)).2; unfold plnIn at q; cases q
  | ref a => unfold vw pln at px; cases px
  | _ => cases rx
/-- data that is plain already -/
theorem same_pl {n : Nat} {M : Mu} {x y : D} {Q : DK} {E : DX} (px : pln n x = true) (py : pln n y = true) (h : Q (.bl (eqD x y)) M) : sp_l_same n [x, y] M Q E :=
  ⟨x, y, rfl, by rw [vw_pln M px]; exact px, by rw [vw_pln M py]; exact py, by rw [vw_pln M px, vw_pln M py]; exact h⟩
end DL

namespace DL
open PySem L2
local macro_rules | `(tactic| walk_at "dl") => `(tactic| try simp (config := { proj := false }) only [↓ex_mk, ↓nx_mk, ↓rt_mk, ↓bk_mk, ↓ct_mk, ↓xc_mk, ↓u_c, ↓u_op, ↓u_un, ↓u_and, ↓u_or, ↓u_not, ↓u_if, ↓u_anil, ↓u_acons, ↓u_lst, ↓u_lstM, ↓u_tup, ↓u_call, ↓u_sl, ↓u_onone, ↓u_cb, ↓u_mt, ↓u_mt0, ↓u_pass, ↓u_seq, ↓u_set, ↓u_asg, ↓u_drop, ↓u_ret, ↓u_retN, ↓u_ifs, ↓u_brk, ↓u_cnt, ↓u_for, ↓u_gname, ↓u_gsub, ↓u_fs, ↓u_fmt, ↓u_js0, ↓u_js, ↓u_em, ↓u_yes, ↓u_never, ↓u_ref, ↓u_forR, ↓u_star, ↓u_dict, ↓u_dict0, ↓u_dp0, ↓u_dp1, ↓u_forK, ↓u_lock, ↓u_kd, ↓u_fld, ↓u_setF, ↓u_make, ↓u_binL, ↓u_binR, ↓u_inO, ↓u_getO, ↓u_setO, ↓u_augO, ↓u_prp, ↓u_inv, ↓u_meth, ↓u_keys, ↓u_try, ↓u_cm, ↓u_makeV, ↓r_enum, ↓r_own, ↓u_raise, ↓u_tryas, ↓u_ca, ↓u_xf, ↓u_idxC, su_mk,
  ↓r_var, ↓r_test, ↓r_andV, ↓r_orV, ↓r_notV, ↓r_tru, ↓r_frz, ↓r_osome, ↓r_any, ↓r_scr, scr_c, ↓r_rng1, ↓r_rng2, ↓r_fz, wipeD,
  onSome_s, onBl_b, onInt_i, onStr_s, onVar_s, onML_l, onML2_l, onML2_d, onDK_d, fmt_s, fmt_i, tru_n, tru_b, tru_i, tru_s, tru_l, tru_t, tru_r, frz_r, sl_s, sl_l, sl_t, sl_r, add_i, add_s, add_l, add_t, add_rl, add_lr, sub_i, mul_i, div_i, mod_i, pow_i, neg_i, cmp_i, eq_i, eq_s, eq_b, eq_n, eq_l, eq_t, eq_rl, eq_lr, eq_ni, eq_in, eq_ns, eq_sn, eq_nb, eq_bn, eq_is, eq_si,
  ix_l, ix_t, ix_s, ix_ri, ix_rs, in_ss, in_l, in_t, in_ir, in_sr, isB_t, isB_f, ltS_s, gtS_s, sorted_l, keyK_s, keyK_i, u_dget, lenOR_r, listOR_r, isn_n, isn_b, isn_i, isn_s, isn_r, isn_l, isn_t, len_s, len_c, len_l, len_t, len_r, int_i, int_b, min_ii, max_ii, list_l, list_t, list_r, list_c, listM_l, listM_c, listM_t, listM_r, isi_, isi_k, ty_n, ty_b, ty_i, ty_s, ty_l, ty_t, it_s, it_l, it_r, itM_l, itM_d, app_r, rev_r, ends_s, ins_r, set_rs, str_i, str_s, ext_l, pop_r, clr_r, star_l, star_t, star_r, onRef_r, onML3_l, onML3_d, onML3_f, onDR_d, onDR_f, onFK_f, join_l, join_t, join_r, starts_s, r_gtup, r_glst, r_gnil, r_gcons, set_r, items_s, items_l, items_t, rng1_i, rng2_i, fz_r, addM_l, addM_rl, onIns_i, onLst_l, isIns_r, isInsM_i, noF_r, noFM_i, rows_r, lenO_r, listO_r, listOM_r, isCK_i, isCK_l, isC_r, isC_s, isC_i, isC_b, isC_n, isC_l, isC_t, putG_0, putG_1, lk_1, onCl_c, onEnum_l, index_l, strO_r, cmpO_r, pop1_r, tuple_l, tuple_t, divmod_i, upper_s, indexT_t, onExc_e, isE_t, isE_c, isE_v, zip_1,
  List.map_cons, List.map_nil, List.cons_append, List.nil_append, List.length_cons, List.length_nil, List.replicate, List.getElem?_cons_zero, List.getElem?_cons_succ, List.set_cons_zero, List.set_cons_succ, id, decide_eq_true_eq, if_true, if_false, Bool.false_eq_true, reduceIte, Bool.not_true, Bool.not_false, true_and, Nat.reduceAdd, Nat.reduceSub, Int.reduceToNat, Int.toNat_natCast, put_same, put_put, atI_0, atI_1, atI_2, atI_3, atI_4, ixN_40, ixN_41, ixN_42, ixN_43])
/-! ### names, steps, nodes -/
def Lett (x : Tx) : Prop := ∀ c ∈ x, 97 ≤ c ∧ c ≤ 122
def Nm (x : Tx) : Prop := 0 < x.length ∧ x.length ≤ 8 ∧ Lett x
instance (x : Tx) : Decidable (Lett x) := inferInstanceAs (Decidable (∀ c ∈ x, 97 ≤ c ∧ c ≤ 122))
instance (x : Tx) : Decidable (Nm x) := inferInstanceAs (Decidable (_ ∧ _))
def IsStep (x : Tx) : Prop := ∃ m n, x = m :: n ∧ (m = 46 ∨ m = 94) ∧ Nm n
def Steps (l : List Tx) : Prop := ∀ s ∈ l, IsStep s
def Tl (k : Nat) (x : Tx) : Prop := ∃ l : List Tx, l.length ≤ k ∧ Steps l ∧ x = l.flatten
def Nd (k : Nat) (x : Tx) : Prop := ∃ (r : Tx) (l : List Tx), Nm r ∧ l.length ≤ k ∧ Steps l ∧ x = r ++ l.flatten
theorem Steps.nil : Steps [] := fun _ h => by cases h
theorem Steps.append {l m : List Tx} (h : Steps l) (k : Steps m) : Steps (l ++ m) := fun s hs => (List.mem_append.mp hs).elim (h s) (k s)
theorem Steps.one {s : Tx} (h : IsStep s) : Steps [s] := fun t ht => by rw [List.mem_singleton.mp ht]; exact h
theorem Steps.take {l : List Tx} (h : Steps l) (n : Nat) : Steps (l.take n) := fun s hs => h s (List.mem_of_mem_take hs)
theorem IsStep.len {s : Tx} (h : IsStep s) : 2 ≤ s.length ∧ s.length ≤ 9 := by
  obtain ⟨m, n, rfl, _, h1, h2, _⟩ := h
  rw [List.length_cons]
  omega
theorem Steps.len : ∀ {l : List Tx}, Steps l → l.flatten.length ≤ 9 * l.length
  | [], _ => by simp
  | s :: l, h => by
    have h1 := (h s (List.mem_cons_self ..)).len
    have h2 := Steps.len (l := l) fun t ht => h t (List.mem_cons_of_mem _ ht)
    rw [List.flatten_cons, List.length_append, List.length_cons]
    omega
theorem Tl.len {k : Nat} {x : Tx} (h : Tl k x) : x.length ≤ 9 * k := by
  obtain ⟨l, h1, h2, rfl⟩ := h
  have := h2.len
  omega
theorem Nd.len {k : Nat} {x : Tx} (h : Nd k x) : x.length ≤ 9 * k + 8 := by
  obtain ⟨r, l, hr, h1, h2, rfl⟩ := h
  have := h2.len
  have := hr.2.1
  rw [List.length_append]
  omega
theorem IsStep.chars {s : Tx} (h : IsStep s) : ∀ c ∈ s, c < 128 := by
  obtain ⟨m, n, rfl, hm, _, _, h3⟩ := h
  intro c hc
  rcases List.mem_cons.mp hc with rfl | hc
  · omega
  · have := h3 c hc; omega
theorem Nd.chars {k : Nat} {x : Tx} (h : Nd k x) : ∀ c ∈ x, c < 128 := by
  obtain ⟨r, l, hr, h1, h2, rfl⟩ := h
  intro c hc
  rcases List.mem_append.mp hc with hc | hc
  · have := hr.2.2 c hc; omega
  · obtain ⟨s, hs, hc⟩ := List.mem_flatten.mp hc
    exact (h2 s hs).chars c hc
theorem Nd.mono {k j : Nat} {x : Tx} (h : Nd k x) (l : k ≤ j) : Nd j x := by
  obtain ⟨r, s, hr, h1, h2, e⟩ := h
  exact ⟨r, s, hr, by omega, h2, e⟩
theorem Nd.app {k j : Nat} {x y : Tx} (h : Nd k x) (t : Tl j y) : Nd (k + j) (x ++ y) := by
  obtain ⟨r, s, hr, h1, h2, rfl⟩ := h
  obtain ⟨l, h3, h4, rfl⟩ := t
  exact ⟨r, s ++ l, hr, by rw [List.length_append]; omega, h2.append h4, by rw [List.flatten_append, List.append_assoc]⟩
theorem Tl.step {k : Nat} {x s : Tx} (h : Tl k x) (t : IsStep s) : Tl (k + 1) (x ++ s) := by
  obtain ⟨l, h3, h4, rfl⟩ := h
  exact ⟨l ++ [s], by rw [List.length_append]; show l.length + 1 ≤ _; omega, h4.append (Steps.one t), by simp⟩
theorem Nm.nd {x : Tx} (h : Nm x) (k : Nat) : Nd k x := ⟨x, [], h, Nat.zero_le _, Steps.nil, by simp⟩
/-! ### the parts of a text -/
def isM (c : Nat) : Bool := c == 46 || c == 94
def pstep (s : List Tx × Tx) (c : Nat) : List Tx × Tx := if isM c then (s.1 ++ [s.2], [c]) else (s.1, s.2 ++ [c])
def pst (x : Tx) : List Tx × Tx := x.foldl pstep ([], [])
def partsF (x : Tx) : List Tx := (pst x).1 ++ [(pst x).2]
theorem pst_snoc (x : Tx) (c : Nat) : pst (x ++ [c]) = pstep (pst x) c := by unfold pst; rw [List.foldl_append]; rfl
theorem pst_len : ∀ (x : Tx), (pst x).1.length ≤ x.length ∧ (pst x).2.length ≤ x.length := by
  intro x
  have all : ∀ (x : Tx) (s : List Tx × Tx), (x.foldl pstep s).1.length ≤ s.1.length + x.length ∧ (x.foldl pstep s).2.length ≤ s.2.length + 1 + x.length ∧ (x.foldl pstep s).2.length ≤ max s.2.length 1 + x.length := by
    intro x
    induction x with
    | nil => intro s; simp; omega
    | cons c x ih =>
      intro s
      have h := ih (pstep s c)
      rw [List.foldl_cons, List.length_cons]
      unfold pstep at h ⊢
      split at h
      · rename_i hc
        simp only [hc, if_true, List.length_append, List.length_cons, List.length_nil] at h ⊢
        omega
      · rename_i hc
        simp only [hc, List.length_append, List.length_cons, List.length_nil] at h ⊢
        simp only [Bool.false_eq_true, if_false, List.length_append, List.length_cons, List.length_nil] at h ⊢
        omega
  have h2 : ∀ (x : Tx), (pst x).2.length ≤ x.length := by
    intro x
    cases x with
    | nil => exact Nat.le_refl _
    | cons c x =>
      have h := (all x (pstep ([], []) c)).2.2
      show (x.foldl pstep (pstep ([], []) c)).2.length ≤ _
      have e : (pstep ([], []) c).2.length = 1 := by unfold pstep; split <;> rfl
      rw [e] at h
      rw [List.length_cons]
      omega
  have h1 := (all x ([], [])).1
  exact ⟨by simpa [pst] using h1, h2 x⟩
theorem fold_plain : ∀ {r : Tx} {s : List Tx × Tx}, (∀ c ∈ r, isM c = false) → r.foldl pstep s = (s.1, s.2 ++ r)
  | [], s, _ => by simp
  | c :: r, s, h => by
    rw [List.foldl_cons, show pstep s c = (s.1, s.2 ++ [c]) by unfold pstep; rw [h c (List.mem_cons_self ..)]; rfl, fold_plain fun d hd => h d (List.mem_cons_of_mem _ hd)]
    simp
/-- a part behind the first: a mark, then no mark -/
def Part (s : Tx) : Prop := ∃ m n, s = m :: n ∧ isM m = true ∧ ∀ c ∈ n, isM c = false
theorem fold_parts : ∀ {l : List Tx} {s : List Tx × Tx}, (∀ t ∈ l, Part t) → (l.flatten.foldl pstep s).1 ++ [(l.flatten.foldl pstep s).2] = s.1 ++ [s.2] ++ l
  | [], s, _ => by simp
  | t :: l, s, h => by
    obtain ⟨m, n, rfl, hm, hn⟩ := h t (List.mem_cons_self ..)
    rw [List.flatten_cons, List.foldl_append, List.foldl_cons, show pstep s m = (s.1 ++ [s.2], [m]) by unfold pstep; rw [hm]; rfl, fold_plain hn, fold_parts fun d hd => h d (List.mem_cons_of_mem _ hd)]
    simp
theorem parts_of {r : Tx} {l : List Tx} (hr : ∀ c ∈ r, isM c = false) (hl : ∀ t ∈ l, Part t) : partsF (r ++ l.flatten) = r :: l := by
  unfold partsF pst
  rw [List.foldl_append, fold_plain hr, fold_parts hl]
  simp
theorem fold_is (x : Tx) : ∀ (s : List Tx × Tx), (∀ c ∈ s.2.drop 1, isM c = false) → ∃ l, (∀ t ∈ l.drop 1, Part t) ∧ (s.2 = l.head?.getD [] ∨ ∃ n, (∀ c ∈ n, isM c = false) ∧ l.head? = some (s.2 ++ n)) ∧ l ≠ [] ∧
    (x.foldl pstep s).1 ++ [(x.foldl pstep s).2] = s.1 ++ l ∧ l.flatten = s.2 ++ x := by
  induction x with
  | nil => intro s h; exact ⟨[s.2], by simp, .inl rfl, by simp, rfl, by simp⟩
  | cons c x ih =>
    intro s h
    rw [List.foldl_cons]
    cases hc : isM c with
    | true =>
      have e : pstep s c = (s.1 ++ [s.2], [c]) := by unfold pstep; rw [hc]; rfl
      rw [e]
      obtain ⟨l, h1, h2, h3, h4, h5⟩ := ih (s.1 ++ [s.2], [c]) (by simp)
      refine ⟨s.2 :: l, ?_, .inl rfl, by simp, by rw [h4]; simp, by rw [List.flatten_cons, h5]; simp⟩
      intro t ht
      rw [List.drop_succ_cons, List.drop_zero] at ht
      cases l with
      | nil => exact absurd rfl h3
      | cons a l =>
        rcases List.mem_cons.mp ht with rfl | ht
        · rcases h2 with h2 | ⟨n, hn, h2⟩
          · simp at h2
            rw [← h2]
            exact ⟨c, [], rfl, hc, by simp⟩
          · simp at h2
            rw [h2]
            exact ⟨c, n, rfl, hc, hn⟩
        · exact h1 t (by simpa using ht)
    | false =>
      have e : pstep s c = (s.1, s.2 ++ [c]) := by unfold pstep; rw [hc]; rfl
      rw [e]
      obtain ⟨l, h1, h2, h3, h4, h5⟩ := ih (s.1, s.2 ++ [c]) (by
        intro d hd
        show isM d = false
        have hd2 : d ∈ s.2.drop 1 ++ [c] ∨ True := .inr trivial
        rcases hs : s.2 with _ | ⟨a, r⟩
        · simp [hs] at hd
        · simp only [hs, List.cons_append, List.drop_succ_cons, List.drop_zero] at hd
          rcases List.mem_append.mp hd with hd | hd
          · exact h d (by simpa [hs] using hd)
          · rw [List.mem_singleton.mp hd]; exact hc)
      refine ⟨l, h1, .inr ?_, h3, h4, by rw [h5]; simp⟩
      cases l with
      | nil => exact absurd rfl h3
      | cons a l =>
        rcases h2 with h2 | ⟨n, hn, h2⟩
        · simp at h2
          exact ⟨[c], by simp [hc], by simp [← h2]⟩
        · simp at h2
          exact ⟨c :: n, by
            intro d hd
            rcases List.mem_cons.mp hd with rfl | hd
            · exact hc
            · exact hn d hd, by simp [h2]⟩
/-- what the parts of a text are -/
theorem parts_is (x : Tx) : ∃ r l, partsF x = r :: l ∧ (∀ t ∈ l, Part t) ∧ (∀ c ∈ r, isM c = false) ∧ x = r ++ l.flatten := by
  obtain ⟨l, h1, h2, h3, h4, h5⟩ := fold_is x ([], []) (by simp)
  cases l with
  | nil => exact absurd rfl h3
  | cons r l =>
    refine ⟨r, l, by unfold partsF pst; rw [h4]; rfl, fun t ht => h1 t (by simpa using ht), ?_, by simpa using h5.symm⟩
    rcases h2 with h2 | ⟨n, hn, h2⟩
    · simp at h2
      rw [h2]
      simp
    · simp at h2
      rw [h2]
      exact hn
theorem lett_plain {x : Tx} (h : Lett x) : ∀ c ∈ x, isM c = false := fun c hc => by
  have := h c hc
  unfold isM
  rw [Bool.or_eq_false_iff, beq_eq_false_iff_ne, beq_eq_false_iff_ne]
  omega
theorem IsStep.part {s : Tx} (h : IsStep s) : Part s := by
  obtain ⟨m, n, rfl, hm, _, _, hn⟩ := h
  refine ⟨m, n, rfl, ?_, lett_plain hn⟩
  rcases hm with rfl | rfl <;> rfl
theorem nd_parts {r : Tx} {l : List Tx} (hr : Nm r) (hl : Steps l) : partsF (r ++ l.flatten) = r :: l := parts_of (lett_plain hr.2.2) fun t ht => (hl t ht).part
end DL

namespace DL
open PySem L2
local macro_rules | `(tactic| walk_at "dl") => `(tactic| try simp (config := { proj := false }) only [↓ex_mk, ↓nx_mk, ↓rt_mk, ↓bk_mk, ↓ct_mk, ↓xc_mk, ↓u_c, ↓u_op, ↓u_un, ↓u_and, ↓u_or, ↓u_not, ↓u_if, ↓u_anil, ↓u_acons, ↓u_lst, ↓u_lstM, ↓u_tup, ↓u_call, ↓u_sl, ↓u_onone, ↓u_cb, ↓u_mt, ↓u_mt0, ↓u_pass, ↓u_seq, ↓u_set, ↓u_asg, ↓u_drop, ↓u_ret, ↓u_retN, ↓u_ifs, ↓u_brk, ↓u_cnt, ↓u_for, ↓u_gname, ↓u_gsub, ↓u_fs, ↓u_fmt, ↓u_js0, ↓u_js, ↓u_em, ↓u_yes, ↓u_never, ↓u_ref, ↓u_forR, ↓u_star, ↓u_dict, ↓u_dict0, ↓u_dp0, ↓u_dp1, ↓u_forK, ↓u_lock, ↓u_kd, ↓u_fld, ↓u_setF, ↓u_make, ↓u_binL, ↓u_binR, ↓u_inO, ↓u_getO, ↓u_setO, ↓u_augO, ↓u_prp, ↓u_inv, ↓u_meth, ↓u_keys, ↓u_try, ↓u_cm, ↓u_makeV, ↓r_enum, ↓r_own, ↓u_raise, ↓u_tryas, ↓u_ca, ↓u_xf, ↓u_idxC, su_mk,
  ↓r_var, ↓r_test, ↓r_andV, ↓r_orV, ↓r_notV, ↓r_tru, ↓r_frz, ↓r_osome, ↓r_any, ↓r_scr, scr_c, ↓r_rng1, ↓r_rng2, ↓r_fz, wipeD,
  onSome_s, onBl_b, onInt_i, onStr_s, onVar_s, onML_l, onML2_l, onML2_d, onDK_d, fmt_s, fmt_i, tru_n, tru_b, tru_i, tru_s, tru_l, tru_t, tru_r, frz_r, sl_s, sl_l, sl_t, sl_r, add_i, add_s, add_l, add_t, add_rl, add_lr, sub_i, mul_i, div_i, mod_i, pow_i, neg_i, cmp_i, eq_i, eq_s, eq_b, eq_n, eq_l, eq_t, eq_rl, eq_lr, eq_ni, eq_in, eq_ns, eq_sn, eq_nb, eq_bn, eq_is, eq_si,
  ix_l, ix_t, ix_s, ix_ri, ix_rs, in_ss, in_l, in_t, in_ir, in_sr, isB_t, isB_f, ltS_s, gtS_s, sorted_l, keyK_s, keyK_i, u_dget, lenOR_r, listOR_r, isn_n, isn_b, isn_i, isn_s, isn_r, isn_l, isn_t, len_s, len_c, len_l, len_t, len_r, int_i, int_b, min_ii, max_ii, list_l, list_t, list_r, list_c, listM_l, listM_c, listM_t, listM_r, isi_, isi_k, ty_n, ty_b, ty_i, ty_s, ty_l, ty_t, it_s, it_l, it_r, itM_l, itM_d, app_r, rev_r, ends_s, ins_r, set_rs, str_i, str_s, ext_l, pop_r, clr_r, star_l, star_t, star_r, onRef_r, onML3_l, onML3_d, onML3_f, onDR_d, onDR_f, onFK_f, join_l, join_t, join_r, starts_s, r_gtup, r_glst, r_gnil, r_gcons, set_r, items_s, items_l, items_t, rng1_i, rng2_i, fz_r, addM_l, addM_rl, onIns_i, onLst_l, isIns_r, isInsM_i, noF_r, noFM_i, rows_r, lenO_r, listO_r, listOM_r, isCK_i, isCK_l, isC_r, isC_s, isC_i, isC_b, isC_n, isC_l, isC_t, putG_0, putG_1, lk_1, onCl_c, onEnum_l, index_l, strO_r, cmpO_r, pop1_r, tuple_l, tuple_t, divmod_i, upper_s, indexT_t, onExc_e, isE_t, isE_c, isE_v, zip_1,
  List.map_cons, List.map_nil, List.cons_append, List.nil_append, List.length_cons, List.length_nil, List.replicate, List.getElem?_cons_zero, List.getElem?_cons_succ, List.set_cons_zero, List.set_cons_succ, id, decide_eq_true_eq, if_true, if_false, Bool.false_eq_true, reduceIte, Bool.not_true, Bool.not_false, true_and, Nat.reduceAdd, Nat.reduceSub, Int.reduceToNat, Int.toNat_natCast, put_same, put_put, atI_0, atI_1, atI_2, atI_3, atI_4, ixN_40, ixN_41, ixN_42, ixN_43])
def sp_l_name : DSp := fun ds M Q _ => ∃ a, ds = [.ref a] ∧ Src M a ∧ ∀ x M', Nm x → SrcTo a M M' → Q (.str x) M'
def w_l_name_b1 : DTS := dSet 1 (dOp gAdd (dVar 1) (dCall sp_l_pick (daCons (dVar 0) (daCons (dC (.str (T "abcdefghijklmnopqrstuvwxyz"))) (daNil)))))
def w_l_name : DTS := dSeq (dIfS (dTest (dOp gGt (dCall sp_l_draw (daCons (dVar 0) (daCons (dC (.int 3)) (daNil)))) (dC (.int 0)))) (dRet (dCall sp_l_pick (daCons (dVar 0) (daCons (dLst (daCons (dC (.str [97])) (daCons (dC (.str [98])) (daCons (dC (.str [97, 98])) (daCons (dC (.str [97, 97])) (daCons (dC (.str (T "abc"))) (daCons (dC (.str [99])) (daCons (dC (.str [98, 98])) (daCons (dC (.str (T "see"))) (daNil)))))))))) (daNil))))) (dPass)) (dSeq (dSet 1 (dC (.str []))) (dSeq (dFor (diRng1 (daCons (dOp gAdd (dC (.int 1)) (dCall sp_l_draw (daCons (dVar 0) (daCons (dC (.int 8)) (daNil))))) (daNil))) (dgName 2) (w_l_name_b1)) (dRet (dVar 1))))
theorem abc : ∀ c ∈ T "abcdefghijklmnopqrstuvwxyz", 97 ≤ c ∧ c ≤ 122 := by decide +kernel
theorem p_l_name : ∀ ds M Q E, sp_l_name ds M Q E → w_l_name (Ret Q E) (ds.map some ++ List.replicate (3 - 1) none) M := by
  rintro ds M Q E ⟨a, rfl, hs, hQ⟩
  unfold w_l_name
  walk_at "dl"
  refine draw_ hs (by decide) (by decide) fun i M1 i0 i1 s1 => ?_
  walk_at "dl"
  by_cases h : 0 < i
  · rw [if_pos h]
    refine ⟨by decide, pick_ s1.1 rfl (by decide) (by decide) fun d M2 hd s2 => ?_⟩
    have : ∃ x, d = .str x ∧ Nm x := by
      simp only [List.mem_cons, List.not_mem_nil, or_false] at hd
      rcases hd with rfl | rfl | rfl | rfl | rfl | rfl | rfl | rfl
      all_goals exact ⟨_, rfl, by decide +kernel⟩
    obtain ⟨x, rfl, hx⟩ := this
    exact hQ x M2 hx (s1.trans s2)
  · rw [if_neg h]
    refine draw_ s1.1 (by decide) (by decide) fun j M2 j0 j1 s2 => ?_
    walk_at "dl"
    refine ⟨by omega, by omega, ?_⟩
    refine wFor_by (fun i τ M' => ∃ z y, τ = [some (.ref a), some (.str z), y] ∧ z.length = i ∧ Lett z ∧ SrcTo a M M') ⟨[], _, rfl, rfl, fun c h => (nomatch h), s1.trans s2⟩ ?_ ?_
    · rintro k d τ M3 hd ⟨z, y, rfl, hz, hl, s3⟩ nxt hn
      obtain ⟨rfl, hk⟩ := upTo_at hd
      unfold w_l_name_b1
      walk_at "dl"
      refine pick_ s3.1 rfl (by decide +kernel) (by decide +kernel) fun d M4 hd s4 => ?_
      obtain ⟨c, hc, rfl⟩ := List.mem_map.mp hd
      walk_at "dl"
      refine ⟨by omega, hn _ _ ⟨_, _, rfl, by rw [List.length_append, hz]; rfl, ?_, s3.trans s4⟩⟩
      intro e he
      rcases List.mem_append.mp he with he | he
      · exact hl e he
      · rw [List.mem_singleton.mp he]; exact abc c hc
    · rintro τ M3 ⟨z, y, rfl, hz, hl, s3⟩
      walk_at "dl"
      rw [upTo_len] at hz
      exact hQ z M3 ⟨by omega, by omega, hl⟩ s3
end DL

namespace DL
open PySem L2
local macro_rules | `(tactic| walk_at "dl") => `(tactic| try simp (config := { proj := false }) only [↓ex_mk, ↓nx_mk, ↓rt_mk, ↓bk_mk, ↓ct_mk, ↓xc_mk, ↓u_c, ↓u_op, ↓u_un, ↓u_and, ↓u_or, ↓u_not, ↓u_if, ↓u_anil, ↓u_acons, ↓u_lst, ↓u_lstM, ↓u_tup, ↓u_call, ↓u_sl, ↓u_onone, ↓u_cb, ↓u_mt, ↓u_mt0, ↓u_pass, ↓u_seq, ↓u_set, ↓u_asg, ↓u_drop, ↓u_ret, ↓u_retN, ↓u_ifs, ↓u_brk, ↓u_cnt, ↓u_for, ↓u_gname, ↓u_gsub, ↓u_fs, ↓u_fmt, ↓u_js0, ↓u_js, ↓u_em, ↓u_yes, ↓u_never, ↓u_ref, ↓u_forR, ↓u_star, ↓u_dict, ↓u_dict0, ↓u_dp0, ↓u_dp1, ↓u_forK, ↓u_lock, ↓u_kd, ↓u_fld, ↓u_setF, ↓u_make, ↓u_binL, ↓u_binR, ↓u_inO, ↓u_getO, ↓u_setO, ↓u_augO, ↓u_prp, ↓u_inv, ↓u_meth, ↓u_keys, ↓u_try, ↓u_cm, ↓u_makeV, ↓r_enum, ↓r_own, ↓u_raise, ↓u_tryas, ↓u_ca, ↓u_xf, ↓u_idxC, su_mk,
  ↓r_var, ↓r_test, ↓r_andV, ↓r_orV, ↓r_notV, ↓r_tru, ↓r_frz, ↓r_osome, ↓r_any, ↓r_scr, scr_c, ↓r_rng1, ↓r_rng2, ↓r_fz, wipeD,
  onSome_s, onBl_b, onInt_i, onStr_s, onVar_s, onML_l, onML2_l, onML2_d, onDK_d, fmt_s, fmt_i, tru_n, tru_b, tru_i, tru_s, tru_l, tru_t, tru_r, frz_r, sl_s, sl_l, sl_t, sl_r, add_i, add_s, add_l, add_t, add_rl, add_lr, sub_i, mul_i, div_i, mod_i, pow_i, neg_i, cmp_i, eq_i, eq_s, eq_b, eq_n, eq_l, eq_t, eq_rl, eq_lr, eq_ni, eq_in, eq_ns, eq_sn, eq_nb, eq_bn, eq_is, eq_si,
  ix_l, ix_t, ix_s, ix_ri, ix_rs, in_ss, in_l, in_t, in_ir, in_sr, isB_t, isB_f, ltS_s, gtS_s, sorted_l, keyK_s, keyK_i, u_dget, lenOR_r, listOR_r, isn_n, isn_b, isn_i, isn_s, isn_r, isn_l, isn_t, len_s, len_c, len_l, len_t, len_r, int_i, int_b, min_ii, max_ii, list_l, list_t, list_r, list_c, listM_l, listM_c, listM_t, listM_r, isi_, isi_k, ty_n, ty_b, ty_i, ty_s, ty_l, ty_t, it_s, it_l, it_r, itM_l, itM_d, app_r, rev_r, ends_s, ins_r, set_rs, str_i, str_s, ext_l, pop_r, clr_r, star_l, star_t, star_r, onRef_r, onML3_l, onML3_d, onML3_f, onDR_d, onDR_f, onFK_f, join_l, join_t, join_r, starts_s, r_gtup, r_glst, r_gnil, r_gcons, set_r, items_s, items_l, items_t, rng1_i, rng2_i, fz_r, addM_l, addM_rl, onIns_i, onLst_l, isIns_r, isInsM_i, noF_r, noFM_i, rows_r, lenO_r, listO_r, listOM_r, isCK_i, isCK_l, isC_r, isC_s, isC_i, isC_b, isC_n, isC_l, isC_t, putG_0, putG_1, lk_1, onCl_c, onEnum_l, index_l, strO_r, cmpO_r, pop1_r, tuple_l, tuple_t, divmod_i, upper_s, indexT_t, onExc_e, isE_t, isE_c, isE_v, zip_1,
  List.map_cons, List.map_nil, List.cons_append, List.nil_append, List.length_cons, List.length_nil, List.replicate, List.getElem?_cons_zero, List.getElem?_cons_succ, List.set_cons_zero, List.set_cons_succ, id, decide_eq_true_eq, if_true, if_false, Bool.false_eq_true, reduceIte, Bool.not_true, Bool.not_false, true_and, Nat.reduceAdd, Nat.reduceSub, Int.reduceToNat, Int.toNat_natCast, put_same, put_put, atI_0, atI_1, atI_2, atI_3, atI_4, ixN_40, ixN_41, ixN_42, ixN_43])
def sp_l_step : DSp := fun ds M Q _ => ∃ a, ds = [.ref a] ∧ Src M a ∧ ∀ x M', IsStep x → SrcTo a M M' → Q (.str x) M'
def sp_l_tail : DSp := fun ds M Q _ => ∃ (a : Addr) (k : Int), ds = [.ref a, .int k] ∧ Src M a ∧ 0 ≤ k ∧ k ≤ 100 ∧ ∀ x M', Tl k.toNat x → SrcTo a M M' → Q (.str x) M'
def sp_l_place : DSp := fun ds M Q _ => ∃ a, ds = [.ref a] ∧ Src M a ∧ ∀ x M', Nd 6 x → SrcTo a M M' → Q (.str x) M'
def sp_l_parts : DSp := fun ds M Q _ => ∃ x, ds = [.str x] ∧ x.length ≤ 1000000 ∧ Q (.lst ((partsF x).map D.str)) M
def sp_l_near : DSp := fun ds M Q _ => ∃ (a : Addr) (x : Tx) (k : Nat), ds = [.ref a, .str x] ∧ Nd k x ∧ 6 ≤ k ∧ k ≤ 100 ∧ Src M a ∧ ∀ y M', Nd k y → SrcTo a M M' → Q (.str y) M'
def w_l_step : DTS := dRet (dOp gAdd (dCall sp_l_pick (daCons (dVar 0) (daCons (dLst (daCons (dC (.str [46])) (daCons (dC (.str [94])) (daNil)))) (daNil)))) (dCall sp_l_name (daCons (dVar 0) (daNil))))
def w_l_tail_b1 : DTS := dSet 2 (dOp gAdd (dVar 2) (dCall sp_l_step (daCons (dVar 0) (daNil))))
def w_l_tail : DTS := dSeq (dSet 2 (dC (.str []))) (dSeq (dFor (diRng1 (daCons (dCall sp_l_draw (daCons (dVar 0) (daCons (dOp gAdd (dVar 1) (dC (.int 1))) (daNil)))) (daNil))) (dgName 3) (w_l_tail_b1)) (dRet (dVar 2)))
def w_l_place_c1 : DTS := dRet (dOp gAdd (dCall sp_l_name (daCons (dVar 0) (daNil))) (dCall sp_l_tail (daCons (dVar 0) (daCons (dVar 1) (daNil)))))
def w_l_place : DTS := dSeq (dSet 1 (dC (.int 2))) (dSeq (dIfS (dTest (dOp gEq (dCall sp_l_draw (daCons (dVar 0) (daCons (dC (.int 8)) (daNil)))) (dC (.int 0)))) (dSet 1 (dC (.int 6))) (dPass)) (w_l_place_c1))
def w_l_parts_b1 : DTS := dIfS (dTest (dOp gIn (dVar 2) (dC (.str [46, 94])))) (dDrop (dMt "list" gAppend (dVar 1) (daCons (dVar 2) (daNil)))) (dAsg (dOp gAdd (dOp gIx (dVar 1) (dUn gNeg (dC (.int 1)))) (dVar 2)) (dgSub (dVar 1) (dUn gNeg (dC (.int 1))) gSetA))
def w_l_parts : DTS := dSeq (dSet 1 (dLstM (daCons (dC (.str [])) (daNil)))) (dSeq (dFor (diAny (dVar 0)) (dgName 2) (w_l_parts_b1)) (dRet (dFrz (dVar 1))))
def w_l_near_c1 : DTS := dRet (dOp gAdd (dOp gAdd (dMt "str" gJoin (dC (.str [])) (daCons (dSl (dVar 2) (doNone) (doSome (dUn gNeg (dC (.int 1))))) (daNil))) (dVar 5)) (dSl (dVar 4) (doSome (dC (.int 1))) (doNone)))
def w_l_near_c2 : DTS := dRet (dCall sp_l_place (daCons (dVar 0) (daNil)))
def w_l_near_c3 : DTS := dSeq (dIfS (dAnd (dTest (dOp gEq (dVar 3) (dC (.int 7)))) (dTest (dOp gLt (dCB gLen (daCons (dVar 4) (daNil))) (dC (.int 8))))) (dRet (dOp gAdd (dVar 1) (dCall sp_l_pick (daCons (dVar 0) (daCons (dC (.str (T "abcz"))) (daNil)))))) (dPass)) (w_l_near_c2)
def w_l_near_c4 : DTS := dSeq (dSet 4 (dOp gIx (dVar 2) (dUn gNeg (dC (.int 1))))) (dSeq (dIfS (dAnd (dTest (dOp gEq (dVar 3) (dC (.int 6)))) (dTest (dOp gGt (dCB gLen (daCons (dVar 2) (daNil))) (dC (.int 1))))) (dSeq (dSet 5 (dC (.str [46]))) (dSeq (dIfS (dTest (dOp gEq (dOp gIx (dVar 4) (dC (.int 0))) (dC (.str [46])))) (dSet 5 (dC (.str [94]))) (dPass)) (w_l_near_c1))) (dPass)) (w_l_near_c3))
def w_l_near : DTS := dSeq (dSet 2 (dCall sp_l_parts (daCons (dVar 1) (daNil)))) (dSeq (dSet 3 (dCall sp_l_draw (daCons (dVar 0) (daCons (dC (.int 8)) (daNil))))) (dSeq (dIfS (dTest (dOp gLt (dVar 3) (dC (.int 2)))) (dRet (dVar 1)) (dPass)) (dSeq (dIfS (dTest (dOp gLt (dVar 3) (dC (.int 4)))) (dRet (dMt "str" gJoin (dC (.str [])) (daCons (dSl (dVar 2) (doNone) (doSome (dOp gAdd (dC (.int 1)) (dCall sp_l_draw (daCons (dVar 0) (daCons (dCB gLen (daCons (dVar 2) (daNil))) (daNil))))))) (daNil)))) (dPass)) (dSeq (dIfS (dAnd (dTest (dOp gLt (dVar 3) (dC (.int 6)))) (dTest (dOp gLt (dCB gLen (daCons (dVar 2) (daNil))) (dC (.int 7))))) (dRet (dOp gAdd (dVar 1) (dCall sp_l_step (daCons (dVar 0) (daNil))))) (dPass)) (w_l_near_c4)))))
theorem p_l_step : ∀ ds M Q E, sp_l_step ds M Q E → w_l_step (Ret Q E) (ds.map some ++ List.replicate (1 - 1) none) M := by
  rintro ds M Q E ⟨a, rfl, hs, hQ⟩
  unfold w_l_step
  walk_at "dl"
  refine ⟨by decide, pick_ hs rfl (by decide) (by decide) fun d M2 hd s2 => ⟨a, rfl, s2.1, fun x M3 hx s3 => ?_⟩⟩
  have : ∃ m, d = .str [m] ∧ (m = 46 ∨ m = 94) := by
    simp only [List.mem_cons, List.not_mem_nil, or_false] at hd
    rcases hd with rfl | rfl
    · exact ⟨46, rfl, .inl rfl⟩
    · exact ⟨94, rfl, .inr rfl⟩
  obtain ⟨m, rfl, hm⟩ := this
  walk_at "dl"
  have := hx.2.1
  exact ⟨by omega, hQ _ M3 ⟨m, x, rfl, hm, hx⟩ (s2.trans s3)⟩
theorem p_l_tail : ∀ ds M Q E, sp_l_tail ds M Q E → w_l_tail (Ret Q E) (ds.map some ++ List.replicate (4 - 2) none) M := by
  rintro ds M Q E ⟨a, k, rfl, hs, k0, k1, hQ⟩
  unfold w_l_tail
  walk_at "dl"
  refine draw_ hs (by omega) (by omega) fun j M2 j0 j1 s2 => ?_
  walk_at "dl"
  refine ⟨by omega, by omega, ?_⟩
  refine wFor_by (fun i τ M' => ∃ z y, τ = [some (.ref a), some (.int k), some (.str z), y] ∧ Tl i z ∧ SrcTo a M M') ⟨[], _, rfl, ⟨[], Nat.le_refl _, Steps.nil, rfl⟩, s2⟩ ?_ ?_
  · rintro i d τ M3 hd ⟨z, y, rfl, hz, s3⟩ nxt hn
    obtain ⟨rfl, hi⟩ := upTo_at hd
    unfold w_l_tail_b1
    walk_at "dl"
    refine ⟨a, rfl, s3.1, fun x M4 hx s4 => ?_⟩
    walk_at "dl"
    have := hz.len
    have := hx.len
    exact ⟨by omega, hn _ _ ⟨_, _, rfl, hz.step hx, s3.trans s4⟩⟩
  · rintro τ M3 ⟨z, y, rfl, hz, s3⟩
    walk_at "dl"
    rw [upTo_len] at hz
    obtain ⟨l, h1, h2, e⟩ := hz
    exact hQ z M3 ⟨l, by omega, h2, e⟩ s3
theorem place_c1 {a : Addr} {k : Int} {M0 M : Mu} {Q : DK} {E : DX} (s : SrcTo a M0 M) (h0 : 0 ≤ k) (h1 : k ≤ 6) (hQ : ∀ x M', Nd 6 x → SrcTo a M0 M' → Q (.str x) M') : w_l_place_c1 (Ret Q E) [some (.ref a), some (.int k)] M := by
  unfold w_l_place_c1
  walk_at "dl"
  refine ⟨a, rfl, s.1, fun x M2 hx s2 => ?_⟩
  walk_at "dl"
  refine ⟨a, k, rfl, s2.1, h0, by omega, fun y M3 hy s3 => ?_⟩
  walk_at "dl"
  have := hy.len
  have := hx.2.1
  refine ⟨by omega, hQ _ M3 ?_ ((s.trans s2).trans s3)⟩
  exact ((hx.nd 0).app hy).mono (by omega)
theorem p_l_place : ∀ ds M Q E, sp_l_place ds M Q E → w_l_place (Ret Q E) (ds.map some ++ List.replicate (2 - 1) none) M := by
  rintro ds M Q E ⟨a, rfl, hs, hQ⟩
  unfold w_l_place
  walk_at "dl"
  refine draw_ hs (by omega) (by omega) fun j M2 j0 j1 s2 => ?_
  walk_at "dl"
  by_cases h : j = 0
  · rw [if_pos h]
    exact place_c1 s2 (by decide) (by decide) hQ
  · rw [if_neg h]
    exact place_c1 s2 (by decide) (by decide) hQ
theorem mem_marks {c : Nat} : c ∈ ([46, 94] : List Nat) ↔ isM c = true := by
  unfold isM
  rw [Bool.or_eq_true, beq_iff_eq, beq_iff_eq]
  simp
theorem p_l_parts : ∀ ds M Q E, sp_l_parts ds M Q E → w_l_parts (Ret Q E) (ds.map some ++ List.replicate (3 - 1) none) M := by
  rintro ds M Q E ⟨x, rfl, hl, hQ⟩
  unfold w_l_parts
  walk_at "dl"
  refine ⟨by decide, fun p hp => ?_⟩
  walk_at "dl"
  refine wFor_by (fun i τ M' => ∃ y, τ = [some (.str x), some (.ref p), y] ∧ M' = put M p (.lst (((pst (x.take i)).1 ++ [(pst (x.take i)).2]).map D.str))) ⟨_, rfl, rfl⟩ ?_ ?_
  · rintro i d τ M3 hd ⟨y, rfl, rfl⟩ nxt hn
    rw [List.getElem?_map] at hd
    cases e : x[i]? with
    | none => rw [e] at hd; cases hd
    | some c =>
      rw [e] at hd
      cases hd
      have hi := (List.getElem?_eq_some_iff.mp e).1
      have e2 : x.take (i + 1) = x.take i ++ [c] := by rw [List.take_add_one, e]; rfl
      have hs := pst_snoc (x.take i) c
      rw [← e2] at hs
      obtain ⟨l1, l2⟩ := pst_len (x.take i)
      rw [List.length_take] at l1 l2
      unfold w_l_parts_b1
      walk_at "dl"
      have hln : (List.map D.str ((pst (x.take i)).1 ++ [(pst (x.take i)).2])).length = (pst (x.take i)).1.length + 1 := by simp
      by_cases hc : isM c = true
      · rw [if_pos (mem_marks.mpr hc)]
        refine ⟨by omega, hn _ _ ⟨_, rfl, ?_⟩⟩
        rw [hs]
        unfold pstep
        rw [hc]
        simp
      · rw [if_neg (fun z => hc (mem_marks.mp z))]
        have e5 : List.map D.str ((pst (x.take i)).1 ++ [(pst (x.take i)).2]) = List.map D.str (pst (x.take i)).1 ++ [D.str (pst (x.take i)).2] := by simp
        rw [e5, atI_m1]
        try simp only []
        walk_at "dl"
        try simp only []
        walk_at "dl"
        have e3 : ixN (List.map D.str (pst (x.take i)).1 ++ [D.str (pst (x.take i)).2]).length (-1) = some (pst (x.take i)).1.length := by
          rw [List.length_append, List.length_map]; exact ixN_m1
        rw [e3]
        try simp only []
        walk_at "dl"
        try simp only []
        walk_at "dl"
        refine ⟨by omega, hn _ _ ⟨_, rfl, ?_⟩⟩
        rw [hs]
        unfold pstep
        rw [Bool.not_eq_true] at hc
        rw [hc]
        have e4 : (List.map D.str (pst (x.take i)).1 ++ [D.str (pst (x.take i)).2]).set (pst (x.take i)).1.length (D.str ((pst (x.take i)).2 ++ [c])) = List.map D.str (pst (x.take i)).1 ++ [D.str ((pst (x.take i)).2 ++ [c])] := by
          rw [List.set_append_right _ _ (by rw [List.length_map]; exact Nat.le_refl _), List.length_map, Nat.sub_self]
          rfl
        rw [e4]
        simp
  · rintro τ M3 ⟨y, rfl, rfl⟩
    walk_at "dl"
    rw [del_put_new hp]
    have e : x.take (x.map fun c => D.str [c]).length = x := by rw [List.length_map, List.take_length]
    rw [e]
    exact hQ
theorem join0 : ∀ l : List Tx, joinT [] l = l.flatten
  | [] => rfl
  | [x] => by simp [joinT, TL.joinL]
  | x :: y :: l => by
    have := join0 (y :: l)
    unfold joinT at this ⊢
    rw [List.flatten_cons, ← this]
    rfl
theorem flat_sum (l : List Tx) : (l.map (·.length)).sum = l.flatten.length := by rw [List.length_flatten]
theorem last_of {α : Type} {l : List α} (h : l ≠ []) : ∃ i x, l = i ++ [x] := ⟨l.dropLast, l.getLast h, (List.dropLast_concat_getLast h).symm⟩
theorem near_c1 {a : Addr} {x r n : Tx} {m : Nat} {l : List Tx} {k : Nat} {kd : Option D} {m' : Nat} {M0 M : Mu} {D0 : DEnds} (s : SrcTo a M0 M) (hr : Nm r) (hl : Steps l) (hk : (l ++ [m :: n]).length ≤ k) (hk2 : k ≤ 100) (hn : Nm n) (hm : m' = 46 ∨ m' = 94)
    (hQ : ∀ x M', Nd k x → SrcTo a M0 M' → D0.rt (.str x) M') : w_l_near_c1 D0 [some (.ref a), some (.str x), some (.lst ((r :: (l ++ [m :: n])).map D.str)), kd, some (.str (m :: n)), some (.str [m'])] M := by
  unfold w_l_near_c1
  walk_at "dl"
  have e1 : cut ((r :: (l ++ [m :: n])).map D.str) none (some (-1)) = (r :: l).map D.str := by
    rw [show (r :: (l ++ [m :: n])).map D.str = (r :: l).map D.str ++ [D.str (m :: n)] by simp, cut_init]
  simp only [List.map_cons] at e1
  try simp only [e1]
  walk_at "dl"
  try simp only [e1]
  walk_at "dl"
  have e2 : cut (m :: n) (some 1) none = n := cut_from (by decide)
  try simp only [e2]
  walk_at "dl"
  try simp only [e2]
  walk_at "dl"
  have h1 := hl.len
  have h2 := hr.2.1
  have h3 := hn.2.1
  rw [List.length_append] at hk
  have hk3 : l.length + 1 ≤ k := hk
  refine ⟨r :: l, rfl, ?_, ?_⟩
  · rw [flat_sum, List.flatten_cons, List.length_append]
    simp only [Nat.mul_zero]
    omega
  · rw [join0, List.flatten_cons]
    simp only [List.length_append, List.length_cons, List.length_nil]
    refine ⟨by omega, by omega, by omega, ?_⟩
    refine hQ _ M ⟨r, l ++ [m' :: n], hr, by rw [List.length_append]; exact hk, hl.append (Steps.one ⟨m', n, rfl, hm, hn⟩), ?_⟩ s
    simp
theorem near_c2 {a : Addr} {x2 x3 x4 x5 x6 : Option D} {k : Nat} {M0 M : Mu} {D0 : DEnds} (s : SrcTo a M0 M) (hk : 6 ≤ k) (hQ : ∀ x M', Nd k x → SrcTo a M0 M' → D0.rt (.str x) M') : w_l_near_c2 D0 [some (.ref a), x2, x3, x4, x5, x6] M := by
  unfold w_l_near_c2
  walk_at "dl"
  exact ⟨a, rfl, s.1, fun y M2 hy s2 => hQ y M2 (hy.mono hk) (s.trans s2)⟩
/-- the last part -/
def lastP (r : Tx) (l : List Tx) : Tx := l.getLast?.getD r
theorem lastP_cons {r z : Tx} {i : List Tx} : lastP r (i ++ [z]) = z := by simp [lastP]
theorem lastP_at (r : Tx) (l : List Tx) : atI ((r :: l).map D.str) (-1) = some (.str (lastP r l)) := by
  by_cases hn : l = []
  · subst hn; rfl
  · obtain ⟨i, z, rfl⟩ := last_of hn
    rw [show (r :: (i ++ [z])).map D.str = (r :: i).map D.str ++ [D.str z] by simp, atI_m1, lastP_cons]
theorem lastP_len {r : Tx} {l : List Tx} (hr : Nm r) (hl : Steps l) : (lastP r l).length ≤ 9 := by
  by_cases hn : l = []
  · subst hn; have := hr.2.1; show r.length ≤ 9; omega
  · obtain ⟨i, z, rfl⟩ := last_of hn
    rw [lastP_cons]
    exact (hl z (by simp)).len.2
/-- one letter more -/
theorem nd_letter {r : Tx} {l : List Tx} {k c : Nat} (hr : Nm r) (hl : Steps l) (hk : l.length ≤ k) (hc : 97 ≤ c ∧ c ≤ 122) (h : (lastP r l).length < 8) : Nd k (r ++ l.flatten ++ [c]) := by
  have addc : ∀ z : Tx, Lett z → Lett (z ++ [c]) := fun z hz d hd => by
    rcases List.mem_append.mp hd with hd | hd
    · exact hz d hd
    · rw [List.mem_singleton.mp hd]; exact hc
  by_cases hn : l = []
  · subst hn
    have h2 : r.length < 8 := h
    exact ⟨r ++ [c], [], ⟨by simp, by simp; omega, addc r hr.2.2⟩, Nat.zero_le _, Steps.nil, by simp⟩
  · obtain ⟨i, z, rfl⟩ := last_of hn
    rw [lastP_cons] at h
    obtain ⟨m, n, rfl, hm, hnm⟩ := hl z (by simp)
    rw [List.length_cons] at h
    refine ⟨r, i ++ [m :: (n ++ [c])], hr, by simpa using hk, ?_, by simp⟩
    intro t ht
    rcases List.mem_append.mp ht with ht | ht
    · exact hl t (by simp [ht])
    · rw [List.mem_singleton.mp ht]
      exact ⟨m, n ++ [c], rfl, hm, by simp, by simp; omega, addc n hnm.2.2⟩
theorem abcz : ∀ c ∈ T "abcz", 97 ≤ c ∧ c ≤ 122 := by decide +kernel
theorem near_c3 {a : Addr} {r : Tx} {l : List Tx} {kd : Int} {k : Nat} {x6 : Option D} {M0 M : Mu} {D0 : DEnds} (s : SrcTo a M0 M) (hr : Nm r) (hl : Steps l) (hlk : l.length ≤ k) (k6 : 6 ≤ k) (k100 : k ≤ 100)
    (hQ : ∀ x M', Nd k x → SrcTo a M0 M' → D0.rt (.str x) M') : w_l_near_c3 D0 [some (.ref a), some (.str (r ++ l.flatten)), some (.lst ((r :: l).map D.str)), some (.int kd), some (.str (lastP r l)), x6] M := by
  have h1 := hl.len
  have h2 := hr.2.1
  have h3 := lastP_len hr hl
  unfold w_l_near_c3
  walk_at "dl"
  split
  · refine ⟨by omega, ?_⟩
    split
    · rename_i h8
      refine pick_ s.1 rfl (by decide +kernel) (by decide +kernel) fun d M2 hd s2 => ?_
      obtain ⟨c, hc, rfl⟩ := List.mem_map.mp hd
      walk_at "dl"
      refine ⟨by rw [List.length_append]; omega, hQ _ M2 (nd_letter hr hl hlk (abcz c hc) (by omega)) (s.trans s2)⟩
    · exact near_c2 s k6 hQ
  · exact near_c2 s k6 hQ
theorem near_c4 {a : Addr} {r : Tx} {l : List Tx} {kd : Int} {k : Nat} {x5 x6 : Option D} {M0 M : Mu} {D0 : DEnds} (s : SrcTo a M0 M) (hr : Nm r) (hl : Steps l) (hlk : l.length ≤ k) (k6 : 6 ≤ k) (k100 : k ≤ 100)
    (hQ : ∀ x M', Nd k x → SrcTo a M0 M' → D0.rt (.str x) M') : w_l_near_c4 D0 [some (.ref a), some (.str (r ++ l.flatten)), some (.lst ((r :: l).map D.str)), some (.int kd), x5, x6] M := by
  have hz := lastP_at r l
  have h3 := near_c3 (D0 := D0) (kd := kd) (x6 := x6) s hr hl hlk k6 k100 hQ
  simp only [List.map_cons] at hz h3
  unfold w_l_near_c4
  walk_at "dl"
  try simp only [hz]
  walk_at "dl"
  try simp only [hz]
  walk_at "dl"
  split
  · split
    · rename_i h1
      have hn : l ≠ [] := fun e => by rw [e] at h1; simp at h1
      obtain ⟨i, z, rfl⟩ := last_of hn
      rw [lastP_cons]
      obtain ⟨m, n, rfl, hm, hnm⟩ := hl z (by simp)
      have hi : Steps i := fun t ht => hl t (by simp [ht])
      have := hnm.2.1
      try simp only []
      walk_at "dl"
      try simp only []
      walk_at "dl"
      refine ⟨by omega, ?_⟩
      have c1 : ∀ m', (m' = 46 ∨ m' = 94) → _ := fun m' hm' => near_c1 (D0 := { D0 with nx := w_l_near_c3 D0 }) (x := r ++ (i ++ [m :: n]).flatten) (kd := some (.int kd)) (m' := m') s hr hi hlk k100 hnm hm' hQ
      simp only [List.map_cons] at c1
      split
      · exact c1 94 (.inr rfl)
      · exact c1 46 (.inl rfl)
    · exact h3
  · exact h3
theorem p_l_near : ∀ ds M Q E, sp_l_near ds M Q E → w_l_near (Ret Q E) (ds.map some ++ List.replicate (6 - 2) none) M := by
  rintro ds M Q E ⟨a, x, k, rfl, ⟨r, l, hr, hlk, hl, rfl⟩, k6, k100, hs, hQ⟩
  have hlen := hl.len
  have hr2 := hr.2.1
  unfold w_l_near
  walk_at "dl"
  refine ⟨_, rfl, by rw [List.length_append]; omega, ?_⟩
  rw [nd_parts hr hl]
  walk_at "dl"
  refine draw_ hs (by decide) (by decide) fun kd M1 d0 d1 s1 => ?_
  walk_at "dl"
  have self : Nd k (r ++ l.flatten) := ⟨r, l, hr, hlk, hl, rfl⟩
  have c4 := near_c4 (D0 := Ret Q E) (kd := kd) (x5 := none) (x6 := none) s1 hr hl hlk k6 k100 hQ
  simp only [List.map_cons] at c4
  split
  · exact hQ _ M1 self s1
  · split
    · simp only [List.length_map]
      refine draw_ s1.1 (by omega) (by omega) fun i M2 i0 i1 s2 => ?_
      walk_at "dl"
      have e1 : cut (D.str r :: l.map D.str) none (some (1 + i)) = (r :: l.take i.toNat).map D.str := by
        rw [cut_to (by omega) (by simp; omega), show (1 + i).toNat = i.toNat + 1 by omega, List.take_succ_cons, List.map_cons, List.map_take]
      try simp only [e1]
      walk_at "dl"
      try simp only [e1]
      walk_at "dl"
      refine ⟨r :: l.take i.toNat, rfl, ?_, ?_⟩
      · have h3 := (hl.take i.toNat).len
        rw [List.length_take] at h3
        rw [flat_sum, List.flatten_cons, List.length_append]
        simp only [Nat.mul_zero]
        omega
      · rw [join0, List.flatten_cons]
        exact hQ _ M2 ⟨r, l.take i.toNat, hr, by rw [List.length_take]; omega, hl.take _, rfl⟩ (s1.trans s2)
    · split
      · split
        · rename_i h7
          refine ⟨a, rfl, s1.1, fun y M2 hy s2 => ?_⟩
          walk_at "dl"
          have := hy.len
          rw [List.length_map] at h7
          refine ⟨by rw [List.length_append]; omega, hQ _ M2 ?_ (s1.trans s2)⟩
          refine ⟨r, l ++ [y], hr, ?_, hl.append (Steps.one hy), by simp⟩
          rw [List.length_append]
          show l.length + 1 ≤ k
          omega
        · exact c4
      · exact c4
end DL

namespace DL
open PySem L2
local macro_rules | `(tactic| walk_at "dl") => `(tactic| try simp (config := { proj := false }) only [↓ex_mk, ↓nx_mk, ↓rt_mk, ↓bk_mk, ↓ct_mk, ↓xc_mk, ↓u_c, ↓u_op, ↓u_un, ↓u_and, ↓u_or, ↓u_not, ↓u_if, ↓u_anil, ↓u_acons, ↓u_lst, ↓u_lstM, ↓u_tup, ↓u_call, ↓u_sl, ↓u_onone, ↓u_cb, ↓u_mt, ↓u_mt0, ↓u_pass, ↓u_seq, ↓u_set, ↓u_asg, ↓u_drop, ↓u_ret, ↓u_retN, ↓u_ifs, ↓u_brk, ↓u_cnt, ↓u_for, ↓u_gname, ↓u_gsub, ↓u_fs, ↓u_fmt, ↓u_js0, ↓u_js, ↓u_em, ↓u_yes, ↓u_never, ↓u_ref, ↓u_forR, ↓u_star, ↓u_dict, ↓u_dict0, ↓u_dp0, ↓u_dp1, ↓u_forK, ↓u_lock, ↓u_kd, ↓u_fld, ↓u_setF, ↓u_make, ↓u_binL, ↓u_binR, ↓u_inO, ↓u_getO, ↓u_setO, ↓u_augO, ↓u_prp, ↓u_inv, ↓u_meth, ↓u_keys, ↓u_try, ↓u_cm, ↓u_makeV, ↓r_enum, ↓r_own, ↓u_raise, ↓u_tryas, ↓u_ca, ↓u_xf, ↓u_idxC, su_mk,
  ↓r_var, ↓r_test, ↓r_andV, ↓r_orV, ↓r_notV, ↓r_tru, ↓r_frz, ↓r_osome, ↓r_any, ↓r_scr, scr_c, ↓r_rng1, ↓r_rng2, ↓r_fz, wipeD,
  onSome_s, onBl_b, onInt_i, onStr_s, onVar_s, onML_l, onML2_l, onML2_d, onDK_d, fmt_s, fmt_i, tru_n, tru_b, tru_i, tru_s, tru_l, tru_t, tru_r, frz_r, sl_s, sl_l, sl_t, sl_r, add_i, add_s, add_l, add_t, add_rl, add_lr, sub_i, mul_i, div_i, mod_i, pow_i, neg_i, cmp_i, eq_i, eq_s, eq_b, eq_n, eq_l, eq_t, eq_rl, eq_lr, eq_ni, eq_in, eq_ns, eq_sn, eq_nb, eq_bn, eq_is, eq_si,
  ix_l, ix_t, ix_s, ix_ri, ix_rs, in_ss, in_l, in_t, in_ir, in_sr, isB_t, isB_f, ltS_s, gtS_s, sorted_l, keyK_s, keyK_i, u_dget, lenOR_r, listOR_r, isn_n, isn_b, isn_i, isn_s, isn_r, isn_l, isn_t, len_s, len_c, len_l, len_t, len_r, int_i, int_b, min_ii, max_ii, list_l, list_t, list_r, list_c, listM_l, listM_c, listM_t, listM_r, isi_, isi_k, ty_n, ty_b, ty_i, ty_s, ty_l, ty_t, it_s, it_l, it_r, itM_l, itM_d, app_r, rev_r, ends_s, ins_r, set_rs, str_i, str_s, ext_l, pop_r, clr_r, star_l, star_t, star_r, onRef_r, onML3_l, onML3_d, onML3_f, onDR_d, onDR_f, onFK_f, join_l, join_t, join_r, starts_s, r_gtup, r_glst, r_gnil, r_gcons, set_r, items_s, items_l, items_t, rng1_i, rng2_i, fz_r, addM_l, addM_rl, onIns_i, onLst_l, isIns_r, isInsM_i, noF_r, noFM_i, rows_r, lenO_r, listO_r, listOM_r, isCK_i, isCK_l, isC_r, isC_s, isC_i, isC_b, isC_n, isC_l, isC_t, putG_0, putG_1, lk_1, onCl_c, onEnum_l, index_l, strO_r, cmpO_r, pop1_r, tuple_l, tuple_t, divmod_i, upper_s, indexT_t, onExc_e, isE_t, isE_c, isE_v, zip_1,
  List.map_cons, List.map_nil, List.cons_append, List.nil_append, List.length_cons, List.length_nil, List.replicate, List.getElem?_cons_zero, List.getElem?_cons_succ, List.set_cons_zero, List.set_cons_succ, id, decide_eq_true_eq, if_true, if_false, Bool.false_eq_true, reduceIte, Bool.not_true, Bool.not_false, true_and, Nat.reduceAdd, Nat.reduceSub, Int.reduceToNat, Int.toNat_natCast, put_same, put_put, atI_0, atI_1, atI_2, atI_3, atI_4, ixN_40, ixN_41, ixN_42, ixN_43])
/-! ### arguments and calls -/
inductive Ar where
  | num (i : Int)
  | pass (x : Tx)
  | loc (k pl : Tx)
  | call (p nm pl : Tx) (as : List Ar)
abbrev callD (p nm pl : Tx) (y : D) : D := .tup [.str (T "call"), .str p, .str nm, .str pl, y]
def callT (p nm pl : Tx) (ts : List Tx) : Tx := p ++ [32] ++ nm ++ [32] ++ pl ++ [40] ++ joinT [44, 32] ts ++ [41]
def L_LOC : List Tx := [T "see", T "lend", T "peek", T "copy", T "note"]
def L_POW : List Tx := [T "look", T "mark", T "fill", T "pack", T "work"]
mutual
def Ar.d : Ar → D
  | .num i => .tup [.str (T "number"), .int i]
  | .pass x => .tup [.str (T "pass"), .str x]
  | .loc k x => .tup [.str k, .str x]
  | .call p nm pl as => callD p nm pl (.lst (arsD as))
def arsD : List Ar → List D
  | [] => []
  | a :: as => a.d :: arsD as
end
mutual
def Ar.t : Ar → Tx
  | .num i => intT i
  | .pass x => T "pass" ++ [32] ++ x
  | .loc k x => k ++ [32] ++ x
  | .call p nm pl as => callT p nm pl (arsT as)
def arsT : List Ar → List Tx
  | [] => []
  | a :: as => a.t :: arsT as
end
mutual
def Ar.dep : Ar → Nat
  | .call _ _ _ as => arsDep as + 1
  | _ => 0
def arsDep : List Ar → Nat
  | [] => 0
  | a :: as => max a.dep (arsDep as)
end
mutual
def Ar.ok : Ar → Prop
  | .num i => 0 ≤ i ∧ i < 1000000000
  | .pass x => Nm x
  | .loc k x => k ∈ L_LOC ∧ Nd 6 x
  | .call p nm pl as => p ∈ L_POW ∧ Nm nm ∧ Nd 6 pl ∧ as.length ≤ 4 ∧ arsOk as
def arsOk : List Ar → Prop
  | [] => True
  | a :: as => a.ok ∧ arsOk as
end
theorem arsD_map : ∀ as : List Ar, arsD as = as.map Ar.d
  | [] => rfl
  | a :: as => by rw [arsD, arsD_map as]; rfl
theorem arsT_map : ∀ as : List Ar, arsT as = as.map Ar.t
  | [] => rfl
  | a :: as => by rw [arsT, arsT_map as]; rfl
theorem arsDep_le {n : Nat} : ∀ {as : List Ar}, arsDep as ≤ n ↔ ∀ a ∈ as, a.dep ≤ n
  | [] => by simp [arsDep]
  | a :: as => by
    rw [arsDep, Nat.max_le, arsDep_le]
    simp
theorem arsOk_all : ∀ {as : List Ar}, arsOk as ↔ ∀ a ∈ as, a.ok
  | [] => by simp [arsOk]
  | a :: as => by
    rw [arsOk, arsOk_all]
    simp
/-- where the arguments of a call stand -/
def ArgsAt (M : Mu) (y : D) (as : List Ar) : Prop := y = .lst (as.map Ar.d) ∨ ∃ a, y = .ref a ∧ M a = some (.lst (as.map Ar.d))
def CallAt (M : Mu) (d : D) (p nm pl : Tx) (as : List Ar) : Prop := ∃ y, d = callD p nm pl y ∧ ArgsAt M y as
theorem call_ok {p nm pl : Tx} {as : List Ar} : (Ar.call p nm pl as).ok ↔ p ∈ L_POW ∧ Nm nm ∧ Nd 6 pl ∧ as.length ≤ 4 ∧ ∀ a ∈ as, a.ok := by
  rw [Ar.ok, arsOk_all]
theorem call_dep {p nm pl : Tx} {as : List Ar} {n : Nat} : (Ar.call p nm pl as).dep ≤ n + 1 ↔ ∀ a ∈ as, a.dep ≤ n := by
  rw [Ar.dep, Nat.add_le_add_iff_right, arsDep_le]
theorem call_dep0 {p nm pl : Tx} {as : List Ar} : ¬ (Ar.call p nm pl as).dep ≤ 0 := by
  rw [Ar.dep]; omega
theorem call_d {p nm pl : Tx} {as : List Ar} : (Ar.call p nm pl as).d = callD p nm pl (.lst (as.map Ar.d)) := by rw [Ar.d, arsD_map]
theorem call_t {p nm pl : Tx} {as : List Ar} : (Ar.call p nm pl as).t = callT p nm pl (as.map Ar.t) := by rw [Ar.t, arsT_map]
theorem Ar.at_ {M : Mu} {p nm pl : Tx} {as : List Ar} : CallAt M (Ar.call p nm pl as).d p nm pl as := ⟨_, call_d, .inl rfl⟩
/-! lengths -/
theorem callT_len {p nm pl : Tx} {ts : List Tx} : (callT p nm pl ts).length = p.length + nm.length + pl.length + (joinT [44, 32] ts).length + 4 := by
  unfold callT
  simp only [List.length_append, List.length_cons, List.length_nil]
  omega
theorem joinA_len {n : Nat} : ∀ {ys : List Tx}, (∀ y ∈ ys, y.length ≤ n) → (joinT [44, 32] ys).length ≤ ys.length * (n + 2)
  | [], _ => Nat.zero_le _
  | [x], h => by
    have := h x (by simp)
    show x.length ≤ 1 * (n + 2)
    omega
  | x :: y :: r, h => by
    have e : (joinT [44, 32] (x :: y :: r)).length = x.length + (2 + (joinT [44, 32] (y :: r)).length) := by
      show (x ++ ([44, 32] ++ joinT [44, 32] (y :: r))).length = _
      rw [List.length_append, List.length_append]; rfl
    have ih := joinA_len (ys := y :: r) fun z hz => h z (List.mem_cons_of_mem _ hz)
    have hx := h x (by simp)
    rw [e, List.length_cons]
    rw [Nat.succ_mul]
    omega
theorem small_log {i : Int} (h0 : 0 ≤ i) (h1 : i < 1000000000) : i.natAbs.log2 < 1920 := by
  by_cases z : i.natAbs = 0
  · rw [z]
    decide
  · rw [Nat.log2_lt z]
    have h2 : i.natAbs < 2 ^ 30 := by omega
    exact Nat.lt_of_lt_of_le h2 (Nat.pow_le_pow_right (by decide) (by decide))
theorem intT_len {i : Int} (h0 : 0 ≤ i) (h1 : i < 1000000000) : (intT i).length ≤ 9 := by
  have q := PyProof.Rows.toString_length_le (k := 9) h0 (by decide) (show i < 10 ^ 9 by omega)
  show (Str.ofString (toString i)).cps.toList.length ≤ 9
  rw [Array.length_toList]
  exact q
def LB : Nat → Nat
  | 0 => 100
  | n + 1 => 100 + 4 * (LB n + 2)
theorem LB_mono : ∀ {n m : Nat}, n ≤ m → LB n ≤ LB m
  | 0, 0, _ => Nat.le_refl _
  | 0, m + 1, _ => by unfold LB; omega
  | n + 1, 0, h => by omega
  | n + 1, m + 1, h => by
    have := LB_mono (n := n) (m := m) (by omega)
    unfold LB; omega
theorem loc_len {k : Tx} (h : k ∈ L_LOC) : k.length ≤ 10 := by
  have := List.all_eq_true.mp (show L_LOC.all (fun k => decide (k.length ≤ 10)) = true by decide +kernel) k h
  exact of_decide_eq_true this
theorem pow_len {k : Tx} (h : k ∈ L_POW) : k.length ≤ 10 := by
  have := List.all_eq_true.mp (show L_POW.all (fun k => decide (k.length ≤ 10)) = true by decide +kernel) k h
  exact of_decide_eq_true this
theorem loc_ne {k : Tx} (h : k ∈ L_LOC) : k ≠ T "call" ∧ k ≠ T "number" ∧ k ≠ T "pass" := by
  have := List.all_eq_true.mp (show L_LOC.all (fun k => decide (k ≠ T "call" ∧ k ≠ T "number" ∧ k ≠ T "pass")) = true by decide +kernel) k h
  exact of_decide_eq_true this
theorem Ar.len : ∀ {n : Nat} {a : Ar}, a.ok → a.dep ≤ n → a.t.length ≤ LB n
  | n, .num i, h, _ => by
    rw [Ar.ok] at h
    have := intT_len h.1 h.2
    have l0 : 100 ≤ LB n := LB_mono (Nat.zero_le n)
    rw [Ar.t]
    omega
  | n, .pass x, h, _ => by
    rw [Ar.ok] at h
    have := h.2.1
    have l0 : 100 ≤ LB n := LB_mono (Nat.zero_le n)
    have l : (T "pass").length ≤ 10 := by decide +kernel
    rw [Ar.t]
    simp only [List.length_append, List.length_cons, List.length_nil]
    omega
  | n, .loc k x, h, _ => by
    rw [Ar.ok] at h
    have := h.2.len
    have := loc_len h.1
    have l0 : 100 ≤ LB n := LB_mono (Nat.zero_le n)
    rw [Ar.t]
    simp only [List.length_append, List.length_cons, List.length_nil]
    omega
  | 0, .call p nm pl as, h, hd => absurd hd call_dep0
  | n + 1, .call p nm pl as, h, hd => by
    obtain ⟨h1, h2, h3, h4, h5⟩ := call_ok.mp h
    have hd := call_dep.mp hd
    have ih : ∀ y ∈ as.map Ar.t, y.length ≤ LB n := fun y hy => by
      obtain ⟨a, ha, rfl⟩ := List.mem_map.mp hy
      exact Ar.len (h5 a ha) (hd a ha)
    have := joinA_len ih
    have := pow_len h1
    have := h2.2.1
    have := h3.len
    rw [call_t, callT_len]
    rw [List.length_map] at *
    have h6 : as.length * (LB n + 2) ≤ 4 * (LB n + 2) := Nat.mul_le_mul_right _ h4
    show _ ≤ 100 + 4 * (LB n + 2)
    omega
theorem LB5 : LB 5 ≤ 200000 := by decide +kernel
theorem Ar.len5 {a : Ar} (h : a.ok) (hd : a.dep ≤ 5) : a.t.length ≤ 200000 := Nat.le_trans (Ar.len h hd) LB5
/-- turn by turn, over things -/
theorem lc_maps {α : Type} {i : Nat} {vs : List Nat} {τ : DSt} {p : Addr} {te : DTE} {Nx : Mu → Prop} {M : Mu} (as : List α) (g h : α → D) (hl : as.length < 16777216) (hp : M p = none)
    (he : ∀ a ∈ as, ∀ acc (N : D → Mu → Prop), N (h a) (put M p (.lst acc)) → te ((wipeD τ vs).set i (some (g a))) (put M p (.lst acc)) N noX)
    (hn : Nx (put M p (.lst (as.map h)))) : wTs (dgName i) dYes vs τ (wNst (dEm p te) []) Nx (as.map g) (put M p (.lst [])) := by
  refine lc_by (fun k acc M' => acc = (as.take k).map h ∧ M' = put M p (.lst acc)) ⟨rfl, rfl⟩ put_same ?_ ?_
  · rintro k d acc M' hd ha ⟨rfl, rfl⟩ N hy hn
    obtain ⟨a, hk, rfl⟩ := map_at hd
    have hi := (List.getElem?_eq_some_iff.mp hk).1
    refine he a (List.mem_of_getElem? hk) _ _ ?_
    refine ⟨_, put_same, by rw [line24, List.length_map, List.length_take]; omega, ?_⟩
    exact hy _ _ put_same ⟨by rw [List.take_succ, hk, List.map_append]; rfl, by rw [put_put]⟩
  · rintro acc M' ha ⟨rfl, rfl⟩
    rw [List.length_map, List.take_length]
    exact hn
theorem lcR_maps {α : Type} {i : Nat} {vs : List Nat} {τ : DSt} {p q : Addr} {te : DTE} {Nx : Mu → Prop} {M : Mu} (as : List α) (g h : α → D) (hl : as.length < 16777216) (hm : M q = some (.lst (as.map g))) (hp : M p = none)
    (he : ∀ a ∈ as, ∀ acc (N : D → Mu → Prop), N (h a) (put M p (.lst acc)) → te ((wipeD τ vs).set i (some (g a))) (put M p (.lst acc)) N noX)
    (hn : Nx (put M p (.lst (as.map h)))) : wTsR q (as.map g) (dgName i) dYes vs τ (dEm p te) Nx (as.map g) (put M p (.lst [])) := by
  have hqp : q ≠ p := fun z => by rw [z, hp] at hm; cases hm
  refine lcR_map (f := fun k => ((as[k]?).map h).getD .non) (by rw [List.length_map]; exact hl) hm hqp ?_ ?_
  · intro k d hd acc N hN
    obtain ⟨a, hk, rfl⟩ := map_at hd
    rw [hk] at hN
    exact he a (List.mem_of_getElem? hk) acc N hN
  · have e : (List.range (as.map g).length).map (fun k => ((as[k]?).map h).getD .non) = as.map h := by
      refine List.ext_getElem? fun k => ?_
      rw [List.getElem?_map, List.getElem?_map, List.length_map]
      by_cases hk : k < as.length
      · rw [List.getElem?_range hk, List.getElem?_eq_getElem hk, Option.map_some, Option.map_some, List.getElem?_eq_getElem hk]; rfl
      · rw [List.getElem?_eq_none (by rw [List.length_range]; omega), List.getElem?_eq_none (by omega)]; rfl
    rw [e]
    exact hn
/-! ### the program's own writing -/
theorem n_number_call : (T "number" = T "call") = False := eq_false (by decide +kernel)
theorem n_pass_call : (T "pass" = T "call") = False := eq_false (by decide +kernel)
theorem n_pass_number : (T "pass" = T "number") = False := eq_false (by decide +kernel)
/-! ### the law's own writing -/
end DL

namespace DL
open PySem L2
/-! ### the source is read, things are made -/
/-- the source is read, the room, too; things may be made -/
structure SR (p r : Addr) (M M' : Mu) : Prop where
  src : Src M' p
  room : ∃ k, M' r = some (.lst [.int k])
  st : ∀ b o, b ≠ p → b ≠ r → M b = some o → M' b = some o
/-- the source is read; things may be made -/
structure SX0 (p : Addr) (M M' : Mu) : Prop where
  src : Src M' p
  st : ∀ b o, b ≠ p → M b = some o → M' b = some o
theorem SX0.trans {p : Addr} {M M1 M2 : Mu} (a : SX0 p M M1) (b : SX0 p M1 M2) : SX0 p M M2 := ⟨b.src, fun c o hc e => b.st c o hc (a.st c o hc e)⟩
theorem SrcTo.sx0 {p : Addr} {M M' : Mu} (h : SrcTo p M M') : SX0 p M M' := ⟨h.1, fun b o hb e => by rw [h.2 b hb]; exact e⟩
theorem SR.trans {p r : Addr} {M M1 M2 : Mu} (a : SR p r M M1) (b : SR p r M1 M2) : SR p r M M2 := ⟨b.src, b.room, fun c o h1 h2 e => b.st c o h1 h2 (a.st c o h1 h2 e)⟩
theorem SR.of {p r : Addr} {k : Int} {M M1 : Mu} (s : SrcTo p M M1) (hr : M r = some (.lst [.int k])) (n : p ≠ r) : SR p r M M1 := ⟨s.1, ⟨k, by rw [s.2 r (Ne.symm n)]; exact hr⟩, fun b o h1 _ e => by rw [s.2 b h1]; exact e⟩
theorem src_ne_none {M : Mu} {a : Addr} (h : Src M a) : M a ≠ none := by
  obtain ⟨ns, t, r, d, q, _⟩ := h
  rw [q]; simp
theorem pow_mem {d : D} (h : d ∈ [D.str (T "look"), .str (T "mark"), .str (T "fill"), .str (T "pack"), .str (T "work")]) : ∃ w, d = .str w ∧ w ∈ L_POW := by
  simp only [List.mem_cons, List.not_mem_nil, or_false] at h
  rcases h with rfl | rfl | rfl | rfl | rfl <;> exact ⟨_, rfl, by simp [L_POW]⟩
theorem SX0.none {p u : Addr} {M M' : Mu} (s : SX0 p M M') (h : M' u = Option.none) : M u = Option.none := by
  by_cases z : u = p
  · rw [z] at h; exact absurd h (src_ne_none s.src)
  · cases e : M u with
    | none => rfl
    | some o => rw [s.st u o z e] at h; cases h
theorem SX0.put {p u : Addr} {o : MO} {M M' : Mu} (s : SX0 p M M') (h : M u = Option.none) (n : u ≠ p) : SX0 p M (put M' u o) := ⟨by obtain ⟨ns, t, r2, dd, e, z⟩ := s.src; exact ⟨ns, t, r2, dd, by rw [put_ne (Ne.symm n)]; exact e, z⟩, fun b x h1 e => by
  have : b ≠ u := fun z => by rw [z, h] at e; cases e
  rw [put_ne this]; exact s.st b x h1 e⟩
theorem SX0.del {p u : Addr} {M M' : Mu} (s : SX0 p M M') (h : M u = Option.none) (n : u ≠ p) : SX0 p M (del M' u) := ⟨by obtain ⟨ns, t, r2, dd, e, z⟩ := s.src; exact ⟨ns, t, r2, dd, by rw [del_ne (Ne.symm n)]; exact e, z⟩, fun b x h1 e => by
  have : b ≠ u := fun z => by rw [z, h] at e; cases e
  rw [del_ne this]; exact s.st b x h1 e⟩
theorem SX0.ne {p u : Addr} {M M' : Mu} (s : SX0 p M M') (h : M' u = Option.none) : u ≠ p := fun z => by rw [z] at h; exact absurd h (src_ne_none s.src)
/-- with a room of its own -/
theorem SR.new {p r : Addr} {o : MO} {M M' : Mu} (hs : Src M p) (h : M r = none) (s : SR p r (put M r o) M') : SX0 p M M' := ⟨s.src, fun b x h1 e => by
  have : b ≠ r := fun z => by rw [z, h] at e; cases e
  exact s.st b x h1 this (by rw [put_ne this]; exact e)⟩
theorem SX0.refl {p : Addr} {M : Mu} (h : Src M p) : SX0 p M M := ⟨h, fun _ _ _ e => e⟩
end DL

namespace DL
open PySem L2
local macro_rules | `(tactic| walk_at "dl") => `(tactic| try simp (config := { proj := false }) only [↓ex_mk, ↓nx_mk, ↓rt_mk, ↓bk_mk, ↓ct_mk, ↓xc_mk, ↓u_c, ↓u_op, ↓u_un, ↓u_and, ↓u_or, ↓u_not, ↓u_if, ↓u_anil, ↓u_acons, ↓u_lst, ↓u_lstM, ↓u_tup, ↓u_call, ↓u_sl, ↓u_onone, ↓u_cb, ↓u_mt, ↓u_mt0, ↓u_pass, ↓u_seq, ↓u_set, ↓u_asg, ↓u_drop, ↓u_ret, ↓u_retN, ↓u_ifs, ↓u_brk, ↓u_cnt, ↓u_for, ↓u_gname, ↓u_gsub, ↓u_fs, ↓u_fmt, ↓u_js0, ↓u_js, ↓u_em, ↓u_yes, ↓u_never, ↓u_ref, ↓u_forR, ↓u_star, ↓u_dict, ↓u_dict0, ↓u_dp0, ↓u_dp1, ↓u_forK, ↓u_lock, ↓u_kd, ↓u_fld, ↓u_setF, ↓u_make, ↓u_binL, ↓u_binR, ↓u_inO, ↓u_getO, ↓u_setO, ↓u_augO, ↓u_prp, ↓u_inv, ↓u_meth, ↓u_keys, ↓u_try, ↓u_cm, ↓u_makeV, ↓r_enum, ↓r_own, ↓u_raise, ↓u_tryas, ↓u_ca, ↓u_xf, ↓u_idxC, su_mk,
  ↓r_var, ↓r_test, ↓r_andV, ↓r_orV, ↓r_notV, ↓r_tru, ↓r_frz, ↓r_osome, ↓r_any, ↓r_scr, scr_c, ↓r_rng1, ↓r_rng2, ↓r_fz, wipeD,
  onSome_s, onBl_b, onInt_i, onStr_s, onVar_s, onML_l, onML2_l, onML2_d, onDK_d, fmt_s, fmt_i, tru_n, tru_b, tru_i, tru_s, tru_l, tru_t, tru_r, frz_r, sl_s, sl_l, sl_t, sl_r, add_i, add_s, add_l, add_t, add_rl, add_lr, sub_i, mul_i, div_i, mod_i, pow_i, neg_i, cmp_i, eq_i, eq_s, eq_b, eq_n, eq_l, eq_t, eq_rl, eq_lr, eq_ni, eq_in, eq_ns, eq_sn, eq_nb, eq_bn, eq_is, eq_si,
  ix_l, ix_t, ix_s, ix_ri, ix_rs, in_ss, in_l, in_t, in_ir, in_sr, isB_t, isB_f, ltS_s, gtS_s, sorted_l, keyK_s, keyK_i, u_dget, lenOR_r, listOR_r, isn_n, isn_b, isn_i, isn_s, isn_r, isn_l, isn_t, len_s, len_c, len_l, len_t, len_r, int_i, int_b, min_ii, max_ii, list_l, list_t, list_r, list_c, listM_l, listM_c, listM_t, listM_r, isi_, isi_k, ty_n, ty_b, ty_i, ty_s, ty_l, ty_t, it_s, it_l, it_r, itM_l, itM_d, app_r, rev_r, ends_s, ins_r, set_rs, str_i, str_s, ext_l, pop_r, clr_r, star_l, star_t, star_r, onRef_r, onML3_l, onML3_d, onML3_f, onDR_d, onDR_f, onFK_f, join_l, join_t, join_r, starts_s, r_gtup, r_glst, r_gnil, r_gcons, set_r, items_s, items_l, items_t, rng1_i, rng2_i, fz_r, addM_l, addM_rl, onIns_i, onLst_l, isIns_r, isInsM_i, noF_r, noFM_i, rows_r, lenO_r, listO_r, listOM_r, isCK_i, isCK_l, isC_r, isC_s, isC_i, isC_b, isC_n, isC_l, isC_t, putG_0, putG_1, lk_1, onCl_c, onEnum_l, index_l, strO_r, cmpO_r, pop1_r, tuple_l, tuple_t, divmod_i, upper_s, indexT_t, onExc_e, isE_t, isE_c, isE_v, zip_1,
  List.map_cons, List.map_nil, List.cons_append, List.nil_append, List.length_cons, List.length_nil, List.replicate, List.getElem?_cons_zero, List.getElem?_cons_succ, List.set_cons_zero, List.set_cons_succ, id, decide_eq_true_eq, if_true, if_false, Bool.false_eq_true, reduceIte, Bool.not_true, Bool.not_false, true_and, Nat.reduceAdd, Nat.reduceSub, Int.reduceToNat, Int.toNat_natCast, put_same, put_put, atI_0, atI_1, atI_2, atI_3, atI_4, ixN_40, ixN_41, ixN_42, ixN_43])
/-! ### copies of calls, what they show -/
def Xt (M M' : Mu) : Prop := ∀ b o, M b = some o → M' b = some o
theorem Xt.refl (M : Mu) : Xt M M := fun _ _ h => h
theorem Xt.trans {M M1 M2 : Mu} (a : Xt M M1) (b : Xt M1 M2) : Xt M M2 := fun c o h => b c o (a c o h)
theorem Xt.put {M M' : Mu} {p : Addr} {o : MO} (x : Xt M M') (h : M p = Option.none) : Xt M (put M' p o) := fun b u e => by
  have : b ≠ p := fun z => by rw [z, h] at e; cases e
  rw [put_ne this]; exact x b u e
theorem Xt.del {M M' : Mu} {p : Addr} (x : Xt M M') (h : M p = Option.none) : Xt M (del M' p) := fun b u e => by
  have : b ≠ p := fun z => by rw [z, h] at e; cases e
  rw [del_ne this]; exact x b u e
theorem Xt.none {M M' : Mu} (x : Xt M M') {p : Addr} (h : M' p = Option.none) : M p = Option.none := by
  cases e : M p with
  | none => rfl
  | some o => rw [x p o e] at h; cases h
theorem Xt.args {M M' : Mu} (x : Xt M M') {y : D} {as : List Ar} (h : ArgsAt M y as) : ArgsAt M' y as := h.elim .inl fun ⟨a, e, ha⟩ => .inr ⟨a, e, x _ _ ha⟩
def sp_l_copy_call (n : Nat) : DSp := fun ds M Q _ => ∃ d w nm pl as, ds = [d] ∧ CallAt M d w nm pl as ∧ (Ar.call w nm pl as).ok ∧ (Ar.call w nm pl as).dep ≤ n ∧ ∀ q M', M q = none → M' q = some (.lst (as.map Ar.d)) → Xt M M' → Q (callD w nm pl (.ref q)) M'
def w_l_copy_call_b1 (n : Nat) : DTS := dIfS (dTest (dOp gEq (dOp gIx (dVar 2) (dC (.int 0))) (dC (.str (T "call"))))) (dDrop (dMt "list" gAppend (dVar 1) (daCons (dFrzT (dCall (sp_l_copy_call n) (daCons (dVar 2) (daNil)))) (daNil)))) (dDrop (dMt "list" gAppend (dVar 1) (daCons (dVar 2) (daNil))))
def w_l_copy_call_c2 (n : Nat) : DTS := dRet (dTup (daCons (dC (.str (T "call"))) (daCons (dOp gIx (dVar 0) (dC (.int 1))) (daCons (dOp gIx (dVar 0) (dC (.int 2))) (daCons (dOp gIx (dVar 0) (dC (.int 3))) (daCons (dVar 1) (daNil)))))))
def w_l_copy_call (n : Nat) : DTS := dSeq (dSet 1 (dLstM (daNil))) (dSeq (dOrS (dFor (diAny (dOp gIx (dVar 0) (dC (.int 4)))) (dgName 2) (w_l_copy_call_b1 n)) (dForR (diRef (dOp gIx (dVar 0) (dC (.int 4)))) (dgName 2) (w_l_copy_call_b1 n))) (w_l_copy_call_c2 n))
theorem no_copy0 : ∀ ds M Q E, ¬ sp_l_copy_call 0 ds M Q E := by
  rintro ds M Q E ⟨d, p, nm, pl, as, _, _, _, h, _⟩
  exact call_dep0 h
theorem copy_b1 {n : Nat} {x0 : Option D} {u : Addr} {a : Ar} {bs : List Ar} {M : Mu} {D0 : DEnds} (ha : a.ok) (hd : a.dep ≤ n) (hu : M u = some (.lst (bs.map Ar.d))) (hl : bs.length ≤ 100)
    (hn : ∀ M', Xt M M' → M' u = some (.lst (bs.map Ar.d)) → D0.nx [x0, some (.ref u), some a.d] (put M' u (.lst ((bs ++ [a]).map Ar.d)))) : w_l_copy_call_b1 n D0 [x0, some (.ref u), some a.d] M := by
  have fin := hn M (Xt.refl M) hu
  rw [List.map_append] at fin
  unfold w_l_copy_call_b1
  cases a with
  | num i =>
    rw [Ar.d] at fin ⊢
    try simp only [hu, n_number_call]
    walk_at "dl"
    try simp only [hu, n_number_call]
    walk_at "dl"
    try simp only [hu, n_number_call]
    walk_at "dl"
    try simp only [hu, n_number_call]
    walk_at "dl"
    try simp only [hu, n_number_call]
    walk_at "dl"
    try simp only [hu, n_number_call]
    walk_at "dl"
    try simp only [hu, n_number_call]
    walk_at "dl"
    try simp only [hu, n_number_call]
    walk_at "dl"
    try simp only [hu, n_number_call]
    walk_at "dl"
    try simp only [hu, n_number_call]
    walk_at "dl"
    rw [List.length_map]
    exact ⟨by omega, by rw [List.map_cons, List.map_nil, Ar.d] at fin; exact fin⟩
  | pass x =>
    rw [Ar.d] at fin ⊢
    try simp only [hu, n_pass_call]
    walk_at "dl"
    try simp only [hu, n_pass_call]
    walk_at "dl"
    try simp only [hu, n_pass_call]
    walk_at "dl"
    try simp only [hu, n_pass_call]
    walk_at "dl"
    try simp only [hu, n_pass_call]
    walk_at "dl"
    try simp only [hu, n_pass_call]
    walk_at "dl"
    try simp only [hu, n_pass_call]
    walk_at "dl"
    try simp only [hu, n_pass_call]
    walk_at "dl"
    try simp only [hu, n_pass_call]
    walk_at "dl"
    try simp only [hu, n_pass_call]
    walk_at "dl"
    rw [List.length_map]
    exact ⟨by omega, by rw [List.map_cons, List.map_nil, Ar.d] at fin; exact fin⟩
  | loc k x =>
    rw [Ar.ok] at ha
    obtain ⟨h1, h2, h3⟩ := loc_ne ha.1
    rw [Ar.d] at fin ⊢
    walk_at "dl"
    rw [if_neg h1]
    try simp only [hu]
    walk_at "dl"
    try simp only [hu]
    walk_at "dl"
    try simp only [hu]
    walk_at "dl"
    try simp only [hu]
    walk_at "dl"
    try simp only [hu]
    walk_at "dl"
    try simp only [hu]
    walk_at "dl"
    try simp only [hu]
    walk_at "dl"
    try simp only [hu]
    walk_at "dl"
    try simp only [hu]
    walk_at "dl"
    try simp only [hu]
    walk_at "dl"
    rw [List.length_map]
    exact ⟨by omega, by rw [List.map_cons, List.map_nil, Ar.d] at fin; exact fin⟩
  | call w nm pl as =>
    have e := call_d (p := w) (nm := nm) (pl := pl) (as := as)
    rw [e] at fin hn ⊢
    try simp only [hu]
    walk_at "dl"
    try simp only [hu]
    walk_at "dl"
    try simp only [hu]
    walk_at "dl"
    try simp only [hu]
    walk_at "dl"
    try simp only [hu]
    walk_at "dl"
    try simp only [hu]
    walk_at "dl"
    try simp only [hu]
    walk_at "dl"
    try simp only [hu]
    walk_at "dl"
    try simp only [hu]
    walk_at "dl"
    try simp only [hu]
    walk_at "dl"
    refine ⟨_, w, nm, pl, as, rfl, ⟨_, rfl, .inl rfl⟩, ha, hd, fun q M' hq hq2 x => ?_⟩
    have hu' := x _ _ hu
    have nqu : u ≠ q := fun z => by rw [← z, hu] at hq; cases hq
    show frzTK (K := _) ⟨⟩ (callD w nm pl (.ref q)) M'
    try simp only [frzT_5, hq2, del_ne nqu, hu']
    walk_at "dl"
    try simp only [frzT_5, hq2, del_ne nqu, hu']
    walk_at "dl"
    try simp only [frzT_5, hq2, del_ne nqu, hu']
    walk_at "dl"
    try simp only [frzT_5, hq2, del_ne nqu, hu']
    walk_at "dl"
    try simp only [frzT_5, hq2, del_ne nqu, hu']
    walk_at "dl"
    try simp only [frzT_5, hq2, del_ne nqu, hu']
    walk_at "dl"
    try simp only [frzT_5, hq2, del_ne nqu, hu']
    walk_at "dl"
    try simp only [frzT_5, hq2, del_ne nqu, hu']
    walk_at "dl"
    try simp only [frzT_5, hq2, del_ne nqu, hu']
    walk_at "dl"
    try simp only [frzT_5, hq2, del_ne nqu, hu']
    walk_at "dl"
    rw [List.length_map]
    have q2 := hn (del M' q) (x.del hq) (by rw [del_ne nqu]; exact hu')
    rw [List.map_append, List.map_cons, List.map_nil, e] at q2
    exact ⟨by omega, q2⟩
theorem p_l_copy_call (n : Nat) : ∀ ds M Q E, sp_l_copy_call (n + 1) ds M Q E → w_l_copy_call n (Ret Q E) (ds.map some ++ List.replicate (3 - 1) none) M := by
  rintro ds M Q E ⟨d, w, nm, pl, as, rfl, ⟨y, rfl, hy⟩, hok, hd, hQ⟩
  have hd' := call_dep.mp hd
  obtain ⟨h1, h2, h3, h4, h5⟩ := call_ok.mp hok
  unfold w_l_copy_call
  walk_at "dl"
  refine ⟨by decide, fun u hu => ?_⟩
  have x0 : Xt M (put M u (.lst [])) := (Xt.refl M).put hu
  let I : Nat → DSt → Mu → Prop := fun i τ M' => (∃ x2, τ = [some (callD w nm pl y), some (.ref u), x2]) ∧ M' u = some (.lst ((as.take i).map Ar.d)) ∧ Xt M M'
  have step : ∀ {D0 : DEnds} i a M', as[i]? = some a → M' u = some (.lst ((as.take i).map Ar.d)) → Xt M M' → (∀ τ2 M2, I (i + 1) τ2 M2 → D0.nx τ2 M2) → w_l_copy_call_b1 n D0 [some (callD w nm pl y), some (.ref u), some a.d] M' := by
    intro D0 i a M' ha hu' x hn
    have ham := List.mem_of_getElem? ha
    refine copy_b1 (h5 a ham) (hd' a ham) hu' (by rw [List.length_take]; omega) fun M2 x2 hu2 => hn _ _ ⟨⟨_, rfl⟩, ?_, ?_⟩
    · rw [put_same, List.take_succ, ha]; rfl
    · exact (x.trans x2).put hu
  have fin : ∀ τ M', I as.length τ M' → w_l_copy_call_c2 n (Ret Q E) τ M' := by
    rintro τ M' ⟨⟨x2, rfl⟩, hu', x⟩
    rw [List.take_length] at hu'
    unfold w_l_copy_call_c2
    walk_at "dl"
    exact ⟨by decide, hQ u M' hu hu' x⟩
  rcases hy with rfl | ⟨a, rfl, ha⟩
  · try simp only [dOrS]
    walk_at "dl"
    try simp only [dOrS]
    walk_at "dl"
    left
    walk_at "dl"
    refine wFor_by I ⟨⟨_, rfl⟩, by rw [put_same]; rfl, x0⟩ ?_ fun τ M' h => ?_
    · rintro i d τ M' hdi ⟨⟨x2, rfl⟩, hu', x⟩ nxt hn
      obtain ⟨b, hb, rfl⟩ := map_at hdi
      walk_at "dl"
      exact step i b M' hb hu' x hn
    · rw [List.length_map] at h
      exact fin τ M' h
  · have nau : a ≠ u := fun z => by rw [z, hu] at ha; cases ha
    try simp only [dOrS]
    walk_at "dl"
    try simp only [dOrS]
    walk_at "dl"
    right
    try simp only [put_ne nau, ha]
    walk_at "dl"
    try simp only [put_ne nau, ha]
    walk_at "dl"
    try simp only [put_ne nau, ha]
    walk_at "dl"
    try simp only [put_ne nau, ha]
    walk_at "dl"
    try simp only [put_ne nau, ha]
    walk_at "dl"
    try simp only [put_ne nau, ha]
    walk_at "dl"
    try simp only [put_ne nau, ha]
    walk_at "dl"
    try simp only [put_ne nau, ha]
    walk_at "dl"
    try simp only [put_ne nau, ha]
    walk_at "dl"
    try simp only [put_ne nau, ha]
    walk_at "dl"
    refine wForR_by (fun i τ M' => I i τ M') ⟨⟨_, rfl⟩, by rw [put_same]; rfl, x0⟩ (fun i τ M' h => h.2.2 a _ ha) ?_ fun τ M' h => ?_
    · rintro i d τ M' hdi ⟨⟨x2, rfl⟩, hu', x⟩ nxt hn
      obtain ⟨b, hb, rfl⟩ := map_at hdi
      walk_at "dl"
      exact step i b M' hb hu' x hn
    · rw [List.length_map] at h
      exact fin τ M' h
/-! ### views -/
theorem pl_str {k : Nat} {x : Tx} : pln k (.str x) = true := by unfold pln; rfl
theorem pl_int {k : Nat} {i : Int} : pln k (.int i) = true := by unfold pln; rfl
theorem pl_tup {k : Nat} {ds : List D} (hl : ds.length ≤ 1000000) (h : ∀ d ∈ ds, pln k d = true) : pln (k + 1) (.tup ds) = true := by
  unfold pln plnIn
  rw [decide_eq_true hl, Bool.true_and]
  exact plns_of h
theorem pl_lst {k : Nat} {ds : List D} (hl : ds.length ≤ 1000000) (h : ∀ d ∈ ds, pln k d = true) : pln (k + 1) (.lst ds) = true := by
  unfold pln plnIn
  rw [decide_eq_true hl, Bool.true_and]
  exact plns_of h
theorem Ar.pl : ∀ {n : Nat} {a : Ar}, a.ok → a.dep ≤ n → ∀ {k : Nat}, 2 * n + 1 ≤ k → pln k a.d = true
  | n, .num i, h, _, k + 1, hk => by
    rw [Ar.d]
    refine pl_tup (by simp) fun d hd => ?_
    simp only [List.mem_cons, List.not_mem_nil, or_false] at hd
    rcases hd with rfl | rfl
    · exact pl_str
    · exact pl_int
  | n, .pass x, h, _, k + 1, hk => by
    rw [Ar.d]
    refine pl_tup (by simp) fun d hd => ?_
    simp only [List.mem_cons, List.not_mem_nil, or_false] at hd
    rcases hd with rfl | rfl <;> exact pl_str
  | n, .loc l x, h, _, k + 1, hk => by
    rw [Ar.d]
    refine pl_tup (by simp) fun d hd => ?_
    simp only [List.mem_cons, List.not_mem_nil, or_false] at hd
    rcases hd with rfl | rfl <;> exact pl_str
  | 0, .call p nm pl as, h, hd, _, _ => absurd hd call_dep0
  | n + 1, .call p nm pl as, h, hd, k + 1, hk => by
    obtain ⟨j, rfl⟩ : ∃ j, k = j + 1 := ⟨k - 1, by omega⟩
    obtain ⟨h1, h2, h3, h4, h5⟩ := call_ok.mp h
    have hd := call_dep.mp hd
    rw [call_d]
    refine pl_tup (by simp) fun d hd2 => ?_
    simp only [List.mem_cons, List.not_mem_nil, or_false] at hd2
    rcases hd2 with rfl | rfl | rfl | rfl | rfl
    · exact pl_str
    · exact pl_str
    · exact pl_str
    · exact pl_str
    · refine pl_lst (by rw [List.length_map]; omega) fun d hd2 => ?_
      obtain ⟨a, ha, rfl⟩ := List.mem_map.mp hd2
      exact Ar.pl (h5 a ha) (hd a ha) (by omega)
  | _, _, _, _, 0, hk => by omega
theorem vw_st {M : Mu} {k : Nat} {x : Tx} : vw M k (.str x) = .str x := by cases k <;> rfl
/-- what a call shows -/
theorem CallAt.vw {M : Mu} {d : D} {w nm pl : Tx} {as : List Ar} (h : CallAt M d w nm pl as) (ho : (Ar.call w nm pl as).ok) {n k : Nat} (hd : (Ar.call w nm pl as).dep ≤ n) (hk : 2 * n + 1 ≤ k) : DL.vw M k d = (Ar.call w nm pl as).d := by
  obtain ⟨y, rfl, hy⟩ := h
  have p := Ar.pl ho hd hk
  rcases hy with rfl | ⟨a, rfl, ha⟩
  · rw [← call_d]
    exact vw_pln M p
  · obtain ⟨h1, h2, h3, h4, h5⟩ := call_ok.mp ho
    cases n with
    | zero => exact absurd hd call_dep0
    | succ n =>
      have hd := call_dep.mp hd
      obtain ⟨j, rfl⟩ : ∃ j, k = j + 2 := ⟨k - 2, by omega⟩
      show D.tup [DL.vw M (j + 1) _, DL.vw M (j + 1) _, DL.vw M (j + 1) _, DL.vw M (j + 1) _, DL.vw M (j + 1) _] = _
      rw [vw_st, vw_st, vw_st, vw_st, call_d]
      have e : DL.vw M (j + 1) (.ref a) = .lst (as.map Ar.d) := by
        show (match M a with
          | some (.lst ds) => D.lst (ds.map (DL.vw M j))
          | _ => .ref a) = _
        rw [ha]
        show D.lst _ = _
        rw [List.map_map]
        congr 1
        exact List.map_congr_left fun a ha => vw_pln M (Ar.pl (h5 a ha) (hd a ha) (by omega))
      rw [e]
theorem same_v {n : Nat} {x y d : D} {M : Mu} {Q : DK} {E : DX} (hx : vw M n x = d) (hy : vw M n y = d) (h : pln n d = true) (q : Q (.bl true) M) : sp_l_same n [x, y] M Q E := by
  refine ⟨_, _, rfl, by rw [hx]; exact h, by rw [hy]; exact h, ?_⟩
  rw [hx, hy, eqD_refl]
  exact q
end DL

namespace DL
open PySem L2
local macro_rules | `(tactic| walk_at "dl") => `(tactic| try simp (config := { proj := false }) only [↓ex_mk, ↓nx_mk, ↓rt_mk, ↓bk_mk, ↓ct_mk, ↓xc_mk, ↓u_c, ↓u_op, ↓u_un, ↓u_and, ↓u_or, ↓u_not, ↓u_if, ↓u_anil, ↓u_acons, ↓u_lst, ↓u_lstM, ↓u_tup, ↓u_call, ↓u_sl, ↓u_onone, ↓u_cb, ↓u_mt, ↓u_mt0, ↓u_pass, ↓u_seq, ↓u_set, ↓u_asg, ↓u_drop, ↓u_ret, ↓u_retN, ↓u_ifs, ↓u_brk, ↓u_cnt, ↓u_for, ↓u_gname, ↓u_gsub, ↓u_fs, ↓u_fmt, ↓u_js0, ↓u_js, ↓u_em, ↓u_yes, ↓u_never, ↓u_ref, ↓u_forR, ↓u_star, ↓u_dict, ↓u_dict0, ↓u_dp0, ↓u_dp1, ↓u_forK, ↓u_lock, ↓u_kd, ↓u_fld, ↓u_setF, ↓u_make, ↓u_binL, ↓u_binR, ↓u_inO, ↓u_getO, ↓u_setO, ↓u_augO, ↓u_prp, ↓u_inv, ↓u_meth, ↓u_keys, ↓u_try, ↓u_cm, ↓u_makeV, ↓r_enum, ↓r_own, ↓u_raise, ↓u_tryas, ↓u_ca, ↓u_xf, ↓u_idxC, su_mk,
  ↓r_var, ↓r_test, ↓r_andV, ↓r_orV, ↓r_notV, ↓r_tru, ↓r_frz, ↓r_osome, ↓r_any, ↓r_scr, scr_c, ↓r_rng1, ↓r_rng2, ↓r_fz, wipeD,
  onSome_s, onBl_b, onInt_i, onStr_s, onVar_s, onML_l, onML2_l, onML2_d, onDK_d, fmt_s, fmt_i, tru_n, tru_b, tru_i, tru_s, tru_l, tru_t, tru_r, frz_r, sl_s, sl_l, sl_t, sl_r, add_i, add_s, add_l, add_t, add_rl, add_lr, sub_i, mul_i, div_i, mod_i, pow_i, neg_i, cmp_i, eq_i, eq_s, eq_b, eq_n, eq_l, eq_t, eq_rl, eq_lr, eq_ni, eq_in, eq_ns, eq_sn, eq_nb, eq_bn, eq_is, eq_si,
  ix_l, ix_t, ix_s, ix_ri, ix_rs, in_ss, in_l, in_t, in_ir, in_sr, isB_t, isB_f, ltS_s, gtS_s, sorted_l, keyK_s, keyK_i, u_dget, lenOR_r, listOR_r, isn_n, isn_b, isn_i, isn_s, isn_r, isn_l, isn_t, len_s, len_c, len_l, len_t, len_r, int_i, int_b, min_ii, max_ii, list_l, list_t, list_r, list_c, listM_l, listM_c, listM_t, listM_r, isi_, isi_k, ty_n, ty_b, ty_i, ty_s, ty_l, ty_t, it_s, it_l, it_r, itM_l, itM_d, app_r, rev_r, ends_s, ins_r, set_rs, str_i, str_s, ext_l, pop_r, clr_r, star_l, star_t, star_r, onRef_r, onML3_l, onML3_d, onML3_f, onDR_d, onDR_f, onFK_f, join_l, join_t, join_r, starts_s, r_gtup, r_glst, r_gnil, r_gcons, set_r, items_s, items_l, items_t, rng1_i, rng2_i, fz_r, addM_l, addM_rl, onIns_i, onLst_l, isIns_r, isInsM_i, noF_r, noFM_i, rows_r, lenO_r, listO_r, listOM_r, isCK_i, isCK_l, isC_r, isC_s, isC_i, isC_b, isC_n, isC_l, isC_t, putG_0, putG_1, lk_1, onCl_c, onEnum_l, index_l, strO_r, cmpO_r, pop1_r, tuple_l, tuple_t, divmod_i, upper_s, indexT_t, onExc_e, isE_t, isE_c, isE_v, zip_1,
  List.map_cons, List.map_nil, List.cons_append, List.nil_append, List.length_cons, List.length_nil, List.replicate, List.getElem?_cons_zero, List.getElem?_cons_succ, List.set_cons_zero, List.set_cons_succ, id, decide_eq_true_eq, if_true, if_false, Bool.false_eq_true, reduceIte, Bool.not_true, Bool.not_false, true_and, Nat.reduceAdd, Nat.reduceSub, Int.reduceToNat, Int.toNat_natCast, put_same, put_put, atI_0, atI_1, atI_2, atI_3, atI_4, ixN_40, ixN_41, ixN_42, ixN_43])
/-! ### statements -/
inductive St where
  | hold (n k pl : Tx)
  | act (p nm pl : Tx) (as : List Ar)
  | again (b : List St)
  | either (a b : List St)
mutual
def St.d : St → D
  | .hold n k pl => .tup [.str (T "hold"), .str n, .str k, .str pl]
  | .act p nm pl as => .tup [.str [100, 111], (Ar.call p nm pl as).d]
  | .again b => .tup [.str (T "again"), .lst (stsD b)]
  | .either a b => .tup [.str (T "either"), .lst (stsD a), .lst (stsD b)]
def stsD : List St → List D
  | [] => []
  | s :: ss => s.d :: stsD ss
end
mutual
def St.lines : St → Tx → List Tx
  | .hold n k pl, i => [i ++ T "hold " ++ n ++ [32] ++ k ++ [32] ++ pl]
  | .act p nm pl as, i => [i ++ T "do " ++ (Ar.call p nm pl as).t]
  | .again b, i => (i ++ T "again") :: (stsL b (i ++ [32, 32]) ++ [i ++ T "end"])
  | .either a b, i => (i ++ T "either") :: (stsL a (i ++ [32, 32]) ++ (i ++ [111, 114]) :: (stsL b (i ++ [32, 32]) ++ [i ++ T "end"]))
def stsL : List St → Tx → List Tx
  | [], _ => []
  | s :: ss, i => s.lines i ++ stsL ss i
end
mutual
def St.dep : St → Nat
  | .again b => stsDep b + 1
  | .either a b => max (stsDep a) (stsDep b) + 1
  | _ => 0
def stsDep : List St → Nat
  | [] => 0
  | s :: ss => max s.dep (stsDep ss)
end
mutual
def St.sz : St → Nat
  | .again b => stsSz b + 1
  | .either a b => stsSz a + stsSz b + 1
  | _ => 1
def stsSz : List St → Nat
  | [] => 0
  | s :: ss => s.sz + stsSz ss
end
def L_HELD : List Tx := [T "look", T "peek", T "copy", T "note"]
mutual
def St.ok : St → Prop
  | .hold n k pl => Nm n ∧ k ∈ L_HELD ∧ Nd 6 pl
  | .act p nm pl as => (Ar.call p nm pl as).ok ∧ (Ar.call p nm pl as).dep ≤ 4
  | .again b => stsOk b
  | .either a b => stsOk a ∧ stsOk b
def stsOk : List St → Prop
  | [] => True
  | s :: ss => s.ok ∧ stsOk ss
end
theorem stsD_map : ∀ b : List St, stsD b = b.map St.d
  | [] => rfl
  | s :: ss => by rw [stsD, stsD_map ss]; rfl
theorem stsOk_all : ∀ {b : List St}, stsOk b ↔ ∀ s ∈ b, s.ok
  | [] => by simp [stsOk]
  | s :: ss => by
    rw [stsOk, stsOk_all]
    simp
theorem stsDep_le {n : Nat} : ∀ {b : List St}, stsDep b ≤ n ↔ ∀ s ∈ b, s.dep ≤ n
  | [] => by simp [stsDep]
  | s :: ss => by
    rw [stsDep, Nat.max_le, stsDep_le]
    simp
theorem stsL_app {i : Tx} : ∀ {a b : List St}, stsL (a ++ b) i = stsL a i ++ stsL b i
  | [], _ => rfl
  | s :: a, b => by rw [List.cons_append, stsL, stsL, stsL_app, List.append_assoc]
theorem stsSz_app : ∀ {a b : List St}, stsSz (a ++ b) = stsSz a + stsSz b
  | [], _ => by rw [stsSz, Nat.zero_add]; rfl
  | s :: a, b => by rw [List.cons_append, stsSz, stsSz, stsSz_app, Nat.add_assoc]
theorem sz_take {b : List St} {i : Nat} : stsSz (b.take i) ≤ stsSz b := by
  have := stsSz_app (a := b.take i) (b := b.drop i)
  rw [List.take_append_drop] at this
  omega
theorem sz_mem {b : List St} {s : St} (h : s ∈ b) : s.sz ≤ stsSz b := by
  obtain ⟨x, y, rfl⟩ := List.append_of_mem h
  rw [stsSz_app, stsSz]
  omega
theorem sz_one : ∀ s : St, 1 ≤ s.sz
  | .hold .. => by rw [St.sz] <;> simp
  | .act .. => by rw [St.sz] <;> simp
  | .again b => by rw [St.sz]; omega
  | .either a b => by rw [St.sz]; omega
theorem sz_len : ∀ {b : List St}, b.length ≤ stsSz b
  | [] => Nat.zero_le _
  | s :: b => by
    have := sz_len (b := b)
    have := sz_one s
    rw [stsSz, List.length_cons]; omega
/-- where a block stands -/
def BlkAt (M : Mu) (x : D) (b : List St) : Prop := x = .lst (b.map St.d) ∨ ∃ a, x = .ref a ∧ M a = some (.lst (b.map St.d))
theorem Xt.blk {M M' : Mu} (x : Xt M M') {y : D} {b : List St} (h : BlkAt M y b) : BlkAt M' y b := h.elim .inl fun ⟨a, e, ha⟩ => .inr ⟨a, e, x _ _ ha⟩
/-! lengths -/
def tl (l : List Tx) : Nat := (l.map (·.length)).sum + l.length
theorem tl_app {a b : List Tx} : tl (a ++ b) = tl a + tl b := by
  unfold tl
  rw [List.map_append, List.sum_append, List.length_append]; omega
theorem tl_cons {a : Tx} {b : List Tx} : tl (a :: b) = a.length + 1 + tl b := by
  unfold tl
  rw [List.map_cons, List.sum_cons, List.length_cons]; omega
theorem tl_nil : tl [] = 0 := rfl
theorem held_len {k : Tx} (h : k ∈ L_HELD) : k.length ≤ 10 := by
  have := List.all_eq_true.mp (show L_HELD.all (fun k => decide (k.length ≤ 10)) = true by decide +kernel) k h
  exact of_decide_eq_true this
theorem LB4 : LB 4 ≤ 34800 := by decide +kernel
theorem w_lens : (T "hold ").length ≤ 10 ∧ (T "do ").length ≤ 10 ∧ (T "again").length ≤ 10 ∧ (T "either").length ≤ 10 ∧ (T "end").length ≤ 10 := by decide +kernel
mutual
theorem St.len : ∀ (s : St) (i : Tx), s.ok → i.length + 2 * s.dep ≤ 40 → tl (s.lines i) ≤ 35000 * s.sz
  | .hold n k pl, i, h, hi => by
    rw [St.ok] at h
    have h1 := h.1.2.1
    have h2 := held_len h.2.1
    have h3 := h.2.2.len
    obtain ⟨w1, w2, w3, w4, w5⟩ := w_lens
    rw [St.lines, tl_cons, tl_nil, show (St.hold n k pl).sz = 1 by rw [St.sz] <;> simp]
    simp only [List.length_append, List.length_cons, List.length_nil]
    omega
  | .act p nm pl as, i, h, hi => by
    rw [St.ok] at h
    have h1 := Nat.le_trans (Ar.len h.1 h.2) LB4
    obtain ⟨w1, w2, w3, w4, w5⟩ := w_lens
    rw [St.lines, tl_cons, tl_nil, show (St.act p nm pl as).sz = 1 by rw [St.sz] <;> simp]
    simp only [List.length_append, List.length_cons, List.length_nil]
    omega
  | .again b, i, h, hi => by
    rw [St.ok] at h
    rw [St.dep] at hi
    have := stsLen b (i ++ [32, 32]) h (by simp; omega)
    obtain ⟨w1, w2, w3, w4, w5⟩ := w_lens
    rw [St.lines, tl_cons, tl_app, tl_cons, tl_nil, St.sz]
    simp only [List.length_append, List.length_cons, List.length_nil]
    omega
  | .either a b, i, h, hi => by
    rw [St.ok] at h
    rw [St.dep] at hi
    have h1 := stsLen a (i ++ [32, 32]) h.1 (by simp; omega)
    have h2 := stsLen b (i ++ [32, 32]) h.2 (by simp; omega)
    obtain ⟨w1, w2, w3, w4, w5⟩ := w_lens
    rw [St.lines, tl_cons, tl_app, tl_cons, tl_app, tl_cons, tl_nil, St.sz]
    simp only [List.length_append, List.length_cons, List.length_nil]
    omega
theorem stsLen : ∀ (b : List St) (i : Tx), stsOk b → i.length + 2 * stsDep b ≤ 40 → tl (stsL b i) ≤ 35000 * stsSz b
  | [], i, _, _ => by rw [stsL, tl_nil]; exact Nat.zero_le _
  | s :: ss, i, h, hi => by
    rw [stsOk] at h
    rw [stsDep] at hi
    have h1 := St.len s i h.1 (by omega)
    have h2 := stsLen ss i h.2 (by omega)
    rw [stsL, tl_app, stsSz]
    omega
end
end DL

namespace DL
open PySem L2
local macro_rules | `(tactic| walk_at "dl") => `(tactic| try simp (config := { proj := false }) only [↓ex_mk, ↓nx_mk, ↓rt_mk, ↓bk_mk, ↓ct_mk, ↓xc_mk, ↓u_c, ↓u_op, ↓u_un, ↓u_and, ↓u_or, ↓u_not, ↓u_if, ↓u_anil, ↓u_acons, ↓u_lst, ↓u_lstM, ↓u_tup, ↓u_call, ↓u_sl, ↓u_onone, ↓u_cb, ↓u_mt, ↓u_mt0, ↓u_pass, ↓u_seq, ↓u_set, ↓u_asg, ↓u_drop, ↓u_ret, ↓u_retN, ↓u_ifs, ↓u_brk, ↓u_cnt, ↓u_for, ↓u_gname, ↓u_gsub, ↓u_fs, ↓u_fmt, ↓u_js0, ↓u_js, ↓u_em, ↓u_yes, ↓u_never, ↓u_ref, ↓u_forR, ↓u_star, ↓u_dict, ↓u_dict0, ↓u_dp0, ↓u_dp1, ↓u_forK, ↓u_lock, ↓u_kd, ↓u_fld, ↓u_setF, ↓u_make, ↓u_binL, ↓u_binR, ↓u_inO, ↓u_getO, ↓u_setO, ↓u_augO, ↓u_prp, ↓u_inv, ↓u_meth, ↓u_keys, ↓u_try, ↓u_cm, ↓u_makeV, ↓r_enum, ↓r_own, ↓u_raise, ↓u_tryas, ↓u_ca, ↓u_xf, ↓u_idxC, su_mk,
  ↓r_var, ↓r_test, ↓r_andV, ↓r_orV, ↓r_notV, ↓r_tru, ↓r_frz, ↓r_osome, ↓r_any, ↓r_scr, scr_c, ↓r_rng1, ↓r_rng2, ↓r_fz, wipeD,
  onSome_s, onBl_b, onInt_i, onStr_s, onVar_s, onML_l, onML2_l, onML2_d, onDK_d, fmt_s, fmt_i, tru_n, tru_b, tru_i, tru_s, tru_l, tru_t, tru_r, frz_r, sl_s, sl_l, sl_t, sl_r, add_i, add_s, add_l, add_t, add_rl, add_lr, sub_i, mul_i, div_i, mod_i, pow_i, neg_i, cmp_i, eq_i, eq_s, eq_b, eq_n, eq_l, eq_t, eq_rl, eq_lr, eq_ni, eq_in, eq_ns, eq_sn, eq_nb, eq_bn, eq_is, eq_si,
  ix_l, ix_t, ix_s, ix_ri, ix_rs, in_ss, in_l, in_t, in_ir, in_sr, isB_t, isB_f, ltS_s, gtS_s, sorted_l, keyK_s, keyK_i, u_dget, lenOR_r, listOR_r, isn_n, isn_b, isn_i, isn_s, isn_r, isn_l, isn_t, len_s, len_c, len_l, len_t, len_r, int_i, int_b, min_ii, max_ii, list_l, list_t, list_r, list_c, listM_l, listM_c, listM_t, listM_r, isi_, isi_k, ty_n, ty_b, ty_i, ty_s, ty_l, ty_t, it_s, it_l, it_r, itM_l, itM_d, app_r, rev_r, ends_s, ins_r, set_rs, str_i, str_s, ext_l, pop_r, clr_r, star_l, star_t, star_r, onRef_r, onML3_l, onML3_d, onML3_f, onDR_d, onDR_f, onFK_f, join_l, join_t, join_r, starts_s, r_gtup, r_glst, r_gnil, r_gcons, set_r, items_s, items_l, items_t, rng1_i, rng2_i, fz_r, addM_l, addM_rl, onIns_i, onLst_l, isIns_r, isInsM_i, noF_r, noFM_i, rows_r, lenO_r, listO_r, listOM_r, isCK_i, isCK_l, isC_r, isC_s, isC_i, isC_b, isC_n, isC_l, isC_t, putG_0, putG_1, lk_1, onCl_c, onEnum_l, index_l, strO_r, cmpO_r, pop1_r, tuple_l, tuple_t, divmod_i, upper_s, indexT_t, onExc_e, isE_t, isE_c, isE_v, zip_1,
  List.map_cons, List.map_nil, List.cons_append, List.nil_append, List.length_cons, List.length_nil, List.replicate, List.getElem?_cons_zero, List.getElem?_cons_succ, List.set_cons_zero, List.set_cons_succ, id, decide_eq_true_eq, if_true, if_false, Bool.false_eq_true, reduceIte, Bool.not_true, Bool.not_false, true_and, Nat.reduceAdd, Nat.reduceSub, Int.reduceToNat, Int.toNat_natCast, put_same, put_put, atI_0, atI_1, atI_2, atI_3, atI_4, ixN_40, ixN_41, ixN_42, ixN_43])
/-! ### drawing programs over places -/
structure Pls (pls : List Tx) : Prop where
  nd : ∀ x ∈ pls, Nd 6 x
  pos : 0 < pls.length
  len : pls.length ≤ 100
theorem Pls.pick {pls : List Tx} (h : Pls pls) {p : Addr} {M : Mu} {Q : DK} {E : DX} (hs : Src M p) (k : ∀ x M', Nd 6 x → SrcTo p M M' → Q (.str x) M') : sp_l_pick [.ref p, .lst (pls.map D.str)] M Q E :=
  pick_ hs (row := .lst (pls.map D.str)) rfl (by rw [List.length_map]; exact h.pos) (by rw [List.length_map]; have := h.len; omega) fun d M' hd s => by
    obtain ⟨x, hx, rfl⟩ := List.mem_map.mp hd
    exact k x M' (h.nd x hx) s
theorem pow_mem' {d : D} (h : d ∈ [D.str (T "look"), .str (T "mark"), .str (T "fill"), .str (T "pack"), .str (T "work")]) : ∃ w, d = .str w ∧ w ∈ L_POW := by
  simp only [List.mem_cons, List.not_mem_nil, or_false] at h
  rcases h with rfl | rfl | rfl | rfl | rfl <;> exact ⟨_, rfl, by simp [L_POW]⟩
theorem SX0.xt {p : Addr} {M0 M M' : Mu} (s : SX0 p M0 M) (x : Xt M M') : SX0 p M0 M' := ⟨by obtain ⟨ns, t, r, d, e, z⟩ := s.src; exact ⟨ns, t, r, d, x _ _ e, z⟩, fun b o h e => x _ _ (s.st b o h e)⟩
def sp_l_places : DSp := fun ds M Q _ => ∃ (p : Addr) (c : Int), ds = [.ref p, .int c] ∧ Src M p ∧ 1 ≤ c ∧ c ≤ 10 ∧ ∀ pls M', Pls pls → (pls.length : Int) = c → SX0 p M M' → Q (.lst (pls.map D.str)) M'
def w_l_places_b1 : DTS := dDrop (dMt "list" gAppend (dVar 2) (daCons (dCall sp_l_near (daCons (dVar 0) (daCons (dCall sp_l_pick (daCons (dVar 0) (daCons (dVar 2) (daNil)))) (daNil)))) (daNil)))
def w_l_places : DTS := dSeq (dSet 2 (dLstM (daCons (dCall sp_l_place (daCons (dVar 0) (daNil))) (daNil)))) (dSeq (dFor (diRng1 (daCons (dOp gSub (dVar 1) (dC (.int 1))) (daNil))) (dgName 3) (w_l_places_b1)) (dRet (dFrz (dVar 2))))
theorem p_l_places : ∀ ds M Q E, sp_l_places ds M Q E → w_l_places (Ret Q E) (ds.map some ++ List.replicate (4 - 2) none) M := by
  rintro ds M Q E ⟨p, c, rfl, hs, c0, c1, hQ⟩
  unfold w_l_places
  walk_at "dl"
  refine ⟨p, rfl, hs, fun x M1 hx s1 => ?_⟩
  walk_at "dl"
  refine ⟨by decide, fun u hu => ?_⟩
  have nup := s1.sx0.ne hu
  have hu0 := s1.sx0.none hu
  refine ⟨by omega, by omega, wFor_by (fun i τ M' => ∃ pls x3, τ = [some (.ref p), some (.int c), some (.ref u), x3] ∧ pls.length = i + 1 ∧ (∀ x ∈ pls, Nd 6 x) ∧ M' u = some (.lst (pls.map D.str)) ∧ SX0 p M M') ⟨[x], _, rfl, rfl, by simpa using hx, put_same, s1.sx0.put hu0 nup⟩ ?_ ?_⟩
  · rintro i d τ M2 hd ⟨pls, x3, rfl, hl, hp, hu2, s2⟩ nxt hn
    obtain ⟨rfl, hi⟩ := upTo_at hd
    unfold w_l_places_b1
    try simp only [hu2]
    walk_at "dl"
    try simp only [hu2]
    walk_at "dl"
    try simp only [hu2]
    walk_at "dl"
    try simp only [hu2]
    walk_at "dl"
    try simp only [hu2]
    walk_at "dl"
    try simp only [hu2]
    walk_at "dl"
    try simp only [hu2]
    walk_at "dl"
    try simp only [hu2]
    walk_at "dl"
    try simp only [hu2]
    walk_at "dl"
    try simp only [hu2]
    walk_at "dl"
    refine ⟨p, .ref u, pls.map D.str, rfl, rowI_ref nup hu2, by rw [List.length_map]; omega, by rw [List.length_map]; omega, s2.src, fun d M3 hd s3 => ?_⟩
    obtain ⟨y, hy, rfl⟩ := List.mem_map.mp hd
    walk_at "dl"
    refine ⟨p, y, 6, rfl, hp y hy, by decide, by decide, s3.1, fun z M4 hz s4 => ?_⟩
    have hu4 : M4 u = some (.lst (pls.map D.str)) := by rw [(s3.trans s4).2 u nup]; exact hu2
    try simp only [hu4]
    walk_at "dl"
    try simp only [hu4]
    walk_at "dl"
    try simp only [hu4]
    walk_at "dl"
    try simp only [hu4]
    walk_at "dl"
    try simp only [hu4]
    walk_at "dl"
    try simp only [hu4]
    walk_at "dl"
    try simp only [hu4]
    walk_at "dl"
    try simp only [hu4]
    walk_at "dl"
    try simp only [hu4]
    walk_at "dl"
    try simp only [hu4]
    walk_at "dl"
    rw [List.length_map]
    refine ⟨by omega, hn _ _ ⟨pls ++ [z], _, rfl, by rw [List.length_append, hl]; rfl, fun a ha => ?_, by rw [put_same, List.map_append]; rfl, (s2.trans (s3.trans s4).sx0).put hu0 nup⟩⟩
    rcases List.mem_append.mp ha with ha | ha
    · exact hp a ha
    · rw [List.mem_singleton.mp ha]; exact hz
  · rintro τ M2 ⟨pls, x3, rfl, hl, hp, hu2, s2⟩
    rw [upTo_len] at hl
    try simp only [hu2]
    walk_at "dl"
    try simp only [hu2]
    walk_at "dl"
    try simp only [hu2]
    walk_at "dl"
    try simp only [hu2]
    walk_at "dl"
    try simp only [hu2]
    walk_at "dl"
    try simp only [hu2]
    walk_at "dl"
    try simp only [hu2]
    walk_at "dl"
    try simp only [hu2]
    walk_at "dl"
    try simp only [hu2]
    walk_at "dl"
    try simp only [hu2]
    walk_at "dl"
    exact hQ pls _ ⟨hp, by omega, by omega⟩ (by omega) (s2.del hu0 nup)
def sp_l_argument (n : Nat) : DSp := fun ds M Q _ => ∃ (p r : Addr) (k d : Int) (pls : List Tx), ds = [.ref p, .lst (pls.map D.str), .int d, .ref r] ∧ 4 - n ≤ d ∧ 1 ≤ d ∧ d ≤ 4 ∧ Src M p ∧ M r = some (.lst [.int k]) ∧ p ≠ r ∧ Pls pls ∧
  ∀ (a : Ar) k' M', a.ok → (a.dep : Int) ≤ 4 - d → k' ≤ k → M' r = some (.lst [.int k']) → SR p r M M' → Q a.d M'
def sp_l_call (n : Nat) : DSp := fun ds M Q _ => ∃ (p r : Addr) (k d : Int) (pls : List Tx), ds = [.ref p, .lst (pls.map D.str), .int d, .ref r] ∧ 5 - n ≤ d ∧ 1 ≤ d ∧ d ≤ 4 ∧ Src M p ∧ M r = some (.lst [.int k]) ∧ p ≠ r ∧ Pls pls ∧
  ∀ w nm pl as k' M', (Ar.call w nm pl as).ok → ((Ar.call w nm pl as).dep : Int) ≤ 5 - d → k' ≤ k - 2 → M' r = some (.lst [.int k']) → SR p r M M' → Q (Ar.call w nm pl as).d M'
def w_l_argument_c1 (n : Nat) : DTS := dSeq (dAsg (dOp gSub (dOp gIx (dVar 3) (dC (.int 0))) (dC (.int 1))) (dgSub (dVar 3) (dC (.int 0)) gSetA)) (dRet (dTup (daCons (dCall sp_l_pick (daCons (dVar 0) (daCons (dLst (daCons (dC (.str (T "see"))) (daCons (dC (.str (T "lend"))) (daCons (dC (.str (T "peek"))) (daCons (dC (.str (T "copy"))) (daCons (dC (.str (T "note"))) (daCons (dC (.str (T "lend"))) (daNil)))))))) (daNil)))) (daCons (dCall sp_l_pick (daCons (dVar 0) (daCons (dVar 1) (daNil)))) (daNil)))))
def w_l_argument_c2 (n : Nat) : DTS := dSeq (dIfS (dTest (dOp gEq (dVar 4) (dC (.int 1)))) (dRet (dTup (daCons (dC (.str (T "pass"))) (daCons (dCall sp_l_pick (daCons (dVar 0) (daCons (dLst (daCons (dC (.str [114])) (daCons (dC (.str [115])) (daCons (dC (.str [97])) (daNil))))) (daNil)))) (daNil))))) (dPass)) (dSeq (dIfS (dAnd (dTest (dOp gLt (dVar 4) (dC (.int 4)))) (dAnd (dTest (dOp gLt (dVar 2) (dC (.int 4)))) (dTest (dOp gGe (dOp gIx (dVar 3) (dC (.int 0))) (dC (.int 2)))))) (dRet (dCall (sp_l_call n) (daCons (dVar 0) (daCons (dVar 1) (daCons (dOp gAdd (dVar 2) (dC (.int 1))) (daCons (dVar 3) (daNil))))))) (dPass)) (w_l_argument_c1 n))
def w_l_argument (n : Nat) : DTS := dSeq (dSet 4 (dCall sp_l_draw (daCons (dVar 0) (daCons (dC (.int 10)) (daNil))))) (dSeq (dIfS (dOr (dTest (dOp gEq (dVar 4) (dC (.int 0)))) (dTest (dOp gLt (dOp gIx (dVar 3) (dC (.int 0))) (dC (.int 1))))) (dRet (dTup (daCons (dC (.str (T "number"))) (daCons (dOp gMod (dCB gInt1 (daCons (dCall sp_l_draw (daCons (dVar 0) (daCons (dC (.int 1000000)) (daNil)))) (daNil))) (dC (.int 1000))) (daNil))))) (dPass)) (w_l_argument_c2 n))
def w_l_call_b1 (n : Nat) : DTS := dDrop (dMt "list" gAppend (dVar 8) (daCons (dCall (sp_l_argument n) (daCons (dVar 0) (daCons (dVar 1) (daCons (dVar 2) (daCons (dVar 3) (daNil)))))) (daNil)))
def w_l_call_c2 (n : Nat) : DTS := dRet (dTup (daCons (dC (.str (T "call"))) (daCons (dVar 4) (daCons (dVar 5) (daCons (dVar 6) (daCons (dFrz (dVar 8)) (daNil)))))))
def w_l_call_c3 (n : Nat) : DTS := dSeq (dSet 8 (dLstM (daNil))) (dSeq (dFor (diRng1 (daCons (dCall sp_l_draw (daCons (dVar 0) (daCons (dVar 7) (daNil)))) (daNil))) (dgName 9) (w_l_call_b1 n)) (w_l_call_c2 n))
def w_l_call (n : Nat) : DTS := dSeq (dAsg (dOp gSub (dOp gIx (dVar 3) (dC (.int 0))) (dC (.int 2))) (dgSub (dVar 3) (dC (.int 0)) gSetA)) (dSeq (dSet 4 (dCall sp_l_pick (daCons (dVar 0) (daCons (dLst (daCons (dC (.str (T "look"))) (daCons (dC (.str (T "mark"))) (daCons (dC (.str (T "fill"))) (daCons (dC (.str (T "pack"))) (daCons (dC (.str (T "work"))) (daNil))))))) (daNil))))) (dSeq (dSet 5 (dCall sp_l_pick (daCons (dVar 0) (daCons (dLst (daCons (dC (.str [102])) (daCons (dC (.str [103])) (daCons (dC (.str (T "put"))) (daNil))))) (daNil))))) (dSeq (dSet 6 (dCall sp_l_pick (daCons (dVar 0) (daCons (dVar 1) (daNil))))) (dSeq (dSet 7 (dC (.int 5))) (dSeq (dIfS (dTest (dOp gGt (dVar 2) (dC (.int 1)))) (dSet 7 (dC (.int 3))) (dPass)) (w_l_call_c3 n))))))
theorem no_dcall0 : ∀ ds M Q E, ¬ sp_l_call 0 ds M Q E := by
  rintro ds M Q E ⟨p, r, k, d, pls, _, h, _, h2, _⟩
  omega
theorem dep0_num {i : Int} : (Ar.num i).dep = 0 := by rw [Ar.dep]; intro _ _ _ _ h; cases h
theorem dep0_pass {x : Tx} : (Ar.pass x).dep = 0 := by rw [Ar.dep]; intro _ _ _ _ h; cases h
theorem dep0_loc {k x : Tx} : (Ar.loc k x).dep = 0 := by rw [Ar.dep]; intro _ _ _ _ h; cases h
/-- the room's number changes -/
theorem SR.room_put {p r : Addr} {M : Mu} {k : Int} (hs : Src M p) (npr : p ≠ r) : SR p r M (put M r (.lst [.int k])) := by
  refine ⟨?_, ⟨k, put_same⟩, fun a o h1 h2 e => by rw [put_ne h2]; exact e⟩
  obtain ⟨ns, t, r2, dd, e, z⟩ := hs
  exact ⟨ns, t, r2, dd, by rw [put_ne npr]; exact e, z⟩
theorem SrcTo.sr {p r : Addr} {M M' : Mu} {k : Int} (s : SrcTo p M M') (npr : p ≠ r) (hr : M r = some (.lst [.int k])) : SR p r M M' ∧ M' r = some (.lst [.int k]) := ⟨SR.of s hr npr, by rw [s.2 r (Ne.symm npr)]; exact hr⟩
theorem p_l_argument (n : Nat) : ∀ ds M Q E, sp_l_argument n ds M Q E → w_l_argument n (Ret Q E) (ds.map some ++ List.replicate (5 - 4) none) M := by
  rintro ds M Q E ⟨p, r, k, d, pls, rfl, hn, h1, h4, hs, hr, npr, hp, hQ⟩
  have ix : ixN 1 0 = some 0 := rfl
  unfold w_l_argument
  walk_at "dl"
  refine draw_ hs (by decide) (by decide) fun c M1 c0 c1 s1 => ?_
  obtain ⟨sr1, hr1⟩ := s1.sr npr hr
  have num2 : ∀ {K : DK} {E' : DX}, (∀ i M2, Q (.tup [.str (T "number"), .int (i % 1000)]) M2 → K (.int i) M2) → sp_l_draw [.ref p, .int 1000000] M1 K E' := fun {K E'} h =>
    draw_ s1.1 (by decide) (by decide) fun i M2 i0 i1 s2 => h i M2 (by
      obtain ⟨sr2, hr2⟩ := s2.sr npr hr1
      have := hQ (.num (i % 1000)) k M2 (by rw [Ar.ok]; omega) (by rw [dep0_num]; omega) (by omega) hr2 (sr1.trans sr2)
      rw [Ar.d] at this
      exact this)
  have cd : CDiv 5 1000 := ⟨by decide, by decide⟩
  have c2 : w_l_argument_c2 n (Ret Q E) [some (.ref p), some (.lst (pls.map D.str)), some (.int d), some (.ref r), some (.int c)] M1 := by
    unfold w_l_argument_c2
    walk_at "dl"
    by_cases e1 : c = 1
    · rw [if_pos e1]
      refine ⟨by decide, pick_ s1.1 rfl (by decide) (by decide) fun x M2 hx s2 => ?_⟩
      obtain ⟨sr2, hr2⟩ := s2.sr npr hr1
      obtain ⟨y, rfl, hy⟩ : ∃ y, x = .str y ∧ Nm y := by
        simp only [List.mem_cons, List.not_mem_nil, or_false] at hx
        rcases hx with rfl | rfl | rfl <;> exact ⟨_, rfl, by unfold Nm Lett; decide⟩
      walk_at "dl"
      have := hQ (.pass y) k M2 (by rw [Ar.ok]; exact hy) (by rw [dep0_pass]; omega) (by omega) hr2 (sr1.trans sr2)
      rw [Ar.d] at this
      exact ⟨by decide, this⟩
    · rw [if_neg e1]
      have fin : w_l_argument_c1 n (Ret Q E) [some (.ref p), some (.lst (pls.map D.str)), some (.int d), some (.ref r), some (.int c)] M1 := by
        unfold w_l_argument_c1
        try simp only [hr1, atI_0, ix]
        walk_at "dl"
        try simp only [hr1, atI_0, ix]
        walk_at "dl"
        try simp only [hr1, atI_0, ix]
        walk_at "dl"
        try simp only [hr1, atI_0, ix]
        walk_at "dl"
        try simp only [hr1, atI_0, ix]
        walk_at "dl"
        try simp only [hr1, atI_0, ix]
        walk_at "dl"
        try simp only [hr1, atI_0, ix]
        walk_at "dl"
        try simp only [hr1, atI_0, ix]
        walk_at "dl"
        try simp only [hr1, atI_0, ix]
        walk_at "dl"
        try simp only [hr1, atI_0, ix]
        walk_at "dl"
        have sr2 : SR p r M1 (put M1 r (.lst [.int (k - 1)])) := SR.room_put s1.1 npr
        have hr2 : put M1 r (.lst [.int (k - 1)]) r = some (.lst [.int (k - 1)]) := put_same
        generalize put M1 r (.lst [.int (k - 1)]) = M2 at sr2 hr2 ⊢
        refine ⟨by decide, pick_ sr2.src rfl (by decide) (by decide) fun x M3 hx s3 => ?_⟩
        obtain ⟨sr3, hr3⟩ := s3.sr npr hr2
        obtain ⟨y, rfl, hy⟩ : ∃ y, x = .str y ∧ y ∈ L_LOC := by
          simp only [List.mem_cons, List.not_mem_nil, or_false] at hx
          rcases hx with rfl | rfl | rfl | rfl | rfl | rfl <;> exact ⟨_, rfl, by simp [L_LOC]⟩
        walk_at "dl"
        refine hp.pick s3.1 fun pl M4 hpl s4 => ?_
        obtain ⟨sr4, hr4⟩ := s4.sr npr hr3
        walk_at "dl"
        have := hQ (.loc y pl) (k - 1) M4 (by rw [Ar.ok]; exact ⟨hy, hpl⟩) (by rw [dep0_loc]; omega) (by omega) hr4 (((sr1.trans sr2).trans sr3).trans sr4)
        rw [Ar.d] at this
        exact ⟨by decide, this⟩
      by_cases e4 : c < 4
      · rw [if_pos e4]
        by_cases ed : d < 4
        · rw [if_pos ed]
          try simp only [hr1, atI_0]
          walk_at "dl"
          try simp only [hr1, atI_0]
          walk_at "dl"
          try simp only [hr1, atI_0]
          walk_at "dl"
          try simp only [hr1, atI_0]
          walk_at "dl"
          try simp only [hr1, atI_0]
          walk_at "dl"
          try simp only [hr1, atI_0]
          walk_at "dl"
          try simp only [hr1, atI_0]
          walk_at "dl"
          try simp only [hr1, atI_0]
          walk_at "dl"
          try simp only [hr1, atI_0]
          walk_at "dl"
          try simp only [hr1, atI_0]
          walk_at "dl"
          by_cases ek : k ≥ 2
          · rw [if_pos ek]
            refine ⟨p, r, k, d + 1, pls, rfl, by omega, by omega, by omega, s1.1, hr1, npr, hp, fun w nm pl as k' M2 ho hd hk hr2 s2 => ?_⟩
            exact hQ (.call w nm pl as) k' M2 ho (by omega) (by omega) hr2 (sr1.trans s2)
          · rw [if_neg ek]
            exact fin
        · rw [if_neg ed]
          exact fin
      · rw [if_neg e4]
        exact fin
  walk_at "dl"
  by_cases e0 : c = 0
  · rw [if_pos e0]
    refine num2 fun i M2 h => ?_
    walk_at "dl"
    exact ⟨by decide, by decide, h⟩
  · rw [if_neg e0]
    try simp only [hr1, atI_0]
    walk_at "dl"
    try simp only [hr1, atI_0]
    walk_at "dl"
    try simp only [hr1, atI_0]
    walk_at "dl"
    try simp only [hr1, atI_0]
    walk_at "dl"
    try simp only [hr1, atI_0]
    walk_at "dl"
    try simp only [hr1, atI_0]
    walk_at "dl"
    try simp only [hr1, atI_0]
    walk_at "dl"
    try simp only [hr1, atI_0]
    walk_at "dl"
    try simp only [hr1, atI_0]
    walk_at "dl"
    try simp only [hr1, atI_0]
    walk_at "dl"
    by_cases ek : k < 1
    · rw [if_pos ek]
      refine num2 fun i M2 h => ?_
      walk_at "dl"
      exact ⟨by decide, by decide, h⟩
    · rw [if_neg ek]
      exact c2
theorem p_l_call (n : Nat) : ∀ ds M Q E, sp_l_call (n + 1) ds M Q E → w_l_call n (Ret Q E) (ds.map some ++ List.replicate (10 - 4) none) M := by
  rintro ds M Q E ⟨p, r, k, d, pls, rfl, hn, h1, h4, hs, hr, npr, hp, hQ⟩
  have ix : ixN 1 0 = some 0 := rfl
  unfold w_l_call
  try simp only [hr, atI_0, ix]
  walk_at "dl"
  try simp only [hr, atI_0, ix]
  walk_at "dl"
  try simp only [hr, atI_0, ix]
  walk_at "dl"
  try simp only [hr, atI_0, ix]
  walk_at "dl"
  try simp only [hr, atI_0, ix]
  walk_at "dl"
  try simp only [hr, atI_0, ix]
  walk_at "dl"
  try simp only [hr, atI_0, ix]
  walk_at "dl"
  try simp only [hr, atI_0, ix]
  walk_at "dl"
  try simp only [hr, atI_0, ix]
  walk_at "dl"
  try simp only [hr, atI_0, ix]
  walk_at "dl"
  have sr0 : SR p r M (put M r (.lst [.int (k - 2)])) := SR.room_put hs npr
  have hr0 : put M r (.lst [.int (k - 2)]) r = some (.lst [.int (k - 2)]) := put_same
  generalize put M r (.lst [.int (k - 2)]) = M0 at sr0 hr0 ⊢
  refine ⟨by decide, pick_ sr0.src rfl (by decide) (by decide) fun x M1 hx s1 => ?_⟩
  obtain ⟨w, rfl, hw⟩ := pow_mem' hx
  obtain ⟨sr1, hr1⟩ := s1.sr npr hr0
  walk_at "dl"
  refine ⟨by decide, pick_ s1.1 rfl (by decide) (by decide) fun x M2 hx s2 => ?_⟩
  obtain ⟨nm, rfl, hnm⟩ : ∃ y, x = .str y ∧ Nm y := by
    simp only [List.mem_cons, List.not_mem_nil, or_false] at hx
    rcases hx with rfl | rfl | rfl
    · exact ⟨_, rfl, by unfold Nm Lett; decide⟩
    · exact ⟨_, rfl, by unfold Nm Lett; decide⟩
    · exact ⟨_, rfl, by unfold Nm Lett; decide +kernel⟩
  obtain ⟨sr2, hr2⟩ := s2.sr npr hr1
  walk_at "dl"
  refine hp.pick s2.1 fun pl M3 hpl s3 => ?_
  obtain ⟨sr3, hr3⟩ := s3.sr npr hr2
  have S3 : SR p r M M3 := ((sr0.trans sr1).trans sr2).trans sr3
  have fin : ∀ m : Int, (m = 5 ∨ m = 3) → w_l_call_c3 n (Ret Q E) [some (.ref p), some (.lst (pls.map D.str)), some (.int d), some (.ref r), some (.str w), some (.str nm), some (.str pl), some (.int m), none, none] M3 := by
    intro m hm
    unfold w_l_call_c3
    walk_at "dl"
    refine ⟨by decide, fun u hu => ?_⟩
    have nup : u ≠ p := fun z => src_ne_none S3.src (by rw [← z]; exact hu)
    have nur : u ≠ r := fun z => by rw [z, hr3] at hu; cases hu
    have hMu : M u = none := by
      cases e : M u with
      | none => rfl
      | some o => rw [S3.st u o nup nur e] at hu; cases hu
    have hs4 : Src (put M3 u (.lst [])) p := by obtain ⟨ns, t, r2, dd, e, z⟩ := S3.src; exact ⟨ns, t, r2, dd, by rw [put_ne (Ne.symm nup)]; exact e, z⟩
    refine draw_ hs4 (by omega) (by omega) fun c M4 c0 c1 s4 => ?_
    walk_at "dl"
    have SP : ∀ {M' : Mu} {o : MO}, SR p r M M' → SR p r M (put M' u o) := fun {M' o} q => by
      refine ⟨?_, ?_, fun b o b1 b2 e => ?_⟩
      · obtain ⟨ns, t, r2, dd, e, z⟩ := q.src
        exact ⟨ns, t, r2, dd, by rw [put_ne (Ne.symm nup)]; exact e, z⟩
      · obtain ⟨k2, e⟩ := q.room
        exact ⟨k2, by rw [put_ne (Ne.symm nur)]; exact e⟩
      · have : b ≠ u := fun z => by rw [z, hMu] at e; cases e
        rw [put_ne this]
        exact q.st b o b1 b2 e
    have hr4 : put M3 u (.lst []) r = some (.lst [.int (k - 2)]) := by rw [put_ne (Ne.symm nur)]; exact hr3
    obtain ⟨sr4, hr4'⟩ := s4.sr npr hr4
    refine ⟨by omega, by omega, wFor_by (fun i τ M' => ∃ (as : List Ar) (k' : Int) (x9 : Option D), τ = [some (.ref p), some (.lst (pls.map D.str)), some (.int d), some (.ref r), some (.str w), some (.str nm), some (.str pl), some (.int m), some (.ref u), x9] ∧ as.length = i ∧ (∀ a ∈ as, Ar.ok a ∧ (Ar.dep a : Int) ≤ 4 - d) ∧ M' u = some (.lst (as.map Ar.d)) ∧ M' r = some (.lst [.int k']) ∧ k' ≤ k - 2 ∧ SR p r M M')
      ⟨[], k - 2, _, rfl, rfl, by simp, by rw [s4.2 u nup, put_same]; rfl, hr4', by omega, (SP S3).trans sr4⟩ ?_ ?_⟩
    · rintro i dk τ M5 hdk ⟨as, k', x9, rfl, hl, ha, hu5, hr5, hk5, s5⟩ nxt hnx
      obtain ⟨rfl, hi⟩ := upTo_at hdk
      unfold w_l_call_b1
      try simp only [hu5]
      walk_at "dl"
      try simp only [hu5]
      walk_at "dl"
      try simp only [hu5]
      walk_at "dl"
      try simp only [hu5]
      walk_at "dl"
      try simp only [hu5]
      walk_at "dl"
      try simp only [hu5]
      walk_at "dl"
      try simp only [hu5]
      walk_at "dl"
      try simp only [hu5]
      walk_at "dl"
      try simp only [hu5]
      walk_at "dl"
      try simp only [hu5]
      walk_at "dl"
      refine ⟨p, r, k', d, pls, rfl, by omega, h1, h4, s5.src, hr5, npr, hp, fun a k2 M6 ho hd hk hr6 s6 => ?_⟩
      have hu6 := s6.st u _ nup nur hu5
      try simp only [hu6]
      walk_at "dl"
      try simp only [hu6]
      walk_at "dl"
      try simp only [hu6]
      walk_at "dl"
      try simp only [hu6]
      walk_at "dl"
      try simp only [hu6]
      walk_at "dl"
      try simp only [hu6]
      walk_at "dl"
      try simp only [hu6]
      walk_at "dl"
      try simp only [hu6]
      walk_at "dl"
      try simp only [hu6]
      walk_at "dl"
      try simp only [hu6]
      walk_at "dl"
      rw [List.length_map]
      refine ⟨by omega, hnx _ _ ⟨as ++ [a], k2, _, rfl, by rw [List.length_append, hl]; rfl, fun b hb => ?_, by rw [put_same, List.map_append]; rfl, by rw [put_ne (Ne.symm nur)]; exact hr6, by omega, SP (s5.trans s6)⟩⟩
      rcases List.mem_append.mp hb with hb | hb
      · exact ha b hb
      · rw [List.mem_singleton.mp hb]; exact ⟨ho, hd⟩
    · rintro τ M5 ⟨as, k', x9, rfl, hl, ha, hu5, hr5, hk5, s5⟩
      rw [upTo_len] at hl
      unfold w_l_call_c2
      try simp only [hu5]
      walk_at "dl"
      try simp only [hu5]
      walk_at "dl"
      try simp only [hu5]
      walk_at "dl"
      try simp only [hu5]
      walk_at "dl"
      try simp only [hu5]
      walk_at "dl"
      try simp only [hu5]
      walk_at "dl"
      try simp only [hu5]
      walk_at "dl"
      try simp only [hu5]
      walk_at "dl"
      try simp only [hu5]
      walk_at "dl"
      try simp only [hu5]
      walk_at "dl"
      have s6 : SR p r M (del M5 u) := by
        refine ⟨?_, ⟨k', by rw [del_ne (Ne.symm nur)]; exact hr5⟩, fun b o b1 b2 e => ?_⟩
        · obtain ⟨ns, t, r2, dd, e, z⟩ := s5.src
          exact ⟨ns, t, r2, dd, by rw [del_ne (Ne.symm nup)]; exact e, z⟩
        · have : b ≠ u := fun z => by rw [z, hMu] at e; cases e
          rw [del_ne this]
          exact s5.st b o b1 b2 e
      have h5 : (Ar.call w nm pl as).dep ≤ (4 - d).toNat + 1 := call_dep.mpr fun a h => by have := (ha a h).2; omega
      have q := hQ w nm pl as k' (del M5 u) (call_ok.mpr ⟨hw, hnm, hpl, by omega, fun a h => (ha a h).1⟩) (by omega) hk5 (by rw [del_ne (Ne.symm nur)]; exact hr5) s6
      rw [call_d] at q
      exact ⟨by decide, q⟩
  walk_at "dl"
  split
  · exact fin 3 (.inr rfl)
  · exact fin 5 (.inl rfl)
def rmN (k : Int) : Nat := k.toNat
def sp_l_simple : DSp := fun ds M Q _ => ∃ (p r : Addr) (k : Int) (pls : List Tx), ds = [.ref p, .lst (pls.map D.str), .ref r] ∧ Src M p ∧ M r = some (.lst [.int k]) ∧ p ≠ r ∧ Pls pls ∧
  ∀ s k' M', St.ok s → s.dep = 0 → s.sz = 1 → k' ≤ k - 1 → M' r = some (.lst [.int k']) → SR p r M M' → Q s.d M'
def w_l_simple : DTS := dSeq (dIfS (dTest (dOp gEq (dCall sp_l_draw (daCons (dVar 0) (daCons (dC (.int 3)) (daNil)))) (dC (.int 0)))) (dSeq (dAsg (dOp gSub (dOp gIx (dVar 2) (dC (.int 0))) (dC (.int 1))) (dgSub (dVar 2) (dC (.int 0)) gSetA)) (dSeq (dSet 3 (dCall sp_l_pick (daCons (dVar 0) (daCons (dLst (daCons (dC (.str (T "look"))) (daCons (dC (.str (T "peek"))) (daCons (dC (.str (T "look"))) (daCons (dC (.str (T "copy"))) (daCons (dC (.str (T "note"))) (daNil))))))) (daNil))))) (dRet (dTup (daCons (dC (.str (T "hold"))) (daCons (dCall sp_l_pick (daCons (dVar 0) (daCons (dLst (daCons (dC (.str [114])) (daCons (dC (.str [115])) (daCons (dC (.str [97])) (daNil))))) (daNil)))) (daCons (dVar 3) (daCons (dCall sp_l_pick (daCons (dVar 0) (daCons (dVar 1) (daNil)))) (daNil))))))))) (dPass)) (dRet (dTup (daCons (dC (.str [100, 111])) (daCons (dCall (sp_l_call 4) (daCons (dVar 0) (daCons (dVar 1) (daCons (dC (.int 1)) (daCons (dVar 2) (daNil)))))) (daNil)))))
theorem held_mem {d : D} (h : d ∈ [D.str (T "look"), .str (T "peek"), .str (T "look"), .str (T "copy"), .str (T "note")]) : ∃ w, d = .str w ∧ w ∈ L_HELD := by
  simp only [List.mem_cons, List.not_mem_nil, or_false] at h
  rcases h with rfl | rfl | rfl | rfl | rfl <;> exact ⟨_, rfl, by simp [L_HELD]⟩
theorem hold_d' {n k pl : Tx} : (St.hold n k pl).d = .tup [.str (T "hold"), .str n, .str k, .str pl] := by rw [St.d]
theorem act_d' {p nm pl : Tx} {as : List Ar} : (St.act p nm pl as).d = .tup [.str [100, 111], (Ar.call p nm pl as).d] := by rw [St.d]
theorem p_l_simple : ∀ ds M Q E, sp_l_simple ds M Q E → w_l_simple (Ret Q E) (ds.map some ++ List.replicate (4 - 3) none) M := by
  rintro ds M Q E ⟨p, r, k, pls, rfl, hs, hr, npr, hp, hQ⟩
  have ix : ixN 1 0 = some 0 := rfl
  unfold w_l_simple
  walk_at "dl"
  refine draw_ hs (by decide) (by decide) fun c M1 c0 c1 s1 => ?_
  obtain ⟨sr1, hr1⟩ := s1.sr npr hr
  walk_at "dl"
  split
  · try simp only [hr1, atI_0, ix]
    walk_at "dl"
    try simp only [hr1, atI_0, ix]
    walk_at "dl"
    try simp only [hr1, atI_0, ix]
    walk_at "dl"
    try simp only [hr1, atI_0, ix]
    walk_at "dl"
    try simp only [hr1, atI_0, ix]
    walk_at "dl"
    try simp only [hr1, atI_0, ix]
    walk_at "dl"
    try simp only [hr1, atI_0, ix]
    walk_at "dl"
    try simp only [hr1, atI_0, ix]
    walk_at "dl"
    try simp only [hr1, atI_0, ix]
    walk_at "dl"
    try simp only [hr1, atI_0, ix]
    walk_at "dl"
    have sr2 : SR p r M1 (put M1 r (.lst [.int (k - 1)])) := SR.room_put s1.1 npr
    have hr2 : put M1 r (.lst [.int (k - 1)]) r = some (.lst [.int (k - 1)]) := put_same
    generalize put M1 r (.lst [.int (k - 1)]) = M2 at sr2 hr2 ⊢
    refine ⟨by decide, pick_ sr2.src rfl (by decide) (by decide) fun x M3 hx s3 => ?_⟩
    obtain ⟨l, rfl, hl⟩ := held_mem hx
    obtain ⟨sr3, hr3⟩ := s3.sr npr hr2
    walk_at "dl"
    refine ⟨by decide, pick_ s3.1 rfl (by decide) (by decide) fun x M4 hx s4 => ?_⟩
    obtain ⟨nm, rfl, hnm⟩ : ∃ y, x = .str y ∧ Nm y := by
      simp only [List.mem_cons, List.not_mem_nil, or_false] at hx
      rcases hx with rfl | rfl | rfl <;> exact ⟨_, rfl, by unfold Nm Lett; decide⟩
    obtain ⟨sr4, hr4⟩ := s4.sr npr hr3
    walk_at "dl"
    refine hp.pick s4.1 fun pl M5 hpl s5 => ?_
    obtain ⟨sr5, hr5⟩ := s5.sr npr hr4
    walk_at "dl"
    have q := hQ (.hold nm l pl) (k - 1) M5 (by rw [St.ok]; exact ⟨hnm, hl, hpl⟩) (by rw [St.dep] <;> simp) (by rw [St.sz] <;> simp) (by omega) hr5 ((((sr1.trans sr2).trans sr3).trans sr4).trans sr5)
    rw [hold_d'] at q
    exact ⟨by decide, q⟩
  · refine ⟨p, r, k, 1, pls, rfl, by omega, by decide, by decide, s1.1, hr1, npr, hp, fun w nm pl as k' M2 ho hd hk hr2 s2 => ?_⟩
    walk_at "dl"
    have q := hQ (.act w nm pl as) k' M2 (by rw [St.ok]; exact ⟨ho, by omega⟩) (by rw [St.dep] <;> simp) (by rw [St.sz] <;> simp) (by omega) hr2 (sr1.trans s2)
    rw [act_d'] at q
    exact ⟨by decide, q⟩
def sp_l_block (n : Nat) : DSp := fun ds M Q _ => ∃ (p r : Addr) (k d m : Int) (pls : List Tx), ds = [.ref p, .lst (pls.map D.str), .int m, .int d, .ref r] ∧ 4 - n ≤ d ∧ 0 ≤ d ∧ d ≤ 3 ∧ 0 ≤ m ∧ m ≤ 20 ∧ Src M p ∧ M r = some (.lst [.int k]) ∧ k ≤ 300 ∧ p ≠ r ∧ Pls pls ∧
  ∀ b q k' M', M q = none → M' q = some (.lst (b.map St.d)) → stsOk b → (stsDep b : Int) ≤ 3 - d → stsSz b + rmN k' ≤ rmN k → M' r = some (.lst [.int k']) → k' ≤ k → SR p r M M' → Q (.ref q) M'
def w_l_block_c1 (n : Nat) : DTS := dIfS (dAnd (dTest (dOp gLt (dVar 7) (dC (.int 2)))) (dTest (dOp gLt (dVar 3) (dC (.int 3))))) (dSeq (dAsg (dOp gSub (dOp gIx (dVar 4) (dC (.int 0))) (dC (.int 1))) (dgSub (dVar 4) (dC (.int 0)) gSetA)) (dSeq (dSet 8 (dFrz (dCall (sp_l_block n) (daCons (dVar 0) (daCons (dVar 1) (daCons (dC (.int 2)) (daCons (dOp gAdd (dVar 3) (dC (.int 1))) (daCons (dVar 4) (daNil))))))))) (dIfS (dTest (dOp gEq (dVar 7) (dC (.int 0)))) (dDrop (dMt "list" gAppend (dVar 5) (daCons (dTup (daCons (dC (.str (T "again"))) (daCons (dVar 8) (daNil)))) (daNil)))) (dDrop (dMt "list" gAppend (dVar 5) (daCons (dTup (daCons (dC (.str (T "either"))) (daCons (dVar 8) (daCons (dFrz (dCall (sp_l_block n) (daCons (dVar 0) (daCons (dVar 1) (daCons (dC (.int 2)) (daCons (dOp gAdd (dVar 3) (dC (.int 1))) (daCons (dVar 4) (daNil)))))))) (daNil))))) (daNil))))))) (dIfS (dTest (dOp gLt (dVar 7) (dC (.int 9)))) (dDrop (dMt "list" gAppend (dVar 5) (daCons (dCall sp_l_simple (daCons (dVar 0) (daCons (dVar 1) (daCons (dVar 4) (daNil))))) (daNil)))) (dPass))
def w_l_block_b2 (n : Nat) : DTS := dSeq (dSet 7 (dCall sp_l_draw (daCons (dVar 0) (daCons (dC (.int 6)) (daNil))))) (dSeq (dIfS (dTest (dOp gLt (dOp gIx (dVar 4) (dC (.int 0))) (dC (.int 1)))) (dSet 7 (dC (.int 9))) (dPass)) (w_l_block_c1 n))
def w_l_block (n : Nat) : DTS := dSeq (dSet 5 (dLstM (daNil))) (dSeq (dFor (diRng1 (daCons (dCall sp_l_draw (daCons (dVar 0) (daCons (dOp gAdd (dVar 2) (dC (.int 1))) (daNil)))) (daNil))) (dgName 6) (w_l_block_b2 n)) (dRet (dVar 5)))
theorem no_dblock0 : ∀ ds M Q E, ¬ sp_l_block 0 ds M Q E := by
  rintro ds M Q E ⟨p, r, k, d, m, pls, _, h, _, h2, _⟩
  omega
structure WB (p r u : Addr) (M0 : Mu) (k0 d : Int) (M' : Mu) (b : List St) (k : Int) : Prop where
  hu : M' u = some (.lst (b.map St.d))
  hr : M' r = some (.lst [.int k])
  sr : SR p r M0 M'
  ok : stsOk b
  dp : (stsDep b : Int) ≤ 3 - d
  sz : stsSz b + rmN k ≤ rmN k0
  k1 : k ≤ k0
theorem stsOk_snoc {b : List St} {s : St} (h : stsOk b) (hs : s.ok) : stsOk (b ++ [s]) := stsOk_all.mpr fun x hx => by
  rcases List.mem_append.mp hx with hx | hx
  · exact stsOk_all.mp h x hx
  · rw [List.mem_singleton.mp hx]; exact hs
theorem stsDep_snoc {b : List St} {s : St} {n : Nat} (h : stsDep b ≤ n) (hs : s.dep ≤ n) : stsDep (b ++ [s]) ≤ n := stsDep_le.mpr fun x hx => by
  rcases List.mem_append.mp hx with hx | hx
  · exact stsDep_le.mp h x hx
  · rw [List.mem_singleton.mp hx]; exact hs
theorem stsSz_snoc {b : List St} {s : St} : stsSz (b ++ [s]) = stsSz b + s.sz := by
  rw [stsSz_app, stsSz, stsSz]; omega
theorem again_d' {b : List St} : (St.again b).d = .tup [.str (T "again"), .lst (b.map St.d)] := by rw [St.d, stsD_map]
theorem either_d' {a b : List St} : (St.either a b).d = .tup [.str (T "either"), .lst (a.map St.d), .lst (b.map St.d)] := by rw [St.d, stsD_map, stsD_map]
section
variable {p r u : Addr} {M0 M1 : Mu} {k0 d k : Int} {b : List St}
theorem WB.len (J : WB p r u M0 k0 d M1 b k) (h : k0 ≤ 300) : b.length ≤ 300 := by
  have h1 := sz_len (b := b)
  have h2 := J.sz
  unfold rmN at h2
  omega
theorem WB.go (J : WB p r u M0 k0 d M1 b k) {M2 : Mu} {k2 : Int} {s : St} (hM0 : M0 u = none) (nup : u ≠ p) (nur : u ≠ r) (s2 : SR p r M1 M2) (hr2 : M2 r = some (.lst [.int k2])) (ho : s.ok) (hd : (s.dep : Int) ≤ 3 - d) (hd0 : d ≤ 3) (hz : s.sz + rmN k2 ≤ rmN k) (hk : k2 ≤ k) :
    WB p r u M0 k0 d (put M2 u (.lst (b.map St.d ++ [s.d]))) (b ++ [s]) k2 where
  hu := by rw [put_same, List.map_append]; rfl
  hr := by rw [put_ne (Ne.symm nur)]; exact hr2
  sr := by
    have q := J.sr.trans s2
    refine ⟨?_, ⟨k2, by rw [put_ne (Ne.symm nur)]; exact hr2⟩, fun c o h1 h2 e => ?_⟩
    · obtain ⟨ns, t, r2, dd, e, z⟩ := q.src
      exact ⟨ns, t, r2, dd, by rw [put_ne (Ne.symm nup)]; exact e, z⟩
    · have : c ≠ u := fun z => by rw [z, hM0] at e; cases e
      rw [put_ne this]
      exact q.st c o h1 h2 e
  ok := stsOk_snoc J.ok ho
  dp := by
    have h1 := J.dp
    have := stsDep_snoc (b := b) (s := s) (n := (3 - d).toNat) (by omega) (by omega)
    omega
  sz := by rw [stsSz_snoc]; have := J.sz; omega
  k1 := by have := J.k1; omega
end
/-- a block asked, its list is to change no more -/
theorem block_frz {n : Nat} {p r : Addr} {k d m : Int} {pls : List Tx} {M2 M3 : Mu} {K : DK} {E : DX} (h1 : 4 - n ≤ d) (h0 : 0 ≤ d) (h3 : d ≤ 3) (m0 : 0 ≤ m) (m1 : m ≤ 20) (s3 : SR p r M2 M3) (hr3 : M3 r = some (.lst [.int k])) (hk3 : k ≤ 300) (npr : p ≠ r) (hp : Pls pls)
    (h : ∀ a M' k4, stsOk a → (stsDep a : Int) ≤ 3 - d → stsSz a + rmN k4 ≤ rmN k → M' r = some (.lst [.int k4]) → k4 ≤ k → SR p r M2 M' → K (.lst (a.map St.d)) M') :
    sp_l_block n [.ref p, .lst (pls.map D.str), .int m, .int d, .ref r] M3 (fun x M1 => frzK (K := K) ⟨⟩ x M1) E :=
  ⟨p, r, k, d, m, pls, rfl, h1, h0, h3, m0, m1, s3.src, hr3, hk3, npr, hp, fun a q k4 M' hq hq2 ho hdd hz hr4 hk4 s4 => by
    show frzK (K := K) ⟨⟩ (.ref q) M'
    have nqr : q ≠ r := fun z => by rw [z, hr3] at hq; cases hq
    have nqp : q ≠ p := fun z => src_ne_none s3.src (by rw [← z]; exact hq)
    have hq0 : M2 q = none := by
      cases e : M2 q with
      | none => rfl
      | some o => rw [s3.st q o nqp nqr e] at hq; cases hq
    rw [frz_r, hq2]
    refine h a (del M' q) k4 ho hdd hz (by rw [del_ne (Ne.symm nqr)]; exact hr4) hk4 ?_
    have s5 := s3.trans s4
    refine ⟨?_, ⟨k4, by rw [del_ne (Ne.symm nqr)]; exact hr4⟩, fun c o h1 h2 e => ?_⟩
    · obtain ⟨ns, t, r2, dd, e, z⟩ := s5.src
      exact ⟨ns, t, r2, dd, by rw [del_ne (Ne.symm nqp)]; exact e, z⟩
    · have : c ≠ q := fun z => by rw [z, hq0] at e; cases e
      rw [del_ne this]
      exact s5.st c o h1 h2 e⟩
theorem dblock_c1 {n : Nat} {p r u : Addr} {M0 M1 : Mu} {k0 d k c m : Int} {pls : List Tx} {b : List St} {x6 x8 : Option D} {D0 : DEnds} (hn4 : 4 - (n + 1 : Nat) ≤ d) (hd0 : 0 ≤ d) (hd3 : d ≤ 3) (hp : Pls pls) (J : WB p r u M0 k0 d M1 b k) (hk0 : k0 ≤ 300) (hM0 : M0 u = none) (npr : p ≠ r) (nup : u ≠ p) (nur : u ≠ r) (hc0 : 0 ≤ c) (hc : c < 9 → 1 ≤ k)
    (hn : ∀ b2 k2 M2 x8, WB p r u M0 k0 d M2 b2 k2 → D0.nx [some (.ref p), some (.lst (pls.map D.str)), some (.int m), some (.int d), some (.ref r), some (.ref u), x6, some (.int c), x8] M2) :
    w_l_block_c1 n D0 [some (.ref p), some (.lst (pls.map D.str)), some (.int m), some (.int d), some (.ref r), some (.ref u), x6, some (.int c), x8] M1 := by
  have ix : ixN 1 0 = some 0 := rfl
  have hl := J.len hk0
  have jk := J.k1
  unfold w_l_block_c1
  walk_at "dl"
  have smp : 1 ≤ k → ∀ (K : DK) (E : DX), (∀ (s : St) (M3 : Mu) (k3 : Int), M3 u = some (.lst (b.map St.d)) → WB p r u M0 k0 d (put M3 u (.lst (b.map St.d ++ [s.d]))) (b ++ [s]) k3 → K s.d M3) → sp_l_simple [.ref p, .lst (pls.map D.str), .ref r] M1 K E := fun kk K E h =>
    ⟨p, r, k, pls, rfl, J.sr.src, J.hr, npr, hp, fun s k3 M3 ho hdd hz hk3 hr3 s3 => by
      have e1 : rmN k = rmN (k - 1) + 1 := by unfold rmN; omega
      have e2 : rmN k3 ≤ rmN (k - 1) := by unfold rmN; omega
      exact h s M3 k3 (s3.st u _ nup nur J.hu) (J.go (s := s) hM0 nup nur s3 hr3 ho (by rw [hdd]; omega) hd3 (by omega) (by omega))⟩
  by_cases h1 : c < 2
  · rw [if_pos h1]
    have kk := hc (by omega)
    have e1 : rmN k = rmN (k - 1) + 1 := by unfold rmN; omega
    by_cases h2 : d < 3
    · rw [if_pos h2]
      try simp only [J.hr, atI_0, ix]
      walk_at "dl"
      try simp only [J.hr, atI_0, ix]
      walk_at "dl"
      try simp only [J.hr, atI_0, ix]
      walk_at "dl"
      try simp only [J.hr, atI_0, ix]
      walk_at "dl"
      try simp only [J.hr, atI_0, ix]
      walk_at "dl"
      try simp only [J.hr, atI_0, ix]
      walk_at "dl"
      try simp only [J.hr, atI_0, ix]
      walk_at "dl"
      try simp only [J.hr, atI_0, ix]
      walk_at "dl"
      try simp only [J.hr, atI_0, ix]
      walk_at "dl"
      try simp only [J.hr, atI_0, ix]
      walk_at "dl"
      have s2 : SR p r M1 (put M1 r (.lst [.int (k - 1)])) := SR.room_put J.sr.src npr
      have hr2 : put M1 r (.lst [.int (k - 1)]) r = some (.lst [.int (k - 1)]) := put_same
      have hu2 : put M1 r (.lst [.int (k - 1)]) u = some (.lst (b.map St.d)) := by rw [put_ne nur]; exact J.hu
      generalize put M1 r (.lst [.int (k - 1)]) = M2 at s2 hr2 hu2 ⊢
      refine block_frz (by omega) (by omega) (by omega) (by decide) (by decide) (M2 := M2) ⟨s2.src, s2.room, fun _ _ _ _ e => e⟩ hr2 (by omega) npr hp fun a M3 k3 ho hdd hz hr3 hk3 s3 => ?_
      have hu3 : M3 u = some (.lst (b.map St.d)) := s3.st u _ nup nur hu2
      walk_at "dl"
      by_cases h3 : c = 0
      · rw [if_pos h3]
        try simp only [hu3]
        walk_at "dl"
        try simp only [hu3]
        walk_at "dl"
        try simp only [hu3]
        walk_at "dl"
        try simp only [hu3]
        walk_at "dl"
        try simp only [hu3]
        walk_at "dl"
        try simp only [hu3]
        walk_at "dl"
        try simp only [hu3]
        walk_at "dl"
        try simp only [hu3]
        walk_at "dl"
        try simp only [hu3]
        walk_at "dl"
        try simp only [hu3]
        walk_at "dl"
        rw [List.length_map]
        have q := J.go (s := .again a) hM0 nup nur (s2.trans s3) hr3 (by rw [St.ok]; exact ho) (by rw [St.dep]; omega) hd3 (by rw [St.sz]; omega) (by omega)
        rw [again_d'] at q
        exact ⟨by decide, by omega, hn _ _ _ _ q⟩
      · rw [if_neg h3]
        try simp only [hu3]
        walk_at "dl"
        try simp only [hu3]
        walk_at "dl"
        try simp only [hu3]
        walk_at "dl"
        try simp only [hu3]
        walk_at "dl"
        try simp only [hu3]
        walk_at "dl"
        try simp only [hu3]
        walk_at "dl"
        try simp only [hu3]
        walk_at "dl"
        try simp only [hu3]
        walk_at "dl"
        try simp only [hu3]
        walk_at "dl"
        try simp only [hu3]
        walk_at "dl"
        refine block_frz (by omega) (by omega) (by omega) (by decide) (by decide) s3 hr3 (by omega) npr hp fun a2 M4 k4 ho2 hdd2 hz2 hr4 hk4 s4 => ?_
        have hu4 : M4 u = some (.lst (b.map St.d)) := s4.st u _ nup nur hu2
        try simp only [hu4]
        walk_at "dl"
        try simp only [hu4]
        walk_at "dl"
        try simp only [hu4]
        walk_at "dl"
        try simp only [hu4]
        walk_at "dl"
        try simp only [hu4]
        walk_at "dl"
        try simp only [hu4]
        walk_at "dl"
        try simp only [hu4]
        walk_at "dl"
        try simp only [hu4]
        walk_at "dl"
        try simp only [hu4]
        walk_at "dl"
        try simp only [hu4]
        walk_at "dl"
        rw [List.length_map]
        have q := J.go (s := .either a a2) hM0 nup nur (s2.trans s4) hr4 (by rw [St.ok]; exact ⟨ho, ho2⟩) (by rw [St.dep]; omega) hd3 (by rw [St.sz]; omega) (by omega)
        rw [either_d'] at q
        exact ⟨by decide, by omega, hn _ _ _ _ q⟩
    · rw [if_neg h2, if_pos (by omega)]
      try simp only [J.hu]
      walk_at "dl"
      try simp only [J.hu]
      walk_at "dl"
      try simp only [J.hu]
      walk_at "dl"
      try simp only [J.hu]
      walk_at "dl"
      try simp only [J.hu]
      walk_at "dl"
      try simp only [J.hu]
      walk_at "dl"
      try simp only [J.hu]
      walk_at "dl"
      try simp only [J.hu]
      walk_at "dl"
      try simp only [J.hu]
      walk_at "dl"
      try simp only [J.hu]
      walk_at "dl"
      refine smp kk _ _ fun s M3 k3 hu3 q => ?_
      try simp only [hu3]
      walk_at "dl"
      try simp only [hu3]
      walk_at "dl"
      try simp only [hu3]
      walk_at "dl"
      try simp only [hu3]
      walk_at "dl"
      try simp only [hu3]
      walk_at "dl"
      try simp only [hu3]
      walk_at "dl"
      try simp only [hu3]
      walk_at "dl"
      try simp only [hu3]
      walk_at "dl"
      try simp only [hu3]
      walk_at "dl"
      try simp only [hu3]
      walk_at "dl"
      rw [List.length_map]
      exact ⟨by omega, hn _ _ _ _ q⟩
  · rw [if_neg h1]
    by_cases h9 : c < 9
    · rw [if_pos h9]
      try simp only [J.hu]
      walk_at "dl"
      try simp only [J.hu]
      walk_at "dl"
      try simp only [J.hu]
      walk_at "dl"
      try simp only [J.hu]
      walk_at "dl"
      try simp only [J.hu]
      walk_at "dl"
      try simp only [J.hu]
      walk_at "dl"
      try simp only [J.hu]
      walk_at "dl"
      try simp only [J.hu]
      walk_at "dl"
      try simp only [J.hu]
      walk_at "dl"
      try simp only [J.hu]
      walk_at "dl"
      refine smp (hc h9) _ _ fun s M3 k3 hu3 q => ?_
      try simp only [hu3]
      walk_at "dl"
      try simp only [hu3]
      walk_at "dl"
      try simp only [hu3]
      walk_at "dl"
      try simp only [hu3]
      walk_at "dl"
      try simp only [hu3]
      walk_at "dl"
      try simp only [hu3]
      walk_at "dl"
      try simp only [hu3]
      walk_at "dl"
      try simp only [hu3]
      walk_at "dl"
      try simp only [hu3]
      walk_at "dl"
      try simp only [hu3]
      walk_at "dl"
      rw [List.length_map]
      exact ⟨by omega, hn _ _ _ _ q⟩
    · rw [if_neg h9]
      exact hn _ _ _ _ J
theorem p_l_block (n : Nat) : ∀ ds M Q E, sp_l_block (n + 1) ds M Q E → w_l_block n (Ret Q E) (ds.map some ++ List.replicate (9 - 5) none) M := by
  rintro ds M Q E ⟨p, r, k, d, m, pls, rfl, hn, h0, h3, m0, m1, hs, hr, hk, npr, hp, hQ⟩
  unfold w_l_block
  walk_at "dl"
  refine ⟨by decide, fun u hu => ?_⟩
  have nup : u ≠ p := (SX0.refl hs).ne hu
  have nur : u ≠ r := fun z => by rw [z, hr] at hu; cases hu
  have hs1 : Src (put M u (.lst [])) p := by obtain ⟨ns, t, r2, dd, e, z⟩ := hs; exact ⟨ns, t, r2, dd, by rw [put_ne (Ne.symm nup)]; exact e, z⟩
  refine draw_ hs1 (by omega) (by omega) fun c M1 c0 c1 s1 => ?_
  have J1 : WB p r u M k d M1 [] k := by
    refine ⟨by rw [s1.2 u nup, put_same]; rfl, by rw [s1.2 r (Ne.symm npr), put_ne (Ne.symm nur)]; exact hr, ⟨s1.1, ⟨k, by rw [s1.2 r (Ne.symm npr), put_ne (Ne.symm nur)]; exact hr⟩, fun b o h1 h2 e => ?_⟩, by rw [stsOk]; trivial, by rw [stsDep]; omega, by rw [stsSz]; omega, by omega⟩
    have : b ≠ u := fun z => by rw [z, hu] at e; cases e
    rw [s1.2 b h1, put_ne this]; exact e
  walk_at "dl"
  refine ⟨by omega, by omega, wFor_by (fun i τ M' => ∃ b k' x6 x7 x8, τ = [some (.ref p), some (.lst (pls.map D.str)), some (.int m), some (.int d), some (.ref r), some (.ref u), x6, x7, x8] ∧ WB p r u M k d M' b k') ⟨[], k, _, _, _, rfl, J1⟩ ?_ ?_⟩
  · rintro i di τ M2 hdi ⟨b, k', x6, x7, x8, rfl, J⟩ nxt hnx
    obtain ⟨rfl, hi⟩ := upTo_at hdi
    unfold w_l_block_b2
    walk_at "dl"
    refine draw_ J.sr.src (by decide) (by decide) fun c M3 c0 c1 s3 => ?_
    have J3 : WB p r u M k d M3 b k' := ⟨by rw [s3.2 u nup]; exact J.hu, by rw [s3.2 r (Ne.symm npr)]; exact J.hr, J.sr.trans (SR.of s3 J.hr npr), J.ok, J.dp, J.sz, J.k1⟩
    try simp only [J3.hr, atI_0]
    walk_at "dl"
    try simp only [J3.hr, atI_0]
    walk_at "dl"
    try simp only [J3.hr, atI_0]
    walk_at "dl"
    try simp only [J3.hr, atI_0]
    walk_at "dl"
    try simp only [J3.hr, atI_0]
    walk_at "dl"
    try simp only [J3.hr, atI_0]
    walk_at "dl"
    try simp only [J3.hr, atI_0]
    walk_at "dl"
    try simp only [J3.hr, atI_0]
    walk_at "dl"
    try simp only [J3.hr, atI_0]
    walk_at "dl"
    try simp only [J3.hr, atI_0]
    walk_at "dl"
    by_cases hk1 : k' < 1
    · rw [if_pos hk1]
      exact dblock_c1 hn h0 h3 hp J3 hk hu npr nup nur (by decide) (fun h => by omega) fun b2 k2 M4 x8 J4 => hnx _ _ ⟨b2, k2, _, _, _, rfl, J4⟩
    · rw [if_neg hk1]
      exact dblock_c1 hn h0 h3 hp J3 hk hu npr nup nur c0 (fun h => by omega) fun b2 k2 M4 x8 J4 => hnx _ _ ⟨b2, k2, _, _, _, rfl, J4⟩
  · rintro τ M2 ⟨b, k', x6, x7, x8, rfl, J⟩
    walk_at "dl"
    exact hQ b u k' M2 hu J.hu J.ok J.dp J.sz J.hr J.k1 J.sr
/-- a block asked -/
theorem block_any {p r : Addr} {k d m : Int} {pls : List Tx} {M3 : Mu} {K : DK} {E : DX} (h0 : 0 ≤ d) (h3 : d ≤ 3) (m0 : 0 ≤ m) (m1 : m ≤ 20) (hs : Src M3 p) (hr3 : M3 r = some (.lst [.int k])) (hk3 : k ≤ 300) (npr : p ≠ r) (hp : Pls pls)
    (h : ∀ a q M' k4, M3 q = none → M' q = some (.lst (a.map St.d)) → stsOk a → (stsDep a : Int) ≤ 3 - d → stsSz a + rmN k4 ≤ rmN k → M' r = some (.lst [.int k4]) → k4 ≤ k → SR p r M3 M' → K (.ref q) M') :
    sp_l_block 4 [.ref p, .lst (pls.map D.str), .int m, .int d, .ref r] M3 K E :=
  ⟨p, r, k, d, m, pls, rfl, by omega, h0, h3, m0, m1, hs, hr3, hk3, npr, hp, fun a q k4 M' hq hq2 ho hdd hz hr4 hk4 s4 => h a q M' k4 hq hq2 ho hdd hz hr4 hk4 s4⟩
theorem ins_ok {b : List St} {s : St} {e n m : Nat} (ho : stsOk b) (hs : s.ok) (hd : stsDep b ≤ n) (hd2 : s.dep ≤ n) (hz : stsSz b + s.sz ≤ m) : stsOk (b.take e ++ [s] ++ b.drop e) ∧ stsDep (b.take e ++ [s] ++ b.drop e) ≤ n ∧ stsSz (b.take e ++ [s] ++ b.drop e) ≤ m := by
  have mem : ∀ x ∈ b.take e ++ [s] ++ b.drop e, x ∈ b ∨ x = s := fun x hx => by
    rw [List.mem_append, List.mem_append, List.mem_singleton] at hx
    rcases hx with (hx | hx) | hx
    · exact .inl (List.mem_of_mem_take hx)
    · exact .inr hx
    · exact .inl (List.mem_of_mem_drop hx)
  refine ⟨stsOk_all.mpr fun x hx => ?_, stsDep_le.mpr fun x hx => ?_, ?_⟩
  · rcases mem x hx with h | rfl
    · exact stsOk_all.mp ho x h
    · exact hs
  · rcases mem x hx with h | rfl
    · exact stsDep_le.mp hd x h
    · exact hd2
  · have := stsSz_app (a := b.take e) (b := b.drop e)
    rw [List.take_append_drop] at this
    rw [stsSz_app, stsSz_snoc]
    omega
theorem SR.none {p r u : Addr} {M M' : Mu} (s : SR p r M M') (h : M' u = Option.none) : M u = Option.none ∧ u ≠ p ∧ u ≠ r := by
  have np : u ≠ p := fun z => src_ne_none s.src (by rw [← z]; exact h)
  have nr : u ≠ r := fun z => by obtain ⟨k, e⟩ := s.room; rw [z, e] at h; cases h
  refine ⟨?_, np, nr⟩
  cases e : M u with
  | none => rfl
  | some o => rw [s.st u o np nr e] at h; cases h
theorem SR.put {p r u : Addr} {o : MO} {M M' : Mu} (s : SR p r M M') (h : M u = Option.none) (np : u ≠ p) (nr : u ≠ r) : SR p r M (put M' u o) := by
  refine ⟨?_, ?_, fun b x b1 b2 e => ?_⟩
  · obtain ⟨ns, t, r2, dd, e, z⟩ := s.src
    exact ⟨ns, t, r2, dd, by rw [put_ne (Ne.symm np)]; exact e, z⟩
  · obtain ⟨k, e⟩ := s.room
    exact ⟨k, by rw [put_ne (Ne.symm nr)]; exact e⟩
  · have : b ≠ u := fun z => by rw [z, h] at e; cases e
    rw [put_ne this]; exact s.st b x b1 b2 e
theorem SR.del {p r u : Addr} {M M' : Mu} (s : SR p r M M') (h : M u = Option.none) (np : u ≠ p) (nr : u ≠ r) : SR p r M (del M' u) := by
  refine ⟨?_, ?_, fun b x b1 b2 e => ?_⟩
  · obtain ⟨ns, t, r2, dd, e, z⟩ := s.src
    exact ⟨ns, t, r2, dd, by rw [del_ne (Ne.symm np)]; exact e, z⟩
  · obtain ⟨k, e⟩ := s.room
    exact ⟨k, by rw [del_ne (Ne.symm nr)]; exact e⟩
  · have : b ≠ u := fun z => by rw [z, h] at e; cases e
    rw [del_ne this]; exact s.st b x b1 b2 e
def sp_l_wrapped : DSp := fun ds M Q _ => ∃ (p r : Addr) (k m : Int) (pls : List Tx), ds = [.ref p, .lst (pls.map D.str), .int m, .ref r] ∧ 1 ≤ m ∧ m ≤ 3 ∧ Src M p ∧ M r = some (.lst [.int k]) ∧ k ≤ 300 ∧ p ≠ r ∧ Pls pls ∧
  ∀ b q M', M q = none → M' q = some (.lst (b.map St.d)) → stsOk b → stsDep b ≤ 3 → stsSz b ≤ rmN k + 3 → SR p r M M' → Q (.ref q) M'
def w_l_wrapped_c1 : DTS := dSeq (dSet 4 (dCall (sp_l_block 4) (daCons (dVar 0) (daCons (dVar 1) (daCons (dC (.int 1)) (daCons (dC (.int 3)) (daCons (dVar 3) (daNil)))))))) (dDrop (dMt "list" gInsert (dVar 4) (daCons (dCall sp_l_draw (daCons (dVar 0) (daCons (dOp gAdd (dCB gLen (daCons (dVar 4) (daNil))) (dC (.int 1))) (daNil)))) (daCons (dVar 8) (daNil)))))
def w_l_wrapped_c2 : DTS := dSeq (dIfS (dTest (dOp gEq (dVar 7) (dC (.int 2)))) (dSet 8 (dTup (daCons (dC (.str (T "either"))) (daCons (dVar 6) (daCons (dVar 4) (daNil)))))) (dPass)) (w_l_wrapped_c1)
def w_l_wrapped_b3 : DTS := dSeq (dAsg (dOp gSub (dOp gIx (dVar 3) (dC (.int 0))) (dC (.int 1))) (dgSub (dVar 3) (dC (.int 0)) gSetA)) (dSeq (dSet 6 (dFrz (dCall (sp_l_block 4) (daCons (dVar 0) (daCons (dVar 1) (daCons (dC (.int 1)) (daCons (dC (.int 3)) (daCons (dVar 3) (daNil))))))))) (dSeq (dSet 7 (dCall sp_l_draw (daCons (dVar 0) (daCons (dC (.int 3)) (daNil))))) (dFz 4 (dSeq (dSet 8 (dTup (daCons (dC (.str (T "again"))) (daCons (dVar 4) (daNil))))) (dSeq (dIfS (dTest (dOp gEq (dVar 7) (dC (.int 1)))) (dSet 8 (dTup (daCons (dC (.str (T "either"))) (daCons (dVar 4) (daCons (dVar 6) (daNil)))))) (dPass)) (w_l_wrapped_c2))))))
def w_l_wrapped : DTS := dSeq (dSet 4 (dCall (sp_l_block 4) (daCons (dVar 0) (daCons (dVar 1) (daCons (dC (.int 2)) (daCons (dC (.int 3)) (daCons (dVar 3) (daNil)))))))) (dSeq (dFor (diRng1 (daCons (dVar 2) (daNil))) (dgName 5) (w_l_wrapped_b3)) (dRet (dVar 4)))
theorem p_l_wrapped : ∀ ds M Q E, sp_l_wrapped ds M Q E → w_l_wrapped (Ret Q E) (ds.map some ++ List.replicate (9 - 4) none) M := by
  rintro ds M Q E ⟨p, r, k, m, pls, rfl, hm1, hm3, hs, hr, hk, npr, hp, hQ⟩
  have ix : ixN 1 0 = some 0 := rfl
  unfold w_l_wrapped
  walk_at "dl"
  refine block_any (by decide) (by decide) (by decide) (by decide) hs hr hk npr hp fun b q M1 k1 hq hq2 ho hd hz hr1 hk1 s1 => ?_
  walk_at "dl"
  refine ⟨by omega, by omega, wFor_by (fun i τ M' => ∃ b q k' x5 x6 x7 x8, τ = [some (.ref p), some (.lst (pls.map D.str)), some (.int m), some (.ref r), some (.ref q), x5, x6, x7, x8] ∧ M q = none ∧ q ≠ p ∧ q ≠ r ∧ M' q = some (.lst (b.map St.d)) ∧ M' r = some (.lst [.int k']) ∧ k' ≤ k ∧ stsOk b ∧ stsDep b ≤ i ∧ stsSz b + rmN k' ≤ rmN k + i ∧ SR p r M M')
    ⟨b, q, k1, _, _, _, _, rfl, hq, (SX0.refl hs).ne hq, (fun z => by rw [z, hr] at hq; cases hq), hq2, hr1, hk1, ho, by omega, by omega, s1⟩ ?_ ?_⟩
  · rintro i di τ M2 hdi ⟨b, q, k', x5, x6, x7, x8, rfl, hq, nqp, nqr, hq2, hr2, hk2, ho, hd, hz, s2⟩ nxt hn
    obtain ⟨rfl, hi⟩ := upTo_at hdi
    unfold w_l_wrapped_b3
    try simp only [hr2, atI_0, ix]
    walk_at "dl"
    try simp only [hr2, atI_0, ix]
    walk_at "dl"
    try simp only [hr2, atI_0, ix]
    walk_at "dl"
    try simp only [hr2, atI_0, ix]
    walk_at "dl"
    try simp only [hr2, atI_0, ix]
    walk_at "dl"
    try simp only [hr2, atI_0, ix]
    walk_at "dl"
    try simp only [hr2, atI_0, ix]
    walk_at "dl"
    try simp only [hr2, atI_0, ix]
    walk_at "dl"
    try simp only [hr2, atI_0, ix]
    walk_at "dl"
    try simp only [hr2, atI_0, ix]
    walk_at "dl"
    have sr3 : SR p r M2 (put M2 r (.lst [.int (k' - 1)])) := SR.room_put s2.src npr
    have hr3 : put M2 r (.lst [.int (k' - 1)]) r = some (.lst [.int (k' - 1)]) := put_same
    have hb3 : put M2 r (.lst [.int (k' - 1)]) q = some (.lst (b.map St.d)) := by rw [put_ne nqr]; exact hq2
    have s3 := s2.trans sr3
    generalize put M2 r (.lst [.int (k' - 1)]) = M3 at s3 hr3 hb3 ⊢
    have rm1 : rmN (k' - 1) ≤ rmN k' := by unfold rmN; omega
    refine block_frz (n := 4) (M2 := M3) (by decide) (by decide) (by decide) (by decide) (by decide) ⟨s3.src, s3.room, fun _ _ _ _ e => e⟩ hr3 (by omega) npr hp fun a M4 k4 ao ad az hr4 hk4 s4 => ?_
    have hb4 : M4 q = some (.lst (b.map St.d)) := s4.st q _ nqp nqr hb3
    have s14 := s3.trans s4
    walk_at "dl"
    refine draw_ s14.src (by decide) (by decide) fun c M5 c0 c1 s5 => ?_
    obtain ⟨sr5, hr5⟩ := s5.sr npr hr4
    have hb5 : M5 q = some (.lst (b.map St.d)) := by rw [s5.2 q nqp]; exact hb4
    try simp only [hb5]
    walk_at "dl"
    try simp only [hb5]
    walk_at "dl"
    try simp only [hb5]
    walk_at "dl"
    try simp only [hb5]
    walk_at "dl"
    try simp only [hb5]
    walk_at "dl"
    try simp only [hb5]
    walk_at "dl"
    try simp only [hb5]
    walk_at "dl"
    try simp only [hb5]
    walk_at "dl"
    try simp only [hb5]
    walk_at "dl"
    try simp only [hb5]
    walk_at "dl"
    refine ⟨by decide, ?_⟩
    have s6 := (s14.trans sr5).del hq nqp nqr
    have hr6 : del M5 q r = some (.lst [.int k4]) := by rw [del_ne (Ne.symm nqr)]; exact hr5
    generalize del M5 q = M6 at s6 hr6 ⊢
    have fin : ∀ (D0 : DEnds), D0.nx = nxt → ∀ s : St, s.ok → s.dep ≤ i + 1 → s.sz ≤ stsSz a + stsSz b + 1 → w_l_wrapped_c1 D0 [some (.ref p), some (.lst (pls.map D.str)), some (.int m), some (.ref r), some (.lst (b.map St.d)), some (.int (0 + i)), some (.lst (a.map St.d)), some (.int c), some s.d] M6 := by
      intro D0 hD s hso hsd hsz
      unfold w_l_wrapped_c1
      walk_at "dl"
      refine block_any (by decide) (by decide) (by decide) (by decide) s6.src hr6 (by omega) npr hp fun g q3 M7 k7 hg hg2 go gd gz hr7 hk7 s7 => ?_
      have s8 := s6.trans s7
      obtain ⟨hg0, nq3p, nq3r⟩ := s6.none hg
      try simp only [hg2]
      walk_at "dl"
      try simp only [hg2]
      walk_at "dl"
      try simp only [hg2]
      walk_at "dl"
      try simp only [hg2]
      walk_at "dl"
      try simp only [hg2]
      walk_at "dl"
      try simp only [hg2]
      walk_at "dl"
      try simp only [hg2]
      walk_at "dl"
      try simp only [hg2]
      walk_at "dl"
      try simp only [hg2]
      walk_at "dl"
      try simp only [hg2]
      walk_at "dl"
      rw [List.length_map]
      have hgl := sz_len (b := g)
      have gz' : stsSz g ≤ 300 := by unfold rmN at gz; omega
      refine draw_ s8.src (by omega) (by omega) fun e M8 e0 e1' s9 => ?_
      obtain ⟨sr9, hr9⟩ := s9.sr npr hr7
      have hg8 : M8 q3 = some (.lst (g.map St.d)) := by rw [s9.2 q3 nq3p]; exact hg2
      try simp only [hg8]
      walk_at "dl"
      try simp only [hg8]
      walk_at "dl"
      try simp only [hg8]
      walk_at "dl"
      try simp only [hg8]
      walk_at "dl"
      try simp only [hg8]
      walk_at "dl"
      try simp only [hg8]
      walk_at "dl"
      try simp only [hg8]
      walk_at "dl"
      try simp only [hg8]
      walk_at "dl"
      try simp only [hg8]
      walk_at "dl"
      try simp only [hg8]
      walk_at "dl"
      rw [List.length_map]
      obtain ⟨z1, z2, z3⟩ := ins_ok (e := e.toNat) (n := i + 1) (m := stsSz g + s.sz) go hso (by omega) hsd (Nat.le_refl _)
      have e4 : (g.map St.d).take e.toNat ++ [s.d] ++ (g.map St.d).drop e.toNat = (g.take e.toNat ++ [s] ++ g.drop e.toNat).map St.d := by
        rw [List.map_append, List.map_append, List.map_take, List.map_drop]; rfl
      rw [e4, hD]
      exact ⟨by omega, by omega, by omega, hn _ _ ⟨_, q3, k7, _, _, _, _, rfl, hg0, nq3p, nq3r, put_same, by rw [put_ne (Ne.symm nq3r)]; exact hr9, by omega, z1, z2, by omega, (s8.trans sr9).put hg0 nq3p nq3r⟩⟩
    have da : stsDep a = 0 := by omega
    have sE : (St.either b a).ok ∧ (St.either b a).dep ≤ i + 1 ∧ (St.either b a).sz ≤ stsSz a + stsSz b + 1 := ⟨by rw [St.ok]; exact ⟨ho, ao⟩, by rw [St.dep]; omega, by rw [St.sz]; omega⟩
    have sE2 : (St.either a b).ok ∧ (St.either a b).dep ≤ i + 1 ∧ (St.either a b).sz ≤ stsSz a + stsSz b + 1 := ⟨by rw [St.ok]; exact ⟨ao, ho⟩, by rw [St.dep]; omega, by rw [St.sz]; omega⟩
    have sA : (St.again b).ok ∧ (St.again b).dep ≤ i + 1 ∧ (St.again b).sz ≤ stsSz a + stsSz b + 1 := ⟨by rw [St.ok]; exact ho, by rw [St.dep]; omega, by rw [St.sz]; omega⟩
    have fin2 : ∀ (D0 : DEnds), D0.nx = nxt → ∀ s : St, s.ok → s.dep ≤ i + 1 → s.sz ≤ stsSz a + stsSz b + 1 → w_l_wrapped_c2 D0 [some (.ref p), some (.lst (pls.map D.str)), some (.int m), some (.ref r), some (.lst (b.map St.d)), some (.int (0 + i)), some (.lst (a.map St.d)), some (.int c), some s.d] M6 := by
      intro D0 hD s h1 h2 h3
      unfold w_l_wrapped_c2
      walk_at "dl"
      split
      · have := fin D0 hD (.either a b) sE2.1 sE2.2.1 sE2.2.2
        rw [either_d'] at this
        exact ⟨by decide, this⟩
      · exact fin D0 hD s h1 h2 h3
    split
    · have := fin2 { nx := nxt, rt := Q, bk := dRet (dVar 4) (Ret Q E), ct := nxt, xc := fun x x_1 M' => E x M' } rfl (.either b a) sE.1 sE.2.1 sE.2.2
      rw [either_d'] at this
      exact ⟨by decide, this⟩
    · have := fin2 { nx := nxt, rt := Q, bk := dRet (dVar 4) (Ret Q E), ct := nxt, xc := fun x x_1 M' => E x M' } rfl (.again b) sA.1 sA.2.1 sA.2.2
      rw [again_d'] at this
      exact this
  · rintro τ M2 ⟨b, q, k', x5, x6, x7, x8, rfl, hq, nqp, nqr, hq2, hr2, hk2, ho, hd, hz, s2⟩
    rw [upTo_len] at hd hz
    walk_at "dl"
    exact hQ b q M2 hq hq2 ho (by omega) (by omega) s2
def sp_l_branched : DSp := fun ds M Q _ => ∃ (p : Addr) (m : Int) (pls : List Tx), ds = [.ref p, .lst (pls.map D.str), .int m] ∧ 0 ≤ m ∧ m ≤ 100 ∧ Src M p ∧ Pls pls ∧
  ∀ b q M', M q = none → M' q = some (.lst (b.map St.d)) → stsOk b → stsDep b ≤ 3 → stsSz b ≤ 2 * m.toNat + 3 → SX0 p M M' → Q (.ref q) M'
def w_l_branched : DTS := dSeq (dSet 3 (dCall (sp_l_block 4) (daCons (dVar 0) (daCons (dVar 1) (daCons (dC (.int 3)) (daCons (dC (.int 0)) (daCons (dLstM (daCons (dVar 2) (daNil))) (daNil)))))))) (dSeq (dIfS (dTest (dOp gLt (dCall sp_l_draw (daCons (dVar 0) (daCons (dC (.int 3)) (daNil)))) (dC (.int 2)))) (dSet 3 (dOp gAddM (dVar 3) (dFrz (dCall sp_l_wrapped (daCons (dVar 0) (daCons (dVar 1) (daCons (dOp gAdd (dC (.int 1)) (dCall sp_l_draw (daCons (dVar 0) (daCons (dC (.int 3)) (daNil))))) (daCons (dLstM (daCons (dVar 2) (daNil))) (daNil))))))))) (dPass)) (dRet (dVar 3)))
theorem p_l_branched : ∀ ds M Q E, sp_l_branched ds M Q E → w_l_branched (Ret Q E) (ds.map some ++ List.replicate (4 - 3) none) M := by
  rintro ds M Q E ⟨p, m, pls, rfl, m0, m1, hs, hp, hQ⟩
  unfold w_l_branched
  walk_at "dl"
  refine ⟨by decide, fun r hr => ?_⟩
  have nrp := (SX0.refl hs).ne hr
  refine block_any (by decide) (by decide) (by decide) (by decide) ((SX0.refl hs).put hr nrp).src put_same (by omega) (Ne.symm nrp) hp fun b q M1 k1 hq hq2 ho hd hz hr1 hk1 s1 => ?_
  have hq0 := ((SX0.refl hs).put hr nrp).none hq
  have nqp := (SX0.refl hs).ne hq0
  have s1' : SX0 p M M1 := SR.new hs hr s1
  walk_at "dl"
  refine draw_ s1'.src (by decide) (by decide) fun c M2 c0 c1 s2 => ?_
  have hb2 : M2 q = some (.lst (b.map St.d)) := by rw [s2.2 q nqp]; exact hq2
  have s12 := s1'.trans s2.sx0
  walk_at "dl"
  unfold rmN at hz
  split
  · refine draw_ s12.src (by decide) (by decide) fun e M3 e0 e1 s3 => ?_
    have hb3 : M3 q = some (.lst (b.map St.d)) := by rw [s3.2 q nqp]; exact hb2
    have s13 := s12.trans s3.sx0
    walk_at "dl"
    refine ⟨by decide, fun r2 hr2 => ?_⟩
    have nr2p := s13.ne hr2
    refine ⟨p, r2, m, 1 + e, pls, rfl, by omega, by omega, ((SX0.refl s13.src).put hr2 nr2p).src, put_same, by omega, Ne.symm nr2p, hp, fun a q2 M4 ha ha2 ao ad az s4 => ?_⟩
    have ha1 := ((SX0.refl s13.src).put hr2 nr2p).none ha
    have s4' : SX0 p M3 M4 := SR.new s13.src hr2 s4
    have s14 := s13.trans s4'
    have ha0 := s13.none ha1
    have nq2p := (SX0.refl hs).ne ha0
    have hb4 : M4 q = some (.lst (b.map St.d)) := s4'.st q _ nqp hb3
    have n12 : q ≠ q2 := fun z => by rw [← z, hb3] at ha1; cases ha1
    show frzK (K := _) ⟨⟩ (.ref q2) M4
    try simp only [ha2, addM_rl, del_ne n12, hb4]
    walk_at "dl"
    try simp only [ha2, addM_rl, del_ne n12, hb4]
    walk_at "dl"
    try simp only [ha2, addM_rl, del_ne n12, hb4]
    walk_at "dl"
    try simp only [ha2, addM_rl, del_ne n12, hb4]
    walk_at "dl"
    try simp only [ha2, addM_rl, del_ne n12, hb4]
    walk_at "dl"
    try simp only [ha2, addM_rl, del_ne n12, hb4]
    walk_at "dl"
    try simp only [ha2, addM_rl, del_ne n12, hb4]
    walk_at "dl"
    try simp only [ha2, addM_rl, del_ne n12, hb4]
    walk_at "dl"
    try simp only [ha2, addM_rl, del_ne n12, hb4]
    walk_at "dl"
    try simp only [ha2, addM_rl, del_ne n12, hb4]
    walk_at "dl"
    rw [List.length_map, List.length_map]
    have l1 := sz_len (b := b)
    have l2 := sz_len (b := a)
    unfold rmN at az
    refine ⟨by omega, fun u hu => ?_⟩
    have s5 := s14.del ha0 nq2p
    have hu0 := s5.none hu
    have nup := (SX0.refl hs).ne hu0
    refine hQ (b ++ a) u _ hu0 (by rw [put_same, List.map_append]) (stsOk_all.mpr fun x hx => ?_) (stsDep_le.mpr fun x hx => ?_) (by rw [stsSz_app]; omega) (s5.put hu0 nup)
    · rcases List.mem_append.mp hx with h | h
      · exact stsOk_all.mp ho x h
      · exact stsOk_all.mp ao x h
    · rcases List.mem_append.mp hx with h | h
      · have := stsDep_le.mp (Nat.le_refl (stsDep b)) x h
        omega
      · exact stsDep_le.mp ad x h
  · exact hQ b q M2 hq0 hb2 ho (by omega) (by omega) s12
end DL

/-! the program's copies, which may be changed: data in memory with lists of their own -/
namespace DL
open PySem L2
local macro_rules | `(tactic| walk_at "dl") => `(tactic| try simp (config := { proj := false }) only [↓ex_mk, ↓nx_mk, ↓rt_mk, ↓bk_mk, ↓ct_mk, ↓xc_mk, ↓u_c, ↓u_op, ↓u_un, ↓u_and, ↓u_or, ↓u_not, ↓u_if, ↓u_anil, ↓u_acons, ↓u_lst, ↓u_lstM, ↓u_tup, ↓u_call, ↓u_sl, ↓u_onone, ↓u_cb, ↓u_mt, ↓u_mt0, ↓u_pass, ↓u_seq, ↓u_set, ↓u_asg, ↓u_drop, ↓u_ret, ↓u_retN, ↓u_ifs, ↓u_brk, ↓u_cnt, ↓u_for, ↓u_gname, ↓u_gsub, ↓u_fs, ↓u_fmt, ↓u_js0, ↓u_js, ↓u_em, ↓u_yes, ↓u_never, ↓u_ref, ↓u_forR, ↓u_star, ↓u_dict, ↓u_dict0, ↓u_dp0, ↓u_dp1, ↓u_forK, ↓u_lock, ↓u_kd, ↓u_fld, ↓u_setF, ↓u_make, ↓u_binL, ↓u_binR, ↓u_inO, ↓u_getO, ↓u_setO, ↓u_augO, ↓u_prp, ↓u_inv, ↓u_meth, ↓u_keys, ↓u_try, ↓u_cm, ↓u_makeV, ↓r_enum, ↓r_own, ↓u_raise, ↓u_tryas, ↓u_ca, ↓u_xf, ↓u_idxC, su_mk,
  ↓r_var, ↓r_test, ↓r_andV, ↓r_orV, ↓r_notV, ↓r_tru, ↓r_frz, ↓r_osome, ↓r_any, ↓r_scr, scr_c, ↓r_rng1, ↓r_rng2, ↓r_fz, wipeD,
  onSome_s, onBl_b, onInt_i, onStr_s, onVar_s, onML_l, onML2_l, onML2_d, onDK_d, fmt_s, fmt_i, tru_n, tru_b, tru_i, tru_s, tru_l, tru_t, tru_r, frz_r, sl_s, sl_l, sl_t, sl_r, add_i, add_s, add_l, add_t, add_rl, add_lr, sub_i, mul_i, div_i, mod_i, pow_i, neg_i, cmp_i, eq_i, eq_s, eq_b, eq_n, eq_l, eq_t, eq_rl, eq_lr, eq_ni, eq_in, eq_ns, eq_sn, eq_nb, eq_bn, eq_is, eq_si,
  ix_l, ix_t, ix_s, ix_ri, ix_rs, in_ss, in_l, in_t, in_ir, in_sr, isB_t, isB_f, ltS_s, gtS_s, sorted_l, keyK_s, keyK_i, u_dget, lenOR_r, listOR_r, isn_n, isn_b, isn_i, isn_s, isn_r, isn_l, isn_t, len_s, len_c, len_l, len_t, len_r, int_i, int_b, min_ii, max_ii, list_l, list_t, list_r, list_c, listM_l, listM_c, listM_t, listM_r, isi_, isi_k, ty_n, ty_b, ty_i, ty_s, ty_l, ty_t, it_s, it_l, it_r, itM_l, itM_d, app_r, rev_r, ends_s, ins_r, set_rs, str_i, str_s, ext_l, pop_r, clr_r, star_l, star_t, star_r, onRef_r, onML3_l, onML3_d, onML3_f, onDR_d, onDR_f, onFK_f, join_l, join_t, join_r, starts_s, r_gtup, r_glst, r_gnil, r_gcons, set_r, items_s, items_l, items_t, rng1_i, rng2_i, fz_r, addM_l, addM_rl, onIns_i, onLst_l, isIns_r, isInsM_i, noF_r, noFM_i, rows_r, lenO_r, listO_r, listOM_r, isCK_i, isCK_l, isC_r, isC_s, isC_i, isC_b, isC_n, isC_l, isC_t, putG_0, putG_1, lk_1, onCl_c, onEnum_l, index_l, strO_r, cmpO_r, pop1_r, tuple_l, tuple_t, divmod_i, upper_s, indexT_t, onExc_e, isE_t, isE_c, isE_v, zip_1,
  List.map_cons, List.map_nil, List.cons_append, List.nil_append, List.length_cons, List.length_nil, List.replicate, List.getElem?_cons_zero, List.getElem?_cons_succ, List.set_cons_zero, List.set_cons_succ, id, decide_eq_true_eq, if_true, if_false, Bool.false_eq_true, reduceIte, Bool.not_true, Bool.not_false, true_and, Nat.reduceAdd, Nat.reduceSub, Int.reduceToNat, Int.toNat_natCast, put_same, put_put, atI_0, atI_1, atI_2, atI_3, atI_4, ixN_40, ixN_41, ixN_42, ixN_43])
theorem n_do_hold' : ([100, 111] = T "hold") = False := eq_false (by decide +kernel)
theorem n_hold_do : (T "hold" = [100, 111]) = False := eq_false (by decide +kernel)
theorem n_hold_ei : (T "hold" = T "either") = False := eq_false (by decide +kernel)
theorem n_hold_ag : (T "hold" = T "again") = False := eq_false (by decide +kernel)
theorem n_do_ei : ([100, 111] = T "either") = False := eq_false (by decide +kernel)
theorem n_do_ag : ([100, 111] = T "again") = False := eq_false (by decide +kernel)
theorem n_ag_do' : (T "again" = [100, 111]) = False := eq_false (by decide +kernel)
theorem n_ei_do' : (T "either" = [100, 111]) = False := eq_false (by decide +kernel)
theorem n_ag_ei' : (T "again" = T "either") = False := eq_false (by decide +kernel)
/-! rows of things, each with the addresses that are its own -/
inductive LF {α : Type} (R : α → D → List Addr → Prop) : List α → List D → List Addr → Prop
  | nil : LF R [] [] []
  | cons {a : α} {as : List α} {d : D} {ds : List D} {f fs : List Addr} : R a d f → LF R as ds fs → (∀ x ∈ f, x ∉ fs) → LF R (a :: as) (d :: ds) (f ++ fs)
section
variable {α : Type} {R R' : α → D → List Addr → Prop}
theorem LF.len : ∀ {as : List α} {ds : List D} {fs : List Addr}, LF R as ds fs → ds.length = as.length
  | _, _, _, .nil => rfl
  | _, _, _, .cons _ t _ => by rw [List.length_cons, List.length_cons, t.len]
theorem LF.imp : ∀ {as : List α} {ds : List D} {fs : List Addr}, LF R as ds fs → (∀ a ∈ as, ∀ d f, (∀ x ∈ f, x ∈ fs) → R a d f → R' a d f) → LF R' as ds fs
  | _, _, _, .nil, _ => .nil
  | _, _, _, .cons h t n, k => .cons (k _ List.mem_cons_self _ _ (fun x hx => List.mem_append_left _ hx) h) (t.imp fun a ha d f hf hr => k a (List.mem_cons_of_mem _ ha) d f (fun x hx => List.mem_append_right _ (hf x hx)) hr) n
theorem LF.snoc : ∀ {as : List α} {ds : List D} {fs : List Addr} {a : α} {d : D} {f : List Addr}, LF R as ds fs → R a d f → (∀ x ∈ f, x ∉ fs) → LF R (as ++ [a]) (ds ++ [d]) (fs ++ f)
  | _, _, _, a, d, f, .nil, h, _ => by
    have := LF.cons h LF.nil (fun x _ z => nomatch z)
    rw [List.append_nil] at this
    exact this
  | _, _, _, a, d, f, .cons (f := f0) (fs := fs0) h0 t n, h, hd => by
    have ih := t.snoc h fun x hx z => hd x hx (List.mem_append_right _ z)
    have := LF.cons h0 ih fun x hx z => (List.mem_append.mp z).elim (n x hx) fun q => hd x q (List.mem_append_left _ hx)
    rw [← List.append_assoc] at this
    exact this
theorem LF.drop {as : List α} {ds : List D} {fs : List Addr} {a : α} (h : LF R (a :: as) ds fs) : ∃ d ds' f fs', ds = d :: ds' ∧ fs = f ++ fs' ∧ R a d f ∧ LF R as ds' fs' ∧ ∀ x ∈ f, x ∉ fs' := by
  cases h with
  | cons h t n => exact ⟨_, _, _, _, rfl, rfl, h, t, n⟩
theorem LF.undrop {as : List α} {d : D} {ds : List D} {fs : List Addr} (h : LF R as (d :: ds) fs) : ∃ a as' f fs', as = a :: as' ∧ fs = f ++ fs' ∧ R a d f ∧ LF R as' ds fs' ∧ ∀ x ∈ f, x ∉ fs' := by
  cases h with
  | cons h t n => exact ⟨_, _, _, _, rfl, rfl, h, t, n⟩
end
/-- an argument in memory whose lists are its own; n: a bound of the depth -/
def ArF (M : Mu) : Nat → Ar → D → List Addr → Prop
  | 0, a, d, fp => a.dep = 0 ∧ d = a.d ∧ fp = []
  | n + 1, .call p nm pl as, d, fp => ∃ q ds fs, d = callD p nm pl (.ref q) ∧ M q = some (.lst ds) ∧ fp = q :: fs ∧ q ∉ fs ∧ LF (ArF M n) as ds fs
  | _ + 1, .num i, d, fp => d = (Ar.num i).d ∧ fp = []
  | _ + 1, .pass x, d, fp => d = (Ar.pass x).d ∧ fp = []
  | _ + 1, .loc k x, d, fp => d = (Ar.loc k x).d ∧ fp = []
theorem ArF.agree {M M' : Mu} : ∀ {n : Nat} {a : Ar} {d : D} {fp : List Addr}, (∀ x ∈ fp, M' x = M x) → ArF M n a d fp → ArF M' n a d fp
  | 0, _, _, _, _, h => h
  | n + 1, .num _, _, _, _, h => h
  | n + 1, .pass _, _, _, _, h => h
  | n + 1, .loc _ _, _, _, _, h => h
  | n + 1, .call p nm pl as, d, fp, k, h => by
    obtain ⟨q, ds, fs, rfl, hq, rfl, hn, hl⟩ := h
    exact ⟨q, ds, fs, rfl, by rw [k q List.mem_cons_self]; exact hq, rfl, hn, hl.imp fun a _ d f hf hr => hr.agree fun x hx => k x (List.mem_cons_of_mem _ (hf x hx))⟩
theorem ArF.live {M : Mu} : ∀ {n : Nat} {a : Ar} {d : D} {fp : List Addr}, ArF M n a d fp → ∀ x ∈ fp, M x ≠ none
  | 0, _, _, _, h, x, hx => by rw [h.2.2] at hx; cases hx
  | n + 1, .num _, _, _, h, x, hx => by rw [h.2] at hx; cases hx
  | n + 1, .pass _, _, _, h, x, hx => by rw [h.2] at hx; cases hx
  | n + 1, .loc _ _, _, _, h, x, hx => by rw [h.2] at hx; cases hx
  | n + 1, .call p nm pl as, d, fp, h, x, hx => by
    obtain ⟨q, ds, fs, rfl, hq, rfl, hn, hl⟩ := h
    rcases List.mem_cons.mp hx with rfl | hx
    · rw [hq]; exact fun z => nomatch z
    · have go : ∀ {as : List Ar} {ds : List D} {fs : List Addr}, LF (ArF M n) as ds fs → ∀ x ∈ fs, M x ≠ none := by
        intro as ds fs hl
        induction hl with
        | nil => intro x hx; cases hx
        | cons h t _ ih =>
          intro x hx
          rcases List.mem_append.mp hx with hx | hx
          · exact ArF.live h x hx
          · exact ih x hx
      exact go hl x hx
theorem LF.live {M : Mu} {n : Nat} {as : List Ar} {ds : List D} {fs : List Addr} (hl : LF (ArF M n) as ds fs) : ∀ x ∈ fs, M x ≠ none := by
  induction hl with
  | nil => intro x hx; cases hx
  | cons h t _ ih =>
    intro x hx
    rcases List.mem_append.mp hx with hx | hx
    · exact ArF.live h x hx
    · exact ih x hx
theorem LF.agree {M M' : Mu} {n : Nat} {as : List Ar} {ds : List D} {fs : List Addr} (hl : LF (ArF M n) as ds fs) (k : ∀ x ∈ fs, M' x = M x) : LF (ArF M' n) as ds fs := hl.imp fun a _ d f hf hr => hr.agree fun x hx => k x (hf x hx)
theorem vw_map {M : Mu} {k : Nat} {R : Ar → D → List Addr → Prop} : ∀ {as : List Ar} {ds : List D} {fs : List Addr}, LF R as ds fs → (∀ a ∈ as, ∀ d f, R a d f → vw M k d = a.d) → ds.map (vw M k) = as.map Ar.d
  | _, _, _, .nil, _ => rfl
  | _, _, _, .cons h t _, e => by
    rw [List.map_cons, List.map_cons, e _ List.mem_cons_self _ _ h, vw_map t fun a ha => e a (List.mem_cons_of_mem _ ha)]
theorem ArF.vw {M : Mu} : ∀ {n : Nat} {a : Ar} {d : D} {fp : List Addr} {k : Nat}, ArF M n a d fp → a.ok → a.dep ≤ n → 2 * n + 1 ≤ k → DL.vw M k d = a.d
  | 0, a, d, _, k, h, ho, hd, hk => by rw [h.2.1]; exact vw_pln M (Ar.pl ho hd hk)
  | n + 1, .num i, d, _, k, h, ho, hd, hk => by rw [h.1]; exact vw_pln M (Ar.pl ho hd hk)
  | n + 1, .pass i, d, _, k, h, ho, hd, hk => by rw [h.1]; exact vw_pln M (Ar.pl ho hd hk)
  | n + 1, .loc i j, d, _, k, h, ho, hd, hk => by rw [h.1]; exact vw_pln M (Ar.pl ho hd hk)
  | n + 1, .call p nm pl as, d, fp, k, h, ho, hd, hk => by
    obtain ⟨q, ds, fs, rfl, hq, rfl, hn, hl⟩ := h
    obtain ⟨h1, h2, h3, h4, h5⟩ := call_ok.mp ho
    have hd := call_dep.mp hd
    obtain ⟨j, rfl⟩ : ∃ j, k = j + 2 := ⟨k - 2, by omega⟩
    show D.tup [DL.vw M (j + 1) _, DL.vw M (j + 1) _, DL.vw M (j + 1) _, DL.vw M (j + 1) _, DL.vw M (j + 1) _] = _
    rw [vw_st, vw_st, vw_st, vw_st, call_d]
    have e : DL.vw M (j + 1) (.ref q) = .lst (as.map Ar.d) := by
      show (match M q with
        | some (.lst ds) => D.lst (ds.map (DL.vw M j))
        | _ => .ref q) = _
      rw [hq]
      show D.lst _ = _
      rw [vw_map hl fun a ha d f hr => hr.vw (h5 a ha) (hd a ha) (by omega)]
    rw [e]
def sp_copied_argument (n : Nat) : DSp := fun ds M Q _ => ∃ a : Ar, ds = [a.d] ∧ a.ok ∧ a.dep ≤ n ∧ ∀ d fp M', ArF M' n a d fp → (∀ x ∈ fp, M x = none) → Xt M M' → Q d M'
def sp_copied_call (n : Nat) : DSp := fun ds M Q _ => ∃ p nm pl as, ds = [(Ar.call p nm pl as).d] ∧ (Ar.call p nm pl as).ok ∧ (Ar.call p nm pl as).dep ≤ n ∧ ∀ d fp M', ArF M' n (.call p nm pl as) d fp → (∀ x ∈ fp, M x = none) → Xt M M' → Q d M'
def w_copied_argument (n : Nat) : DTS := dSeq (dIfS (dTest (dOp gEq (dOp gIx (dVar 0) (dC (.int 0))) (dC (.str (T "call"))))) (dRet (dCall (sp_copied_call n) (daCons (dVar 0) (daNil)))) (dPass)) (dRet (dVar 0))
def w_copied_call (n : Nat) : DTS := dSeq (dAsg (dVar 0) (dgTup 5 (dgCons 1 (dgCons 2 (dgCons 3 (dgCons 4 (dgCons 5 (dgNil)))))))) (dRet (dTup (daCons (dC (.str (T "call"))) (daCons (dVar 2) (daCons (dVar 3) (daCons (dVar 4) (daCons (dLcM (diAny (dVar 5)) (dgName 6) (dYes) [6] [] (dCall (sp_copied_argument n) (daCons (dVar 6) (daNil)))) (daNil))))))))
theorem no_cpcall0 : ∀ ds M Q E, ¬ sp_copied_call 0 ds M Q E := by
  rintro ds M Q E ⟨p, nm, pl, as, _, _, h, _⟩
  exact call_dep0 h
theorem ArF.leaf {M : Mu} {n : Nat} {a : Ar} (h : a.dep = 0) : ArF M n a a.d [] := by
  cases n with
  | zero => exact ⟨h, rfl, rfl⟩
  | succ n =>
    cases a with
    | call p nm pl as => rw [Ar.dep] at h; omega
    | num i => exact ⟨rfl, rfl⟩
    | pass i => exact ⟨rfl, rfl⟩
    | loc i j => exact ⟨rfl, rfl⟩
theorem p_copied_argument (n : Nat) : ∀ ds M Q E, sp_copied_argument n ds M Q E → w_copied_argument n (Ret Q E) (ds.map some ++ List.replicate (1 - 1) none) M := by
  rintro ds M Q E ⟨a, rfl, ha, hd, hQ⟩
  have lf := fun h => hQ a.d [] M (ArF.leaf h) (fun x hx => nomatch hx) (Xt.refl M)
  unfold w_copied_argument
  cases a with
  | num i =>
    have q := lf (by rw [Ar.dep] <;> simp)
    rw [Ar.d] at q ⊢
    try simp only [n_number_call]
    walk_at "dl"
    try simp only [n_number_call]
    walk_at "dl"
    try simp only [n_number_call]
    walk_at "dl"
    try simp only [n_number_call]
    walk_at "dl"
    try simp only [n_number_call]
    walk_at "dl"
    try simp only [n_number_call]
    walk_at "dl"
    try simp only [n_number_call]
    walk_at "dl"
    try simp only [n_number_call]
    walk_at "dl"
    try simp only [n_number_call]
    walk_at "dl"
    try simp only [n_number_call]
    walk_at "dl"
    exact q
  | pass x =>
    have q := lf (by rw [Ar.dep] <;> simp)
    rw [Ar.d] at q ⊢
    try simp only [n_pass_call]
    walk_at "dl"
    try simp only [n_pass_call]
    walk_at "dl"
    try simp only [n_pass_call]
    walk_at "dl"
    try simp only [n_pass_call]
    walk_at "dl"
    try simp only [n_pass_call]
    walk_at "dl"
    try simp only [n_pass_call]
    walk_at "dl"
    try simp only [n_pass_call]
    walk_at "dl"
    try simp only [n_pass_call]
    walk_at "dl"
    try simp only [n_pass_call]
    walk_at "dl"
    try simp only [n_pass_call]
    walk_at "dl"
    exact q
  | loc k x =>
    have q := lf (by rw [Ar.dep] <;> simp)
    rw [Ar.ok] at ha
    obtain ⟨h1, h2, h3⟩ := loc_ne ha.1
    rw [Ar.d] at q ⊢
    walk_at "dl"
    rw [if_neg h1]
    exact q
  | call p nm pl as =>
    have e := call_d (p := p) (nm := nm) (pl := pl) (as := as)
    rw [e]
    walk_at "dl"
    exact ⟨p, nm, pl, as, by rw [e], ha, hd, hQ⟩
theorem p_copied_call (n : Nat) : ∀ ds M Q E, sp_copied_call (n + 1) ds M Q E → w_copied_call n (Ret Q E) (ds.map some ++ List.replicate (7 - 1) none) M := by
  rintro ds M Q E ⟨p, nm, pl, as, rfl, ho, hd, hQ⟩
  have hd := call_dep.mp hd
  obtain ⟨h1, h2, h3, h4, h5⟩ := call_ok.mp ho
  rw [call_d]
  unfold w_copied_call
  try simp only [dLcM]
  walk_at "dl"
  try simp only [dLcM]
  walk_at "dl"
  intro u hu
  refine lc_by (fun i acc M' => ∃ fs, LF (ArF M' n) (as.take i) acc fs ∧ (∀ x ∈ fs, M x = none ∧ x ≠ u) ∧ Xt M M') ⟨[], .nil, fun x hx => (nomatch hx), (Xt.refl M).put hu⟩ put_same ?_ ?_
  · rintro i d acc M' hdi hacc ⟨fs, hl, hf, x⟩ N hy hn
    obtain ⟨a, ha, rfl⟩ := map_at hdi
    have hm := List.mem_of_getElem? ha
    walk_at "dl"
    refine ⟨a, rfl, h5 a hm, hd a hm, fun d fp M2 h2 hf2 x2 => ?_⟩
    have hacc2 := x2 _ _ hacc
    have la := hl.len
    have nu : ∀ y ∈ fp, y ≠ u := fun y hy z => by rw [z] at hy; have := hf2 u hy; rw [hacc] at this; cases this
    refine ⟨acc, hacc2, by rw [la, List.length_take, line24]; omega, hy d M2 hacc2 ⟨fs ++ fp, ?_, ?_, (x.trans x2).put hu⟩⟩
    · rw [List.take_succ, ha]
      refine LF.snoc (hl.agree fun y hy => ?_) (h2.agree fun y hy => put_ne (nu y hy)) fun y hy z => ?_
      · rw [put_ne (hf y hy).2]
        cases e : M' y with
        | none => exact absurd e (hl.live y hy)
        | some o => exact x2 y o e
      · exact hl.live y z (hf2 y hy)
    · intro y hy
      rcases List.mem_append.mp hy with hy | hy
      · exact hf y hy
      · exact ⟨x.none (hf2 y hy), nu y hy⟩
  · rintro acc M' hacc ⟨fs, hl, hf, x⟩
    rw [List.length_map, List.take_length] at hl
    walk_at "dl"
    refine ⟨by decide, hQ _ (u :: fs) M' ⟨u, acc, fs, rfl, hacc, rfl, fun z => (hf u z).2 rfl, hl⟩ (fun y hy => ?_) x⟩
    rcases List.mem_cons.mp hy with rfl | hy
    · exact hu
    · exact (hf y hy).1
/-! statements without blocks -/
def StF (M : Mu) : St → D → List Addr → Prop
  | .hold n k pl, d, fp => d = (St.hold n k pl).d ∧ fp = []
  | .act p nm pl as, d, fp => ∃ c, d = .tup [.str [100, 111], c] ∧ ArF M 5 (.call p nm pl as) c fp
  | _, _, _ => False
theorem StF.agree {M M' : Mu} {s : St} {d : D} {fp : List Addr} (k : ∀ x ∈ fp, M' x = M x) (h : StF M s d fp) : StF M' s d fp := by
  cases s with
  | hold n k pl => exact h
  | act p nm pl as => obtain ⟨c, e, h⟩ := h; exact ⟨c, e, h.agree k⟩
  | again b => exact h.elim
  | either a b => exact h.elim
theorem StF.live {M : Mu} {s : St} {d : D} {fp : List Addr} (h : StF M s d fp) : ∀ x ∈ fp, M x ≠ none := by
  cases s with
  | hold n k pl => intro x hx; rw [h.2] at hx; cases hx
  | act p nm pl as => obtain ⟨c, e, h⟩ := h; exact h.live
  | again b => exact h.elim
  | either a b => exact h.elim
theorem LF.agreeS {M M' : Mu} {as : List St} {ds : List D} {fs : List Addr} (hl : LF (StF M) as ds fs) (k : ∀ x ∈ fs, M' x = M x) : LF (StF M') as ds fs := hl.imp fun a _ d f hf hr => hr.agree fun x hx => k x (hf x hx)
theorem LF.liveS {M : Mu} {as : List St} {ds : List D} {fs : List Addr} (hl : LF (StF M) as ds fs) : ∀ x ∈ fs, M x ≠ none := by
  induction hl with
  | nil => intro x hx; cases hx
  | cons h t _ ih =>
    intro x hx
    rcases List.mem_append.mp hx with hx | hx
    · exact StF.live h x hx
    · exact ih x hx
def plainSt : St → Prop
  | .hold _ _ _ => True
  | .act _ _ _ _ => True
  | _ => False
def sp_copied_statement (n : Nat) : DSp := fun ds M Q _ => ∃ s : St, ds = [s.d] ∧ plainSt s ∧ s.ok ∧ ∀ d fp M', StF M' s d fp → (∀ x ∈ fp, M x = none) → Xt M M' → Q d M'
def sp_copied_block (n : Nat) : DSp := fun ds M Q _ => ∃ d : D, ds = [d] ∧ d ≠ d
def w_copied_statement (n : Nat) : DTS := dSeq (dIfS (dTest (dOp gEq (dOp gIx (dVar 0) (dC (.int 0))) (dC (.str [100, 111])))) (dRet (dTup (daCons (dC (.str [100, 111])) (daCons (dCall (sp_copied_call 5) (daCons (dOp gIx (dVar 0) (dC (.int 1))) (daNil))) (daNil))))) (dPass)) (dSeq (dIfS (dTest (dOp gEq (dOp gIx (dVar 0) (dC (.int 0))) (dC (.str (T "either"))))) (dRet (dTup (daCons (dC (.str (T "either"))) (daCons (dCall (sp_copied_block n) (daCons (dOp gIx (dVar 0) (dC (.int 1))) (daNil))) (daCons (dCall (sp_copied_block n) (daCons (dOp gIx (dVar 0) (dC (.int 2))) (daNil))) (daNil)))))) (dPass)) (dSeq (dIfS (dTest (dOp gEq (dOp gIx (dVar 0) (dC (.int 0))) (dC (.str (T "again"))))) (dRet (dTup (daCons (dC (.str (T "again"))) (daCons (dCall (sp_copied_block n) (daCons (dOp gIx (dVar 0) (dC (.int 1))) (daNil))) (daNil))))) (dPass)) (dRet (dVar 0))))
def w_copied_block (n : Nat) : DTS := dRet (dFrz (dLcM (diAny (dVar 0)) (dgName 1) (dYes) [1] [] (dCall (sp_copied_statement n) (daCons (dVar 1) (daNil)))))
theorem no_cpblock0 : ∀ ds M Q E, ¬ sp_copied_block 0 ds M Q E := fun _ _ _ _ ⟨_, _, h⟩ => h rfl
theorem p_copied_block (n : Nat) : ∀ ds M Q E, sp_copied_block (n + 1) ds M Q E → w_copied_block n (Ret Q E) (ds.map some ++ List.replicate (2 - 1) none) M := fun _ _ _ _ ⟨_, _, h⟩ => absurd rfl h
theorem p_copied_statement (n : Nat) : ∀ ds M Q E, sp_copied_statement n ds M Q E → w_copied_statement n (Ret Q E) (ds.map some ++ List.replicate (1 - 1) none) M := by
  rintro ds M Q E ⟨s, rfl, hs, ho, hQ⟩
  unfold w_copied_statement
  cases s with
  | hold nm k pl =>
    have q := hQ _ [] M ⟨rfl, rfl⟩ (fun x hx => nomatch hx) (Xt.refl M)
    rw [hold_d'] at q ⊢
    try simp only [n_hold_do, n_hold_ei, n_hold_ag]
    walk_at "dl"
    try simp only [n_hold_do, n_hold_ei, n_hold_ag]
    walk_at "dl"
    try simp only [n_hold_do, n_hold_ei, n_hold_ag]
    walk_at "dl"
    try simp only [n_hold_do, n_hold_ei, n_hold_ag]
    walk_at "dl"
    try simp only [n_hold_do, n_hold_ei, n_hold_ag]
    walk_at "dl"
    try simp only [n_hold_do, n_hold_ei, n_hold_ag]
    walk_at "dl"
    try simp only [n_hold_do, n_hold_ei, n_hold_ag]
    walk_at "dl"
    try simp only [n_hold_do, n_hold_ei, n_hold_ag]
    walk_at "dl"
    try simp only [n_hold_do, n_hold_ei, n_hold_ag]
    walk_at "dl"
    try simp only [n_hold_do, n_hold_ei, n_hold_ag]
    walk_at "dl"
    exact q
  | act p nm pl as =>
    rw [St.ok] at ho
    rw [act_d']
    walk_at "dl"
    refine ⟨p, nm, pl, as, rfl, ho.1, Nat.le_trans ho.2 (by decide), fun d fp M' h hf x => ?_⟩
    walk_at "dl"
    exact ⟨by decide, hQ _ fp M' ⟨d, rfl, h⟩ hf x⟩
  | again b => exact hs.elim
  | either a b => exact hs.elim
end DL

namespace DL
open PySem L2
local macro_rules | `(tactic| walk_at "dl") => `(tactic| try simp (config := { proj := false }) only [↓ex_mk, ↓nx_mk, ↓rt_mk, ↓bk_mk, ↓ct_mk, ↓xc_mk, ↓u_c, ↓u_op, ↓u_un, ↓u_and, ↓u_or, ↓u_not, ↓u_if, ↓u_anil, ↓u_acons, ↓u_lst, ↓u_lstM, ↓u_tup, ↓u_call, ↓u_sl, ↓u_onone, ↓u_cb, ↓u_mt, ↓u_mt0, ↓u_pass, ↓u_seq, ↓u_set, ↓u_asg, ↓u_drop, ↓u_ret, ↓u_retN, ↓u_ifs, ↓u_brk, ↓u_cnt, ↓u_for, ↓u_gname, ↓u_gsub, ↓u_fs, ↓u_fmt, ↓u_js0, ↓u_js, ↓u_em, ↓u_yes, ↓u_never, ↓u_ref, ↓u_forR, ↓u_star, ↓u_dict, ↓u_dict0, ↓u_dp0, ↓u_dp1, ↓u_forK, ↓u_lock, ↓u_kd, ↓u_fld, ↓u_setF, ↓u_make, ↓u_binL, ↓u_binR, ↓u_inO, ↓u_getO, ↓u_setO, ↓u_augO, ↓u_prp, ↓u_inv, ↓u_meth, ↓u_keys, ↓u_try, ↓u_cm, ↓u_makeV, ↓r_enum, ↓r_own, ↓u_raise, ↓u_tryas, ↓u_ca, ↓u_xf, ↓u_idxC, su_mk,
  ↓r_var, ↓r_test, ↓r_andV, ↓r_orV, ↓r_notV, ↓r_tru, ↓r_frz, ↓r_osome, ↓r_any, ↓r_scr, scr_c, ↓r_rng1, ↓r_rng2, ↓r_fz, wipeD,
  onSome_s, onBl_b, onInt_i, onStr_s, onVar_s, onML_l, onML2_l, onML2_d, onDK_d, fmt_s, fmt_i, tru_n, tru_b, tru_i, tru_s, tru_l, tru_t, tru_r, frz_r, sl_s, sl_l, sl_t, sl_r, add_i, add_s, add_l, add_t, add_rl, add_lr, sub_i, mul_i, div_i, mod_i, pow_i, neg_i, cmp_i, eq_i, eq_s, eq_b, eq_n, eq_l, eq_t, eq_rl, eq_lr, eq_ni, eq_in, eq_ns, eq_sn, eq_nb, eq_bn, eq_is, eq_si,
  ix_l, ix_t, ix_s, ix_ri, ix_rs, in_ss, in_l, in_t, in_ir, in_sr, isB_t, isB_f, ltS_s, gtS_s, sorted_l, keyK_s, keyK_i, u_dget, lenOR_r, listOR_r, isn_n, isn_b, isn_i, isn_s, isn_r, isn_l, isn_t, len_s, len_c, len_l, len_t, len_r, int_i, int_b, min_ii, max_ii, list_l, list_t, list_r, list_c, listM_l, listM_c, listM_t, listM_r, isi_, isi_k, ty_n, ty_b, ty_i, ty_s, ty_l, ty_t, it_s, it_l, it_r, itM_l, itM_d, app_r, rev_r, ends_s, ins_r, set_rs, str_i, str_s, ext_l, pop_r, clr_r, star_l, star_t, star_r, onRef_r, onML3_l, onML3_d, onML3_f, onDR_d, onDR_f, onFK_f, join_l, join_t, join_r, starts_s, r_gtup, r_glst, r_gnil, r_gcons, set_r, items_s, items_l, items_t, rng1_i, rng2_i, fz_r, addM_l, addM_rl, onIns_i, onLst_l, isIns_r, isInsM_i, noF_r, noFM_i, rows_r, lenO_r, listO_r, listOM_r, isCK_i, isCK_l, isC_r, isC_s, isC_i, isC_b, isC_n, isC_l, isC_t, putG_0, putG_1, lk_1, onCl_c, onEnum_l, index_l, strO_r, cmpO_r, pop1_r, tuple_l, tuple_t, divmod_i, upper_s, indexT_t, onExc_e, isE_t, isE_c, isE_v, zip_1,
  List.map_cons, List.map_nil, List.cons_append, List.nil_append, List.length_cons, List.length_nil, List.replicate, List.getElem?_cons_zero, List.getElem?_cons_succ, List.set_cons_zero, List.set_cons_succ, id, decide_eq_true_eq, if_true, if_false, Bool.false_eq_true, reduceIte, Bool.not_true, Bool.not_false, true_and, Nat.reduceAdd, Nat.reduceSub, Int.reduceToNat, Int.toNat_natCast, put_same, put_put, atI_0, atI_1, atI_2, atI_3, atI_4, ixN_40, ixN_41, ixN_42, ixN_43])
/-! ### a program followed along a way -/
structure Wk where
  tk : List Bool
  ps : List St
def nxc (way tk : List Bool) : Bool := (way[tk.length]?).getD false
def Wk.ch (s : Wk) (way : List Bool) : Wk := ⟨s.tk ++ [nxc way s.tk], s.ps⟩
def agn (way : List Bool) (f : Wk → Wk) : Nat → Wk → Wk
  | 0, s => s
  | n + 1, s => if nxc way s.tk = true then agn way f n (f (s.ch way)) else s.ch way
mutual
def St.fw (way : List Bool) : St → Wk → Wk
  | .either a b => fun s => if nxc way s.tk = true then stsFw way a (s.ch way) else stsFw way b (s.ch way)
  | .again b => fun s => agn way (stsFw way b) (way.length + 1) s
  | .hold n k pl => fun s => ⟨s.tk, s.ps ++ [.hold n k pl]⟩
  | .act p nm pl as => fun s => ⟨s.tk, s.ps ++ [.act p nm pl as]⟩
def stsFw (way : List Bool) : List St → Wk → Wk
  | [] => fun s => s
  | x :: xs => fun s => stsFw way xs (x.fw way s)
end
theorem stsFw_app {way : List Bool} : ∀ {a b : List St} {s : Wk}, stsFw way (a ++ b) s = stsFw way b (stsFw way a s)
  | [], _, _ => by rw [List.nil_append, stsFw]
  | x :: a, b, s => by
    rw [List.cons_append, stsFw, stsFw]
    exact stsFw_app
theorem stsFw_take {way : List Bool} {b : List St} {k : Nat} {x : St} {s : Wk} (h : b[k]? = some x) : stsFw way (b.take (k + 1)) s = x.fw way (stsFw way (b.take k) s) := by
  rw [List.take_succ, h, stsFw_app]
  show stsFw way [x] _ = _
  rw [stsFw, stsFw]
/-! how far it grows -/
def rr (way : List Bool) (s : Wk) : Nat := way.length - s.tk.length
structure Gr (way : List Bool) (z : Nat) (s t : Wk) : Prop where
  up : s.tk.length ≤ t.tk.length
  le : t.tk.length + t.ps.length ≤ s.tk.length + s.ps.length + 2 * (z * (1 + (rr way s - rr way t)))
theorem Gr.rr {way : List Bool} {z : Nat} {s t : Wk} (h : Gr way z s t) : DL.rr way t ≤ DL.rr way s := by
  have := h.up
  unfold DL.rr; omega
theorem Gr.comp {way : List Bool} {y z : Nat} {s t u : Wk} (a : Gr way y s t) (b : Gr way z t u) : Gr way (y + z) s u := by
  have r1 := a.rr
  have r2 := b.rr
  refine ⟨Nat.le_trans a.up b.up, ?_⟩
  have h1 := a.le
  have h2 := b.le
  have m1 : y * (1 + (DL.rr way s - DL.rr way t)) ≤ y * (1 + (DL.rr way s - DL.rr way u)) := Nat.mul_le_mul_left _ (by omega)
  have m2 : z * (1 + (DL.rr way t - DL.rr way u)) ≤ z * (1 + (DL.rr way s - DL.rr way u)) := Nat.mul_le_mul_left _ (by omega)
  rw [Nat.add_mul]
  omega
theorem nxc_lt {way tk : List Bool} (h : nxc way tk = true) : tk.length < way.length := by
  unfold nxc at h
  cases e : way[tk.length]? with
  | none => rw [e] at h; cases h
  | some b => exact (List.getElem?_eq_some_iff.mp e).1
theorem agn_gr {way : List Bool} {f : Wk → Wk} {z : Nat} (hf : ∀ s, Gr way z s (f s)) : ∀ (n : Nat) (s : Wk), Gr way (z + 1) s (agn way f n s)
  | 0, s => ⟨Nat.le_refl _, by rw [agn]; omega⟩
  | n + 1, s => by
    rw [agn]
    split
    · rename_i h
      have hl := nxc_lt h
      have g1 := hf (s.ch way)
      have g2 := agn_gr hf n (f (s.ch way))
      have e1 : (s.ch way).tk.length = s.tk.length + 1 := by unfold Wk.ch; rw [List.length_append]; rfl
      have e2 : (s.ch way).ps.length = s.ps.length := rfl
      have r0 : DL.rr way s = DL.rr way (s.ch way) + 1 := by unfold DL.rr; rw [e1]; omega
      have r1 := g1.rr
      have r2 := g2.rr
      generalize f (s.ch way) = s2 at g1 g2 r1 r2 ⊢
      generalize agn way f n s2 = s3 at g2 r2 ⊢
      refine ⟨by have := g1.up; have := g2.up; omega, ?_⟩
      have l1 := g1.le
      have l2 := g2.le
      rw [e1, e2] at l1
      have k1 : (z + 1) * (1 + (DL.rr way s - DL.rr way s3)) = z * (1 + (DL.rr way (s.ch way) - DL.rr way s2)) + (1 + (DL.rr way (s.ch way) - DL.rr way s2)) + (z + 1) * (1 + (DL.rr way s2 - DL.rr way s3)) := by
        have a1 : 1 + (DL.rr way s - DL.rr way s3) = (1 + (DL.rr way (s.ch way) - DL.rr way s2)) + (1 + (DL.rr way s2 - DL.rr way s3)) := by omega
        rw [a1, Nat.mul_add, Nat.add_mul z 1 (1 + (DL.rr way (s.ch way) - DL.rr way s2)), Nat.one_mul]
      rw [k1]
      omega
    · refine ⟨by unfold Wk.ch; rw [List.length_append]; simp, ?_⟩
      have e1 : (s.ch way).tk.length = s.tk.length + 1 := by unfold Wk.ch; rw [List.length_append]; rfl
      have e2 : (s.ch way).ps.length = s.ps.length := rfl
      rw [e1, e2, Nat.add_mul]
      omega
theorem ch_gr {way : List Bool} {z : Nat} {s t : Wk} (h : Gr way z (s.ch way) t) : Gr way (z + 1) s t := by
  have e1 : (s.ch way).tk.length = s.tk.length + 1 := by unfold Wk.ch; rw [List.length_append]; rfl
  have e2 : (s.ch way).ps.length = s.ps.length := rfl
  refine ⟨by have := h.up; omega, ?_⟩
  have l := h.le
  have r1 := h.rr
  have r2 : DL.rr way (s.ch way) ≤ DL.rr way s := by unfold DL.rr; omega
  have m : z * (1 + (DL.rr way (s.ch way) - DL.rr way t)) ≤ z * (1 + (DL.rr way s - DL.rr way t)) := Nat.mul_le_mul_left _ (by omega)
  rw [Nat.add_mul]
  omega
theorem Gr.mono {way : List Bool} {y z : Nat} {s t : Wk} (h : Gr way y s t) (l : y ≤ z) : Gr way z s t := by
  refine ⟨h.up, ?_⟩
  have := h.le
  have m : y * (1 + (DL.rr way s - DL.rr way t)) ≤ z * (1 + (DL.rr way s - DL.rr way t)) := Nat.mul_le_mul_right _ l
  omega
mutual
theorem St.gr (way : List Bool) : ∀ (x : St) (s : Wk), Gr way x.sz s (x.fw way s)
  | .either a b, s => by
    rw [St.fw, St.sz]
    show Gr way _ s (if nxc way s.tk = true then stsFw way a (s.ch way) else stsFw way b (s.ch way))
    split
    · exact (ch_gr (stsGr way a (s.ch way))).mono (by omega)
    · exact (ch_gr (stsGr way b (s.ch way))).mono (by omega)
  | .again b, s => by
    rw [St.fw, St.sz]
    exact agn_gr (fun s => stsGr way b s) _ s
  | .hold n k pl, s => by
    rw [St.fw, show (St.hold n k pl).sz = 1 by rw [St.sz] <;> simp]
    exact ⟨Nat.le_refl _, by show s.tk.length + (s.ps ++ [St.hold n k pl]).length ≤ _; rw [List.length_append, List.length_singleton]; omega⟩
  | .act p nm pl as, s => by
    rw [St.fw, show (St.act p nm pl as).sz = 1 by rw [St.sz] <;> simp]
    exact ⟨Nat.le_refl _, by show s.tk.length + (s.ps ++ [St.act p nm pl as]).length ≤ _; rw [List.length_append, List.length_singleton]; omega⟩
theorem stsGr (way : List Bool) : ∀ (b : List St) (s : Wk), Gr way (stsSz b) s (stsFw way b s)
  | [], s => by
    rw [stsFw, stsSz]
    show Gr way 0 s s
    exact ⟨Nat.le_refl _, by omega⟩
  | x :: xs, s => by
    rw [stsFw, stsSz]
    exact (St.gr way x s).comp (stsGr way xs _)
end
/-- room for all that is still to come -/
def Rm (way : List Bool) (z : Nat) (s : Wk) : Prop := s.tk.length + s.ps.length + 2 * (z * (1 + rr way s)) ≤ 1000000
theorem Rm.le {way : List Bool} {y z : Nat} {s : Wk} (h : Rm way z s) (l : y ≤ z) : Rm way y s := by
  unfold Rm at *
  have m : y * (1 + DL.rr way s) ≤ z * (1 + DL.rr way s) := Nat.mul_le_mul_right _ l
  omega
theorem Rm.go {way : List Bool} {y z : Nat} {s t : Wk} (h : Rm way (y + z) s) (g : Gr way y s t) : Rm way z t := by
  unfold Rm at *
  have l := g.le
  have r := g.rr
  have m : y * (1 + (DL.rr way s - DL.rr way t)) ≤ y * (1 + DL.rr way s) := Nat.mul_le_mul_left _ (by omega)
  have m2 : z * (1 + DL.rr way t) ≤ z * (1 + DL.rr way s) := Nat.mul_le_mul_left _ (by omega)
  rw [Nat.add_mul] at h
  omega
theorem Rm.ch {way : List Bool} {z : Nat} {s : Wk} (h : Rm way (z + 1) s) : Rm way z (s.ch way) := by
  have e1 : (s.ch way).tk.length = s.tk.length + 1 := by unfold Wk.ch; rw [List.length_append]; rfl
  have e2 : (s.ch way).ps.length = s.ps.length := rfl
  have r2 : DL.rr way (s.ch way) ≤ DL.rr way s := by unfold DL.rr; omega
  unfold Rm at *
  rw [e1, e2]
  have m2 : z * (1 + DL.rr way (s.ch way)) ≤ z * (1 + DL.rr way s) := Nat.mul_le_mul_left _ (by omega)
  rw [Nat.add_mul] at h
  omega
theorem Rm.len {way : List Bool} {z : Nat} {s : Wk} (h : Rm way z s) : s.tk.length ≤ 1000000 ∧ s.ps.length ≤ 1000000 := by
  unfold Rm at h; omega
theorem Rm.turn {way : List Bool} {z : Nat} {s t : Wk} (h : Rm way (z + 1) s) (hc : nxc way s.tk = true) (g : Gr way z (s.ch way) t) : Rm way (z + 1) t := by
  have hl := nxc_lt hc
  have e1 : (s.ch way).tk.length = s.tk.length + 1 := by unfold Wk.ch; rw [List.length_append]; rfl
  have e2 : (s.ch way).ps.length = s.ps.length := rfl
  have r0 : DL.rr way s = DL.rr way (s.ch way) + 1 := by unfold DL.rr; rw [e1]; omega
  have r1 := g.rr
  have l := g.le
  rw [e1, e2] at l
  unfold Rm at *
  have k1 : (z + 1) * (1 + DL.rr way s) = z * (1 + (DL.rr way (s.ch way) - DL.rr way t)) + (1 + (DL.rr way (s.ch way) - DL.rr way t)) + (z + 1) * (1 + DL.rr way t) := by
    have a1 : 1 + DL.rr way s = (1 + (DL.rr way (s.ch way) - DL.rr way t)) + (1 + DL.rr way t) := by omega
    rw [a1, Nat.mul_add, Nat.add_mul z 1 (1 + (DL.rr way (s.ch way) - DL.rr way t)), Nat.one_mul]
  rw [k1] at h
  omega
/-! ### the law's own walk -/
def WayAt (M : Mu) (y : D) (way : List Bool) (t s : Addr) : Prop := y = .lst (way.map D.bl) ∨ ∃ a, y = .ref a ∧ M a = some (.lst (way.map D.bl)) ∧ a ≠ t ∧ a ≠ s
def PrgAt (M : Mu) (x : D) (b : List St) (t s : Addr) : Prop := x = .lst (b.map St.d) ∨ ∃ a, x = .ref a ∧ M a = some (.lst (b.map St.d)) ∧ a ≠ t ∧ a ≠ s
/-- what has been taken and passed -/
structure TP (M : Mu) (t s : Addr) (v : Wk) : Prop where
  tk : M t = some (.lst (v.tk.map D.bl))
  ps : M s = some (.lst (v.ps.map St.d))
  ne : t ≠ s
def Two (t s : Addr) (M M' : Mu) : Prop := ∀ b o, b ≠ t → b ≠ s → M b = some o → M' b = some o
theorem Two.refl {t s : Addr} {M : Mu} : Two t s M M := fun _ _ _ _ e => e
theorem Two.trans {t s : Addr} {M M1 M2 : Mu} (a : Two t s M M1) (b : Two t s M1 M2) : Two t s M M2 := fun c o h1 h2 e => b c o h1 h2 (a c o h1 h2 e)
theorem Two.way {t s : Addr} {M M' : Mu} (x : Two t s M M') {y : D} {way : List Bool} (h : WayAt M y way t s) : WayAt M' y way t s := h.elim .inl fun ⟨a, e, ha, n1, n2⟩ => .inr ⟨a, e, x _ _ n1 n2 ha, n1, n2⟩
theorem Two.prg {t s : Addr} {M M' : Mu} (x : Two t s M M') {y : D} {b : List St} (h : PrgAt M y b t s) : PrgAt M' y b t s := h.elim .inl fun ⟨a, e, ha, n1, n2⟩ => .inr ⟨a, e, x _ _ n1 n2 ha, n1, n2⟩
theorem Two.put_t {t s : Addr} {M M' : Mu} {o : MO} (x : Two t s M M') : Two t s M (put M' t o) := fun b u h1 h2 e => by rw [put_ne h1]; exact x b u h1 h2 e
theorem Two.put_s {t s : Addr} {M M' : Mu} {o : MO} (x : Two t s M M') : Two t s M (put M' s o) := fun b u h1 h2 e => by rw [put_ne h2]; exact x b u h1 h2 e
theorem TP.ch {M : Mu} {t s : Addr} {v : Wk} {way : List Bool} (h : TP M t s v) : TP (put M t (.lst ((v.ch way).tk.map D.bl))) t s (v.ch way) := ⟨put_same, by rw [put_ne (Ne.symm h.ne)]; exact h.ps, h.ne⟩
theorem TP.pass {M : Mu} {t s : Addr} {v : Wk} {x : St} (h : TP M t s v) : TP (put M s (.lst ((v.ps ++ [x]).map St.d))) t s ⟨v.tk, v.ps ++ [x]⟩ := ⟨by rw [put_ne h.ne]; exact h.tk, put_same, h.ne⟩
def sp_l_follow (n : Nat) : DSp := fun ds M Q _ => ∃ (x y : D) (t s : Addr) (b : List St) (way : List Bool) (v : Wk), ds = [x, y, .ref t, .ref s] ∧ PrgAt M x b t s ∧ WayAt M y way t s ∧ TP M t s v ∧ way.length ≤ 100000 ∧ stsOk b ∧ stsDep b + 1 ≤ n ∧ stsSz b ≤ 400 ∧ Rm way (stsSz b) v ∧
  ∀ M', TP M' t s (stsFw way b v) → Two t s M M' → Q .non M'
def w_l_follow_b1 (n : Nat) : DTS := dSeq (dDrop (dMt "list" gAppend (dVar 2) (daCons (dAndV (dOp gLt (dCB gLen (daCons (dVar 2) (daNil))) (dCB gLen (daCons (dVar 1) (daNil)))) (dOp gIx (dVar 1) (dCB gLen (daCons (dVar 2) (daNil))))) (daNil)))) (dSeq (dIfS (dNot (dTru (dOp gIx (dVar 2) (dUn gNeg (dC (.int 1)))))) (dBrk) (dPass)) (dDrop (dCall (sp_l_follow n) (daCons (dOp gIx (dVar 4) (dC (.int 1))) (daCons (dVar 1) (daCons (dVar 2) (daCons (dVar 3) (daNil))))))))
def w_l_follow_b2 (n : Nat) : DTS := dIfS (dTest (dOp gEq (dOp gIx (dVar 4) (dC (.int 0))) (dC (.str (T "either"))))) (dSeq (dDrop (dMt "list" gAppend (dVar 2) (daCons (dAndV (dOp gLt (dCB gLen (daCons (dVar 2) (daNil))) (dCB gLen (daCons (dVar 1) (daNil)))) (dOp gIx (dVar 1) (dCB gLen (daCons (dVar 2) (daNil))))) (daNil)))) (dIfS (dTru (dOp gIx (dVar 2) (dUn gNeg (dC (.int 1))))) (dDrop (dCall (sp_l_follow n) (daCons (dOp gIx (dVar 4) (dC (.int 1))) (daCons (dVar 1) (daCons (dVar 2) (daCons (dVar 3) (daNil))))))) (dDrop (dCall (sp_l_follow n) (daCons (dOp gIx (dVar 4) (dC (.int 2))) (daCons (dVar 1) (daCons (dVar 2) (daCons (dVar 3) (daNil))))))))) (dIfS (dTest (dOp gEq (dOp gIx (dVar 4) (dC (.int 0))) (dC (.str (T "again"))))) (dFor (diRng1 (daCons (dOp gAdd (dCB gLen (daCons (dVar 1) (daNil))) (dC (.int 1))) (daNil))) (dgName 5) (w_l_follow_b1 n)) (dDrop (dMt "list" gAppend (dVar 3) (daCons (dVar 4) (daNil)))))
def w_l_follow (n : Nat) : DTS := dOrS (dFor (diAny (dVar 0)) (dgName 4) (w_l_follow_b2 n)) (dForR (diRef (dVar 0)) (dgName 4) (w_l_follow_b2 n))
theorem no_follow0 : ∀ ds M Q E, ¬ sp_l_follow 0 ds M Q E := by
  rintro ds M Q E ⟨x, y, t, s, b, way, v, _, _, _, _, _, _, h, _⟩
  omega
theorem WayAt.len {M : Mu} {y : D} {way : List Bool} {t s : Addr} (h : WayAt M y way t s) {N : DK} (k : N (.int way.length) M) : cbK (K := N) ⟨⟩ gLen [y] M := by
  rcases h with rfl | ⟨q, rfl, hq, _⟩
  · walk_at "dl"
    rw [List.length_map]
    exact k
  · try simp only [hq]
    walk_at "dl"
    try simp only [hq]
    walk_at "dl"
    try simp only [hq]
    walk_at "dl"
    try simp only [hq]
    walk_at "dl"
    try simp only [hq]
    walk_at "dl"
    try simp only [hq]
    walk_at "dl"
    try simp only [hq]
    walk_at "dl"
    try simp only [hq]
    walk_at "dl"
    try simp only [hq]
    walk_at "dl"
    try simp only [hq]
    walk_at "dl"
    rw [List.length_map]
    exact k
theorem WayAt.ix {M : Mu} {y : D} {way : List Bool} {t s : Addr} (h : WayAt M y way t s) {i : Nat} {c : Bool} (hc : way[i]? = some c) {N : DK} (k : N (.bl c) M) : opK (K := N) ⟨⟩ gIx y (.int i) M := by
  have e : atI (way.map D.bl) (i : Int) = some (.bl c) := atI_of (by omega) (by rw [Int.toNat_natCast, List.getElem?_map, hc]; rfl)
  rcases h with rfl | ⟨q, rfl, hq, _⟩
  · walk_at "dl"
    rw [e]
    exact k
  · try simp only [hq]
    walk_at "dl"
    try simp only [hq]
    walk_at "dl"
    try simp only [hq]
    walk_at "dl"
    try simp only [hq]
    walk_at "dl"
    try simp only [hq]
    walk_at "dl"
    try simp only [hq]
    walk_at "dl"
    try simp only [hq]
    walk_at "dl"
    try simp only [hq]
    walk_at "dl"
    try simp only [hq]
    walk_at "dl"
    try simp only [hq]
    walk_at "dl"
    rw [e]
    exact k
theorem choose_ {D0 : DEnds} {x0 x4 x5 : Option D} {y : D} {t s : Addr} {way : List Bool} {v : Wk} {M : Mu} (h : TP M t s v) (hy : WayAt M y way t s) (hl : v.tk.length ≤ 1000000) (hw : way.length ≤ 100000)
    (hn : D0.nx [x0, some y, some (.ref t), some (.ref s), x4, x5] (put M t (.lst ((v.ch way).tk.map D.bl)))) :
    dDrop (dMt "list" gAppend (dVar 2) (daCons (dAndV (dOp gLt (dCB gLen (daCons (dVar 2) (daNil))) (dCB gLen (daCons (dVar 1) (daNil)))) (dOp gIx (dVar 1) (dCB gLen (daCons (dVar 2) (daNil))))) (daNil))) D0 [x0, some y, some (.ref t), some (.ref s), x4, x5] M := by
  have e1 : (v.ch way).tk.map D.bl = v.tk.map D.bl ++ [.bl (nxc way v.tk)] := by unfold Wk.ch; rw [List.map_append]; rfl
  rw [e1] at hn
  try simp only [h.tk]
  walk_at "dl"
  try simp only [h.tk]
  walk_at "dl"
  try simp only [h.tk]
  walk_at "dl"
  try simp only [h.tk]
  walk_at "dl"
  try simp only [h.tk]
  walk_at "dl"
  try simp only [h.tk]
  walk_at "dl"
  try simp only [h.tk]
  walk_at "dl"
  try simp only [h.tk]
  walk_at "dl"
  try simp only [h.tk]
  walk_at "dl"
  try simp only [h.tk]
  walk_at "dl"
  refine hy.len ?_
  walk_at "dl"
  rw [List.length_map]
  by_cases hlt : v.tk.length < way.length
  · rw [if_pos (by omega)]
    try simp only [h.tk]
    walk_at "dl"
    try simp only [h.tk]
    walk_at "dl"
    try simp only [h.tk]
    walk_at "dl"
    try simp only [h.tk]
    walk_at "dl"
    try simp only [h.tk]
    walk_at "dl"
    try simp only [h.tk]
    walk_at "dl"
    try simp only [h.tk]
    walk_at "dl"
    try simp only [h.tk]
    walk_at "dl"
    try simp only [h.tk]
    walk_at "dl"
    try simp only [h.tk]
    walk_at "dl"
    rw [List.length_map]
    have ec : way[v.tk.length]? = some (nxc way v.tk) := by unfold nxc; rw [List.getElem?_eq_getElem hlt]; rfl
    refine hy.ix ec ?_
    try simp only [h.tk]
    walk_at "dl"
    try simp only [h.tk]
    walk_at "dl"
    try simp only [h.tk]
    walk_at "dl"
    try simp only [h.tk]
    walk_at "dl"
    try simp only [h.tk]
    walk_at "dl"
    try simp only [h.tk]
    walk_at "dl"
    try simp only [h.tk]
    walk_at "dl"
    try simp only [h.tk]
    walk_at "dl"
    try simp only [h.tk]
    walk_at "dl"
    try simp only [h.tk]
    walk_at "dl"
    rw [List.length_map]
    exact ⟨by omega, hn⟩
  · rw [if_neg (by omega)]
    have ec : nxc way v.tk = false := by unfold nxc; rw [List.getElem?_eq_none (by omega)]; rfl
    rw [ec] at hn
    try simp only [h.tk]
    walk_at "dl"
    try simp only [h.tk]
    walk_at "dl"
    try simp only [h.tk]
    walk_at "dl"
    try simp only [h.tk]
    walk_at "dl"
    try simp only [h.tk]
    walk_at "dl"
    try simp only [h.tk]
    walk_at "dl"
    try simp only [h.tk]
    walk_at "dl"
    try simp only [h.tk]
    walk_at "dl"
    try simp only [h.tk]
    walk_at "dl"
    try simp only [h.tk]
    walk_at "dl"
    rw [List.length_map]
    exact ⟨by omega, hn⟩
theorem last_tk {v : Wk} {way : List Bool} : atI ((v.ch way).tk.map D.bl) (-1) = some (.bl (nxc way v.tk)) := by
  unfold Wk.ch
  rw [List.map_append]
  unfold atI
  rw [List.length_append, List.map_cons, List.map_nil, List.length_singleton, ixN_m1]
  show (v.tk.map D.bl ++ [D.bl (nxc way v.tk)])[(v.tk.map D.bl).length]? = _
  rw [List.getElem?_append_right (Nat.le_refl _)]
  simp
/-- one statement -/
theorem follow_b2 {n : Nat} {D0 : DEnds} {x0 x5 : Option D} {y : D} {t s : Addr} {way : List Bool} {v : Wk} {a : St} {M : Mu} (h : TP M t s v) (hy : WayAt M y way t s) (hw : way.length ≤ 100000) (ho : a.ok) (hd : a.dep ≤ n) (hz : a.sz ≤ 400) (hR : Rm way a.sz v)
    (hn : ∀ M' x5, TP M' t s (a.fw way v) → Two t s M M' → D0.nx [x0, some y, some (.ref t), some (.ref s), some a.d, x5] M') :
    w_l_follow_b2 n D0 [x0, some y, some (.ref t), some (.ref s), some a.d, x5] M := by
  obtain ⟨l1, l2⟩ := hR.len
  have pass : ∀ (hold : a = a) (e : a.fw way v = ⟨v.tk, v.ps ++ [a]⟩) , D0.nx [x0, some y, some (.ref t), some (.ref s), some a.d, x5] (put M s (.lst (v.ps.map St.d ++ [a.d]))) := fun _ e => by
    have := hn _ x5 (by rw [e]; exact h.pass (x := a)) Two.refl.put_s
    rw [List.map_append] at this
    exact this
  unfold w_l_follow_b2
  cases a with
  | hold nm k pl =>
    have q := pass rfl (by rw [St.fw])
    rw [hold_d'] at q ⊢
    try simp only [n_hold_ei, n_hold_ag, h.ps]
    walk_at "dl"
    try simp only [n_hold_ei, n_hold_ag, h.ps]
    walk_at "dl"
    try simp only [n_hold_ei, n_hold_ag, h.ps]
    walk_at "dl"
    try simp only [n_hold_ei, n_hold_ag, h.ps]
    walk_at "dl"
    try simp only [n_hold_ei, n_hold_ag, h.ps]
    walk_at "dl"
    try simp only [n_hold_ei, n_hold_ag, h.ps]
    walk_at "dl"
    try simp only [n_hold_ei, n_hold_ag, h.ps]
    walk_at "dl"
    try simp only [n_hold_ei, n_hold_ag, h.ps]
    walk_at "dl"
    try simp only [n_hold_ei, n_hold_ag, h.ps]
    walk_at "dl"
    try simp only [n_hold_ei, n_hold_ag, h.ps]
    walk_at "dl"
    rw [List.length_map]
    exact ⟨by omega, q⟩
  | act p nm pl as =>
    have q := pass rfl (by rw [St.fw])
    rw [act_d'] at q ⊢
    try simp only [n_do_ei, n_do_ag, h.ps]
    walk_at "dl"
    try simp only [n_do_ei, n_do_ag, h.ps]
    walk_at "dl"
    try simp only [n_do_ei, n_do_ag, h.ps]
    walk_at "dl"
    try simp only [n_do_ei, n_do_ag, h.ps]
    walk_at "dl"
    try simp only [n_do_ei, n_do_ag, h.ps]
    walk_at "dl"
    try simp only [n_do_ei, n_do_ag, h.ps]
    walk_at "dl"
    try simp only [n_do_ei, n_do_ag, h.ps]
    walk_at "dl"
    try simp only [n_do_ei, n_do_ag, h.ps]
    walk_at "dl"
    try simp only [n_do_ei, n_do_ag, h.ps]
    walk_at "dl"
    try simp only [n_do_ei, n_do_ag, h.ps]
    walk_at "dl"
    rw [List.length_map]
    exact ⟨by omega, q⟩
  | either a b =>
    rw [St.ok] at ho
    rw [St.dep] at hd
    rw [St.sz] at hz hR
    have e : (St.either a b).fw way v = if nxc way v.tk = true then stsFw way a (v.ch way) else stsFw way b (v.ch way) := by rw [St.fw]
    rw [e] at hn
    rw [either_d'] at hn ⊢
    have R1 : Rm way (stsSz a + stsSz b) (v.ch way) := hR.ch
    have A := h.ch (way := way)
    have e1 : (v.ch way).tk.map D.bl = v.tk.map D.bl ++ [.bl (nxc way v.tk)] := by unfold Wk.ch; rw [List.map_append]; rfl
    have eL := last_tk (v := v) (way := way)
    rw [e1] at A eL
    have T1 : Two t s M (put M t (.lst (v.tk.map D.bl ++ [.bl (nxc way v.tk)]))) := Two.refl.put_t
    have at1 : put M t (.lst (v.tk.map D.bl ++ [.bl (nxc way v.tk)])) t = some (.lst (v.tk.map D.bl ++ [.bl (nxc way v.tk)])) := put_same
    generalize hM1 : put M t (.lst (v.tk.map D.bl ++ [.bl (nxc way v.tk)])) = M1 at A T1 at1
    have call : ∀ (g : List St) (K : DK) (E : DX), stsOk g → stsDep g + 1 ≤ n → stsSz g ≤ stsSz a + stsSz b → (∀ M', TP M' t s (stsFw way g (v.ch way)) → Two t s M M' → K .non M') → sp_l_follow n [.lst (g.map St.d), y, .ref t, .ref s] M1 K E := fun g K E h1 h2 h3 h4 =>
      ⟨_, y, t, s, g, way, v.ch way, rfl, .inl rfl, T1.way hy, A, hw, h1, h2, by omega, R1.le h3, fun M' h5 h6 => h4 M' h5 (T1.trans h6)⟩
    try simp only [h.tk]
    walk_at "dl"
    try simp only [h.tk]
    walk_at "dl"
    try simp only [h.tk]
    walk_at "dl"
    try simp only [h.tk]
    walk_at "dl"
    try simp only [h.tk]
    walk_at "dl"
    try simp only [h.tk]
    walk_at "dl"
    try simp only [h.tk]
    walk_at "dl"
    try simp only [h.tk]
    walk_at "dl"
    try simp only [h.tk]
    walk_at "dl"
    try simp only [h.tk]
    walk_at "dl"
    refine hy.len ?_
    walk_at "dl"
    rw [List.length_map]
    by_cases hlt : v.tk.length < way.length
    · rw [if_pos (by omega)]
      try simp only [h.tk]
      walk_at "dl"
      try simp only [h.tk]
      walk_at "dl"
      try simp only [h.tk]
      walk_at "dl"
      try simp only [h.tk]
      walk_at "dl"
      try simp only [h.tk]
      walk_at "dl"
      try simp only [h.tk]
      walk_at "dl"
      try simp only [h.tk]
      walk_at "dl"
      try simp only [h.tk]
      walk_at "dl"
      try simp only [h.tk]
      walk_at "dl"
      try simp only [h.tk]
      walk_at "dl"
      rw [List.length_map]
      have ec : way[v.tk.length]? = some (nxc way v.tk) := by unfold nxc; rw [List.getElem?_eq_getElem hlt]; rfl
      refine hy.ix ec ?_
      try simp only [h.tk]
      walk_at "dl"
      try simp only [h.tk]
      walk_at "dl"
      try simp only [h.tk]
      walk_at "dl"
      try simp only [h.tk]
      walk_at "dl"
      try simp only [h.tk]
      walk_at "dl"
      try simp only [h.tk]
      walk_at "dl"
      try simp only [h.tk]
      walk_at "dl"
      try simp only [h.tk]
      walk_at "dl"
      try simp only [h.tk]
      walk_at "dl"
      try simp only [h.tk]
      walk_at "dl"
      rw [List.length_map, hM1]
      try simp only [at1, eL]
      walk_at "dl"
      try simp only [at1, eL]
      walk_at "dl"
      try simp only [at1, eL]
      walk_at "dl"
      try simp only [at1, eL]
      walk_at "dl"
      try simp only [at1, eL]
      walk_at "dl"
      try simp only [at1, eL]
      walk_at "dl"
      try simp only [at1, eL]
      walk_at "dl"
      try simp only [at1, eL]
      walk_at "dl"
      try simp only [at1, eL]
      walk_at "dl"
      try simp only [at1, eL]
      walk_at "dl"
      refine ⟨by omega, ?_⟩
      cases hc : nxc way v.tk with
      | true =>
        rw [hc] at hn
        walk_at "dl"
        exact call a _ _ ho.1 (by omega) (by omega) fun M' h5 h6 => hn M' _ h5 h6
      | false =>
        rw [hc] at hn
        walk_at "dl"
        exact call b _ _ ho.2 (by omega) (by omega) fun M' h5 h6 => hn M' _ h5 h6
    · rw [if_neg (by omega)]
      have ec : nxc way v.tk = false := by unfold nxc; rw [List.getElem?_eq_none (by omega)]; rfl
      rw [ec] at hM1 at1 eL hn
      try simp only [h.tk]
      walk_at "dl"
      try simp only [h.tk]
      walk_at "dl"
      try simp only [h.tk]
      walk_at "dl"
      try simp only [h.tk]
      walk_at "dl"
      try simp only [h.tk]
      walk_at "dl"
      try simp only [h.tk]
      walk_at "dl"
      try simp only [h.tk]
      walk_at "dl"
      try simp only [h.tk]
      walk_at "dl"
      try simp only [h.tk]
      walk_at "dl"
      try simp only [h.tk]
      walk_at "dl"
      rw [List.length_map, hM1]
      try simp only [at1, eL]
      walk_at "dl"
      try simp only [at1, eL]
      walk_at "dl"
      try simp only [at1, eL]
      walk_at "dl"
      try simp only [at1, eL]
      walk_at "dl"
      try simp only [at1, eL]
      walk_at "dl"
      try simp only [at1, eL]
      walk_at "dl"
      try simp only [at1, eL]
      walk_at "dl"
      try simp only [at1, eL]
      walk_at "dl"
      try simp only [at1, eL]
      walk_at "dl"
      try simp only [at1, eL]
      walk_at "dl"
      exact ⟨by omega, call b _ _ ho.2 (by omega) (by omega) fun M' h5 h6 => hn M' _ h5 h6⟩
  | again b =>
    rw [St.ok] at ho
    rw [St.dep] at hd
    rw [St.sz] at hz hR
    have e : (St.again b).fw way v = agn way (stsFw way b) (way.length + 1) v := by rw [St.fw]
    rw [e] at hn
    rw [again_d'] at hn ⊢
    try simp only [n_ag_ei', h.tk]
    walk_at "dl"
    try simp only [n_ag_ei', h.tk]
    walk_at "dl"
    try simp only [n_ag_ei', h.tk]
    walk_at "dl"
    try simp only [n_ag_ei', h.tk]
    walk_at "dl"
    try simp only [n_ag_ei', h.tk]
    walk_at "dl"
    try simp only [n_ag_ei', h.tk]
    walk_at "dl"
    try simp only [n_ag_ei', h.tk]
    walk_at "dl"
    try simp only [n_ag_ei', h.tk]
    walk_at "dl"
    try simp only [n_ag_ei', h.tk]
    walk_at "dl"
    try simp only [n_ag_ei', h.tk]
    walk_at "dl"
    refine hy.len ?_
    walk_at "dl"
    refine ⟨by omega, by omega, wFor_by (fun i τ M' => ∃ v' x5, τ = [x0, some y, some (.ref t), some (.ref s), some (.tup [.str (T "again"), .lst (b.map St.d)]), x5] ∧ TP M' t s v' ∧ Two t s M M' ∧ Rm way (stsSz b + 1) v' ∧ i ≤ way.length + 1 ∧ agn way (stsFw way b) (way.length + 1 - i) v' = agn way (stsFw way b) (way.length + 1) v) ⟨v, _, rfl, h, Two.refl, hR, Nat.zero_le _, rfl⟩ ?_ ?_⟩
    · rintro i d τ M' hdi ⟨v', x5, rfl, h', T', R', hi, ea⟩ nxt hnx
      obtain ⟨rfl, hlt⟩ := upTo_at hdi
      have hlt : i < way.length + 1 := hlt
      obtain ⟨k, hk⟩ : ∃ k, way.length + 1 - i = k + 1 := ⟨way.length - i, by omega⟩
      have hk2 : way.length + 1 - (i + 1) = k := by omega
      rw [hk, agn] at ea
      obtain ⟨l1', l2'⟩ := R'.len
      have hy' := T'.way hy
      have R1 : Rm way (stsSz b) (v'.ch way) := R'.ch
      have A := h'.ch (way := way)
      have e1 : (v'.ch way).tk.map D.bl = v'.tk.map D.bl ++ [.bl (nxc way v'.tk)] := by unfold Wk.ch; rw [List.map_append]; rfl
      have eL := last_tk (v := v') (way := way)
      rw [e1] at A eL
      have T1 : Two t s M' (put M' t (.lst (v'.tk.map D.bl ++ [.bl (nxc way v'.tk)]))) := Two.refl.put_t
      have at1 : put M' t (.lst (v'.tk.map D.bl ++ [.bl (nxc way v'.tk)])) t = some (.lst (v'.tk.map D.bl ++ [.bl (nxc way v'.tk)])) := put_same
      generalize hM1 : put M' t (.lst (v'.tk.map D.bl ++ [.bl (nxc way v'.tk)])) = M1 at A T1 at1
      unfold w_l_follow_b1
      try simp only [h'.tk]
      walk_at "dl"
      try simp only [h'.tk]
      walk_at "dl"
      try simp only [h'.tk]
      walk_at "dl"
      try simp only [h'.tk]
      walk_at "dl"
      try simp only [h'.tk]
      walk_at "dl"
      try simp only [h'.tk]
      walk_at "dl"
      try simp only [h'.tk]
      walk_at "dl"
      try simp only [h'.tk]
      walk_at "dl"
      try simp only [h'.tk]
      walk_at "dl"
      try simp only [h'.tk]
      walk_at "dl"
      refine hy'.len ?_
      walk_at "dl"
      rw [List.length_map]
      by_cases hl2 : v'.tk.length < way.length
      · rw [if_pos (by omega)]
        try simp only [h'.tk]
        walk_at "dl"
        try simp only [h'.tk]
        walk_at "dl"
        try simp only [h'.tk]
        walk_at "dl"
        try simp only [h'.tk]
        walk_at "dl"
        try simp only [h'.tk]
        walk_at "dl"
        try simp only [h'.tk]
        walk_at "dl"
        try simp only [h'.tk]
        walk_at "dl"
        try simp only [h'.tk]
        walk_at "dl"
        try simp only [h'.tk]
        walk_at "dl"
        try simp only [h'.tk]
        walk_at "dl"
        rw [List.length_map]
        have ec : way[v'.tk.length]? = some (nxc way v'.tk) := by unfold nxc; rw [List.getElem?_eq_getElem hl2]; rfl
        refine hy'.ix ec ?_
        try simp only [h'.tk]
        walk_at "dl"
        try simp only [h'.tk]
        walk_at "dl"
        try simp only [h'.tk]
        walk_at "dl"
        try simp only [h'.tk]
        walk_at "dl"
        try simp only [h'.tk]
        walk_at "dl"
        try simp only [h'.tk]
        walk_at "dl"
        try simp only [h'.tk]
        walk_at "dl"
        try simp only [h'.tk]
        walk_at "dl"
        try simp only [h'.tk]
        walk_at "dl"
        try simp only [h'.tk]
        walk_at "dl"
        rw [List.length_map, hM1]
        try simp only [at1, eL]
        walk_at "dl"
        try simp only [at1, eL]
        walk_at "dl"
        try simp only [at1, eL]
        walk_at "dl"
        try simp only [at1, eL]
        walk_at "dl"
        try simp only [at1, eL]
        walk_at "dl"
        try simp only [at1, eL]
        walk_at "dl"
        try simp only [at1, eL]
        walk_at "dl"
        try simp only [at1, eL]
        walk_at "dl"
        try simp only [at1, eL]
        walk_at "dl"
        try simp only [at1, eL]
        walk_at "dl"
        refine ⟨by omega, ?_⟩
        cases hc : nxc way v'.tk with
        | true =>
          rw [if_pos hc] at ea
          walk_at "dl"
          refine ⟨_, y, t, s, b, way, v'.ch way, rfl, .inl rfl, T1.way hy', A, hw, ho, by omega, by omega, R1, fun M3 h5 h6 => ?_⟩
          exact hnx _ _ ⟨_, _, rfl, h5, (T'.trans T1).trans h6, R'.turn hc (stsGr way b _), by omega, by rw [hk2]; exact ea⟩
        | false =>
          rw [if_neg (by rw [hc]; decide)] at ea
          walk_at "dl"
          refine hn M1 _ (by rw [← ea]; exact A) (T'.trans T1)
      · rw [if_neg (by omega)]
        have ec : nxc way v'.tk = false := by unfold nxc; rw [List.getElem?_eq_none (by omega)]; rfl
        rw [if_neg (by rw [ec]; decide)] at ea
        rw [ec] at hM1 at1 eL
        try simp only [h'.tk]
        walk_at "dl"
        try simp only [h'.tk]
        walk_at "dl"
        try simp only [h'.tk]
        walk_at "dl"
        try simp only [h'.tk]
        walk_at "dl"
        try simp only [h'.tk]
        walk_at "dl"
        try simp only [h'.tk]
        walk_at "dl"
        try simp only [h'.tk]
        walk_at "dl"
        try simp only [h'.tk]
        walk_at "dl"
        try simp only [h'.tk]
        walk_at "dl"
        try simp only [h'.tk]
        walk_at "dl"
        rw [List.length_map, hM1]
        try simp only [at1, eL]
        walk_at "dl"
        try simp only [at1, eL]
        walk_at "dl"
        try simp only [at1, eL]
        walk_at "dl"
        try simp only [at1, eL]
        walk_at "dl"
        try simp only [at1, eL]
        walk_at "dl"
        try simp only [at1, eL]
        walk_at "dl"
        try simp only [at1, eL]
        walk_at "dl"
        try simp only [at1, eL]
        walk_at "dl"
        try simp only [at1, eL]
        walk_at "dl"
        try simp only [at1, eL]
        walk_at "dl"
        exact ⟨by omega, hn M1 _ (by rw [← ea]; exact A) (T'.trans T1)⟩
    · rintro τ M' ⟨v', x5, rfl, h', T', R', hi, ea⟩
      rw [upTo_len] at ea
      have e0 : way.length + 1 - ((way.length : Int) + 1).toNat = 0 := by omega
      rw [e0, agn] at ea
      rw [← ea] at hn
      exact hn M' _ h' T'
theorem p_l_follow (n : Nat) : ∀ ds M Q E, sp_l_follow (n + 1) ds M Q E → w_l_follow n (Ret Q E) (ds.map some ++ List.replicate (6 - 4) none) M := by
  rintro ds M Q E ⟨x, y, t, s, b, way, v, rfl, hx, hy, h, hw, ho, hd, hz, hR, hQ⟩
  unfold w_l_follow
  let I : Nat → DSt → Mu → Prop := fun k τ M' => (∃ x4 x5, τ = [some x, some y, some (.ref t), some (.ref s), x4, x5]) ∧ TP M' t s (stsFw way (b.take k) v) ∧ Two t s M M'
  have step : ∀ {D0 : DEnds} k a x5 M', b[k]? = some a → TP M' t s (stsFw way (b.take k) v) → Two t s M M' → (∀ τ2 M2, I (k + 1) τ2 M2 → D0.nx τ2 M2) → w_l_follow_b2 n D0 [some x, some y, some (.ref t), some (.ref s), some a.d, x5] M' := by
    intro D0 k a x5 M' ha h' T' hn
    have hm := List.mem_of_getElem? ha
    obtain ⟨h1, h2, h3⟩ := (show a.ok ∧ a.dep ≤ n ∧ a.sz ≤ 400 from by
      have q := stsDep_le.mp (Nat.le_refl (stsDep b)) a hm
      exact ⟨stsOk_all.mp ho a hm, by omega, Nat.le_trans (sz_mem hm) hz⟩)
    have hsz : stsSz (b.take k) + a.sz ≤ stsSz b := by
      have e := stsSz_app (a := b.take k) (b := b.drop k)
      rw [List.take_append_drop] at e
      have hk := (List.getElem?_eq_some_iff.mp ha).1
      have e2 : b.drop k = a :: b.drop (k + 1) := by
        rw [List.drop_eq_getElem_cons hk, (List.getElem?_eq_some_iff.mp ha).2]
      rw [e2, stsSz] at e
      omega
    have R' : Rm way a.sz (stsFw way (b.take k) v) := (hR.le hsz).go (stsGr way (b.take k) v)
    refine follow_b2 h' (T'.way hy) hw h1 h2 h3 R' fun M2 x5 h5 h6 => hn _ _ ⟨⟨_, x5, rfl⟩, by rw [stsFw_take ha]; exact h5, T'.trans h6⟩
  have fin : ∀ τ M', I b.length τ M' → (Ret Q E).nx τ M' := by
    rintro τ M' ⟨⟨x4, x5, rfl⟩, h', T'⟩
    rw [List.take_length] at h'
    exact hQ M' h' T'
  have h0 : TP M t s (stsFw way (b.take 0) v) := by rw [List.take_zero, stsFw]; exact h
  rcases hx with rfl | ⟨a, rfl, ha, n1, n2⟩
  · try simp only [dOrS]
    walk_at "dl"
    try simp only [dOrS]
    walk_at "dl"
    left
    walk_at "dl"
    refine wFor_by I ⟨⟨_, _, rfl⟩, h0, Two.refl⟩ ?_ fun τ M' h => ?_
    · rintro k d τ M' hdk ⟨⟨x4, x5, rfl⟩, h', T'⟩ nxt hn
      obtain ⟨a, ha, rfl⟩ := map_at hdk
      walk_at "dl"
      exact step k a x5 M' ha h' T' hn
    · rw [List.length_map] at h
      exact fin τ M' h
  · try simp only [dOrS]
    walk_at "dl"
    try simp only [dOrS]
    walk_at "dl"
    right
    try simp only [ha]
    walk_at "dl"
    try simp only [ha]
    walk_at "dl"
    try simp only [ha]
    walk_at "dl"
    try simp only [ha]
    walk_at "dl"
    try simp only [ha]
    walk_at "dl"
    try simp only [ha]
    walk_at "dl"
    try simp only [ha]
    walk_at "dl"
    try simp only [ha]
    walk_at "dl"
    try simp only [ha]
    walk_at "dl"
    try simp only [ha]
    walk_at "dl"
    refine wForR_by I ⟨⟨_, _, rfl⟩, h0, Two.refl⟩ (fun k τ M' h => h.2.2 a _ n1 n2 ha) ?_ fun τ M' h => ?_
    · rintro k d τ M' hdk ⟨⟨x4, x5, rfl⟩, h', T'⟩ nxt hn
      obtain ⟨a, ha, rfl⟩ := map_at hdk
      walk_at "dl"
      exact step k a x5 M' ha h' T' hn
    · rw [List.length_map] at h
      exact fin τ M' h
end DL

namespace DL
open PySem L2
local macro_rules | `(tactic| walk_at "dl") => `(tactic| try simp (config := { proj := false }) only [↓ex_mk, ↓nx_mk, ↓rt_mk, ↓bk_mk, ↓ct_mk, ↓xc_mk, ↓u_c, ↓u_op, ↓u_un, ↓u_and, ↓u_or, ↓u_not, ↓u_if, ↓u_anil, ↓u_acons, ↓u_lst, ↓u_lstM, ↓u_tup, ↓u_call, ↓u_sl, ↓u_onone, ↓u_cb, ↓u_mt, ↓u_mt0, ↓u_pass, ↓u_seq, ↓u_set, ↓u_asg, ↓u_drop, ↓u_ret, ↓u_retN, ↓u_ifs, ↓u_brk, ↓u_cnt, ↓u_for, ↓u_gname, ↓u_gsub, ↓u_fs, ↓u_fmt, ↓u_js0, ↓u_js, ↓u_em, ↓u_yes, ↓u_never, ↓u_ref, ↓u_forR, ↓u_star, ↓u_dict, ↓u_dict0, ↓u_dp0, ↓u_dp1, ↓u_forK, ↓u_lock, ↓u_kd, ↓u_fld, ↓u_setF, ↓u_make, ↓u_binL, ↓u_binR, ↓u_inO, ↓u_getO, ↓u_setO, ↓u_augO, ↓u_prp, ↓u_inv, ↓u_meth, ↓u_keys, ↓u_try, ↓u_cm, ↓u_makeV, ↓r_enum, ↓r_own, ↓u_raise, ↓u_tryas, ↓u_ca, ↓u_xf, ↓u_idxC, su_mk,
  ↓r_var, ↓r_test, ↓r_andV, ↓r_orV, ↓r_notV, ↓r_tru, ↓r_frz, ↓r_osome, ↓r_any, ↓r_scr, scr_c, ↓r_rng1, ↓r_rng2, ↓r_fz, wipeD,
  onSome_s, onBl_b, onInt_i, onStr_s, onVar_s, onML_l, onML2_l, onML2_d, onDK_d, fmt_s, fmt_i, tru_n, tru_b, tru_i, tru_s, tru_l, tru_t, tru_r, frz_r, sl_s, sl_l, sl_t, sl_r, add_i, add_s, add_l, add_t, add_rl, add_lr, sub_i, mul_i, div_i, mod_i, pow_i, neg_i, cmp_i, eq_i, eq_s, eq_b, eq_n, eq_l, eq_t, eq_rl, eq_lr, eq_ni, eq_in, eq_ns, eq_sn, eq_nb, eq_bn, eq_is, eq_si,
  ix_l, ix_t, ix_s, ix_ri, ix_rs, in_ss, in_l, in_t, in_ir, in_sr, isB_t, isB_f, ltS_s, gtS_s, sorted_l, keyK_s, keyK_i, u_dget, lenOR_r, listOR_r, isn_n, isn_b, isn_i, isn_s, isn_r, isn_l, isn_t, len_s, len_c, len_l, len_t, len_r, int_i, int_b, min_ii, max_ii, list_l, list_t, list_r, list_c, listM_l, listM_c, listM_t, listM_r, isi_, isi_k, ty_n, ty_b, ty_i, ty_s, ty_l, ty_t, it_s, it_l, it_r, itM_l, itM_d, app_r, rev_r, ends_s, ins_r, set_rs, str_i, str_s, ext_l, pop_r, clr_r, star_l, star_t, star_r, onRef_r, onML3_l, onML3_d, onML3_f, onDR_d, onDR_f, onFK_f, join_l, join_t, join_r, starts_s, r_gtup, r_glst, r_gnil, r_gcons, set_r, items_s, items_l, items_t, rng1_i, rng2_i, fz_r, addM_l, addM_rl, onIns_i, onLst_l, isIns_r, isInsM_i, noF_r, noFM_i, rows_r, lenO_r, listO_r, listOM_r, isCK_i, isCK_l, isC_r, isC_s, isC_i, isC_b, isC_n, isC_l, isC_t, putG_0, putG_1, lk_1, onCl_c, onEnum_l, index_l, strO_r, cmpO_r, pop1_r, tuple_l, tuple_t, divmod_i, upper_s, indexT_t, onExc_e, isE_t, isE_c, isE_v, zip_1,
  List.map_cons, List.map_nil, List.cons_append, List.nil_append, List.length_cons, List.length_nil, List.replicate, List.getElem?_cons_zero, List.getElem?_cons_succ, List.set_cons_zero, List.set_cons_succ, id, decide_eq_true_eq, if_true, if_false, Bool.false_eq_true, reduceIte, Bool.not_true, Bool.not_false, true_and, Nat.reduceAdd, Nat.reduceSub, Int.reduceToNat, Int.toNat_natCast, put_same, put_put, atI_0, atI_1, atI_2, atI_3, atI_4, ixN_40, ixN_41, ixN_42, ixN_43])
/-! ### class Walker -/
abbrev Wkr (way : List Bool) (t s : Addr) : MO := .ins "Walker" [("_way", .lst (way.map D.bl)), ("taken", .ref t), ("passed", .ref s)]
/-- what has been taken and passed: copies with lists of their own, newer than M0 -/
structure TPF (M0 M : Mu) (t s : Addr) (v : Wk) : Prop where
  tk : M t = some (.lst (v.tk.map D.bl))
  ps : ∃ ds fp, M s = some (.lst ds) ∧ LF (StF M) v.ps ds fp ∧ ∀ x ∈ fp, M0 x = none ∧ x ≠ t ∧ x ≠ s
  ne : t ≠ s
  sub : Xt M0 M
  nt : M0 t = none
  ns : M0 s = none
theorem TPF.ch {M0 M : Mu} {t s : Addr} {v : Wk} {way : List Bool} (h : TPF M0 M t s v) : TPF M0 (put M t (.lst ((v.ch way).tk.map D.bl))) t s (v.ch way) := by
  obtain ⟨ds, fp, h1, h2, h3⟩ := h.ps
  exact ⟨put_same, ⟨ds, fp, by rw [put_ne (Ne.symm h.ne)]; exact h1, h2.agreeS fun x hx => put_ne (h3 x hx).2.1, h3⟩, h.ne, h.sub.put h.nt, h.nt, h.ns⟩
theorem TPF.xt {M0 M M' : Mu} {t s : Addr} {v : Wk} (h : TPF M0 M t s v) (x : Xt M M') : TPF M0 M' t s v := by
  obtain ⟨ds, fp, h1, h2, h3⟩ := h.ps
  refine ⟨x _ _ h.tk, ⟨ds, fp, x _ _ h1, h2.agreeS fun y hy => ?_, h3⟩, h.ne, h.sub.trans x, h.nt, h.ns⟩
  cases e : M y with
  | none => exact absurd e (h2.liveS y hy)
  | some o => exact x y o e
theorem TPF.pass {M0 M M' : Mu} {t s : Addr} {v : Wk} {a : St} {d : D} {fp : List Addr} {ds : List D} (h : TPF M0 M t s v) (hs : M s = some (.lst ds)) (x : Xt M M') (k : StF M' a d fp) (hf : ∀ y ∈ fp, M y = none) : TPF M0 (put M' s (.lst (ds ++ [d]))) t s ⟨v.tk, v.ps ++ [a]⟩ := by
  have h' := h.xt x
  obtain ⟨ds0, fp0, h1, h2, h3⟩ := h.ps
  rw [hs] at h1
  cases h1
  have h2' : LF (StF M') v.ps ds fp0 := h2.agreeS fun y hy => by
    cases e : M y with
    | none => exact absurd e (h2.liveS y hy)
    | some o => exact x y o e
  have nt : ∀ y ∈ fp, y ≠ t := fun y hy z => by have := hf y hy; rw [z, h.tk] at this; cases this
  have ns : ∀ y ∈ fp, y ≠ s := fun y hy z => by have := hf y hy; rw [z, hs] at this; cases this
  refine ⟨by rw [put_ne h.ne]; exact h'.tk, ⟨ds ++ [d], fp0 ++ fp, put_same, ?_, ?_⟩, h.ne, h'.sub.put h.ns, h.nt, h.ns⟩
  · refine (h2'.agreeS fun y hy => put_ne (h3 y hy).2.2).snoc (k.agree fun y hy => put_ne (ns y hy)) fun y hy z => ?_
    exact h2.liveS y z (hf y hy)
  · intro y hy
    rcases List.mem_append.mp hy with hy | hy
    · exact h3 y hy
    · exact ⟨h.sub.none (hf y hy), nt y hy, ns y hy⟩
structure WkAt (M0 M : Mu) (w : Addr) (way : List Bool) (t s : Addr) (v : Wk) : Prop where
  at_ : M w = some (Wkr way t s)
  tp : TPF M0 M t s v
theorem WkAt.xt {M0 M M' : Mu} {w t s : Addr} {way : List Bool} {v : Wk} (h : WkAt M0 M w way t s v) (x : Xt M M') : WkAt M0 M' w way t s v := ⟨x _ _ h.at_, h.tp.xt x⟩
theorem WkAt.nt {M0 M : Mu} {w t s : Addr} {way : List Bool} {v : Wk} (h : WkAt M0 M w way t s v) : w ≠ t ∧ w ≠ s := by
  obtain ⟨ds, fp, h1, _⟩ := h.tp.ps
  exact ⟨(fun z => by have := h.at_; rw [z, h.tp.tk] at this; cases this), (fun z => by have := h.at_; rw [z, h1] at this; cases this)⟩
theorem wk_w {x y z : D} : List.lookup (Str.ofString "_way") [(Str.ofString "_way", x), (Str.ofString "taken", y), (Str.ofString "passed", z)] = some x := rfl
theorem wk_t {x y z : D} : List.lookup (Str.ofString "taken") [(Str.ofString "_way", x), (Str.ofString "taken", y), (Str.ofString "passed", z)] = some y := rfl
theorem wk_p {x y z : D} : List.lookup (Str.ofString "passed") [(Str.ofString "_way", x), (Str.ofString "taken", y), (Str.ofString "passed", z)] = some z := rfl
def sp_Walker_init : DSp := fun ds M Q _ => ∃ (w : Addr) (way : List Bool), ds = [.ref w, .lst (way.map D.bl)] ∧ M w = some (.ins "Walker" []) ∧ ∀ t s M', (∀ M0, Xt M0 M' → M0 t = none → M0 s = none → WkAt M0 M' w way t s ⟨[], []⟩) → M t = none → M s = none → (∀ b o, b ≠ w → M b = some o → M' b = some o) → Q .non M'
def w_Walker_init : DTS := dSeq (dSetF "Walker" "_way" (dVar 0) (dCB gList (daCons (dVar 1) (daNil)))) (dSeq (dSetF "Walker" "taken" (dVar 0) (dLstM (daNil))) (dSetF "Walker" "passed" (dVar 0) (dLstM (daNil))))
theorem p_Walker_init : ∀ ds M Q E, sp_Walker_init ds M Q E → w_Walker_init (Ret Q E) (ds.map some ++ List.replicate (2 - 2) none) M := by
  rintro ds M Q E ⟨w, way, rfl, hw, hQ⟩
  unfold w_Walker_init
  try simp only [hw]
  walk_at "dl"
  try simp only [hw]
  walk_at "dl"
  try simp only [hw]
  walk_at "dl"
  try simp only [hw]
  walk_at "dl"
  try simp only [hw]
  walk_at "dl"
  try simp only [hw]
  walk_at "dl"
  try simp only [hw]
  walk_at "dl"
  try simp only [hw]
  walk_at "dl"
  try simp only [hw]
  walk_at "dl"
  try simp only [hw]
  walk_at "dl"
  refine ⟨by decide, by decide, fun t ht => ?_⟩
  have nwt : w ≠ t := fun z => by rw [← z, put_same] at ht; cases ht
  try simp only [put_ne nwt, put_same]
  walk_at "dl"
  try simp only [put_ne nwt, put_same]
  walk_at "dl"
  try simp only [put_ne nwt, put_same]
  walk_at "dl"
  try simp only [put_ne nwt, put_same]
  walk_at "dl"
  try simp only [put_ne nwt, put_same]
  walk_at "dl"
  try simp only [put_ne nwt, put_same]
  walk_at "dl"
  try simp only [put_ne nwt, put_same]
  walk_at "dl"
  try simp only [put_ne nwt, put_same]
  walk_at "dl"
  try simp only [put_ne nwt, put_same]
  walk_at "dl"
  try simp only [put_ne nwt, put_same]
  walk_at "dl"
  refine ⟨by decide, by decide, fun s hs => ?_⟩
  have nws : w ≠ s := fun z => by rw [← z, put_same] at hs; cases hs
  have nts : t ≠ s := fun z => by subst z; rw [put_ne (Ne.symm nws), put_same] at hs; cases hs
  try simp only [put_ne nws, put_same]
  walk_at "dl"
  try simp only [put_ne nws, put_same]
  walk_at "dl"
  try simp only [put_ne nws, put_same]
  walk_at "dl"
  try simp only [put_ne nws, put_same]
  walk_at "dl"
  try simp only [put_ne nws, put_same]
  walk_at "dl"
  try simp only [put_ne nws, put_same]
  walk_at "dl"
  try simp only [put_ne nws, put_same]
  walk_at "dl"
  try simp only [put_ne nws, put_same]
  walk_at "dl"
  try simp only [put_ne nws, put_same]
  walk_at "dl"
  try simp only [put_ne nws, put_same]
  walk_at "dl"
  refine ⟨(by decide : 2 < 1000), hQ t s _ (fun M0 x0 n1 n2 => ⟨put_same, ⟨?_, ⟨[], [], ?_, .nil, fun y hy => nomatch hy⟩, nts, x0, n1, n2⟩⟩) ?_ ?_ ?_⟩
  · rw [put_ne (Ne.symm nwt), put_ne nts, put_ne (Ne.symm nwt), put_same]; rfl
  · rw [put_ne (Ne.symm nws), put_same]
  · rw [put_ne (Ne.symm nwt)] at ht; exact ht
  · rw [put_ne (Ne.symm nws), put_ne (Ne.symm nts), put_ne (Ne.symm nws)] at hs; exact hs
  · intro b o nb hb
    have nt : b ≠ t := fun z => by rw [put_ne (Ne.symm nwt), ← z, hb] at ht; cases ht
    have ns : b ≠ s := fun z => by rw [put_ne (Ne.symm nws), put_ne (Ne.symm nts), put_ne (Ne.symm nws), ← z, hb] at hs; cases hs
    rw [put_ne nb, put_ne ns, put_ne nb, put_ne nt, put_ne nb]
    exact hb
def sp_Walker_choice : DSp := fun ds M Q _ => ∃ (M0 : Mu) (w t s : Addr) (way : List Bool) (v : Wk), ds = [.ref w] ∧ WkAt M0 M w way t s v ∧ v.tk.length ≤ 1000000 ∧ ∀ M', WkAt M0 M' w way t s (v.ch way) → Two t s M M' → Q (.bl (nxc way v.tk)) M'
def w_Walker_choice_c1 : DTS := dSeq (dDrop (dMt "list" gAppend (dFld "Walker" "taken" (dVar 0)) (daCons (dVar 1) (daNil)))) (dRet (dVar 1))
def w_Walker_choice : DTS := dSeq (dSet 1 (dC (.bl false))) (dSeq (dIfS (dTest (dOp gLt (dCB gLen (daCons (dFld "Walker" "taken" (dVar 0)) (daNil))) (dCB gLen (daCons (dFld "Walker" "_way" (dVar 0)) (daNil))))) (dSet 1 (dOp gIx (dFld "Walker" "_way" (dVar 0)) (dCB gLen (daCons (dFld "Walker" "taken" (dVar 0)) (daNil))))) (dPass)) (w_Walker_choice_c1))
theorem p_Walker_choice : ∀ ds M Q E, sp_Walker_choice ds M Q E → w_Walker_choice (Ret Q E) (ds.map some ++ List.replicate (2 - 1) none) M := by
  rintro ds M Q E ⟨M0, w, t, s, way, v, rfl, h, hl, hQ⟩
  obtain ⟨n1, n2⟩ := h.nt
  have e1 : (v.ch way).tk.map D.bl = v.tk.map D.bl ++ [.bl (nxc way v.tk)] := by unfold Wk.ch; rw [List.map_append]; rfl
  have A := h.tp.ch (way := way)
  rw [e1] at A
  have fin := hQ _ ⟨by rw [put_ne n1]; exact h.at_, A⟩ Two.refl.put_t
  unfold w_Walker_choice
  try simp only [h.at_, wk_w, wk_t, wk_p, h.tp.tk]
  walk_at "dl"
  try simp only [h.at_, wk_w, wk_t, wk_p, h.tp.tk]
  walk_at "dl"
  try simp only [h.at_, wk_w, wk_t, wk_p, h.tp.tk]
  walk_at "dl"
  try simp only [h.at_, wk_w, wk_t, wk_p, h.tp.tk]
  walk_at "dl"
  try simp only [h.at_, wk_w, wk_t, wk_p, h.tp.tk]
  walk_at "dl"
  try simp only [h.at_, wk_w, wk_t, wk_p, h.tp.tk]
  walk_at "dl"
  try simp only [h.at_, wk_w, wk_t, wk_p, h.tp.tk]
  walk_at "dl"
  try simp only [h.at_, wk_w, wk_t, wk_p, h.tp.tk]
  walk_at "dl"
  try simp only [h.at_, wk_w, wk_t, wk_p, h.tp.tk]
  walk_at "dl"
  try simp only [h.at_, wk_w, wk_t, wk_p, h.tp.tk]
  walk_at "dl"
  rw [List.length_map, List.length_map]
  by_cases hlt : v.tk.length < way.length
  · rw [if_pos (by omega)]
    have ec : way[v.tk.length]? = some (nxc way v.tk) := by unfold nxc; rw [List.getElem?_eq_getElem hlt]; rfl
    have e : atI (way.map D.bl) (v.tk.length : Int) = some (.bl (nxc way v.tk)) := atI_of (by omega) (by rw [Int.toNat_natCast, List.getElem?_map, ec]; rfl)
    try simp only [h.at_, wk_w, wk_t, wk_p, h.tp.tk]
    walk_at "dl"
    try simp only [h.at_, wk_w, wk_t, wk_p, h.tp.tk]
    walk_at "dl"
    try simp only [h.at_, wk_w, wk_t, wk_p, h.tp.tk]
    walk_at "dl"
    try simp only [h.at_, wk_w, wk_t, wk_p, h.tp.tk]
    walk_at "dl"
    try simp only [h.at_, wk_w, wk_t, wk_p, h.tp.tk]
    walk_at "dl"
    try simp only [h.at_, wk_w, wk_t, wk_p, h.tp.tk]
    walk_at "dl"
    try simp only [h.at_, wk_w, wk_t, wk_p, h.tp.tk]
    walk_at "dl"
    try simp only [h.at_, wk_w, wk_t, wk_p, h.tp.tk]
    walk_at "dl"
    try simp only [h.at_, wk_w, wk_t, wk_p, h.tp.tk]
    walk_at "dl"
    try simp only [h.at_, wk_w, wk_t, wk_p, h.tp.tk]
    walk_at "dl"
    rw [e]
    walk_at "dl"
    unfold w_Walker_choice_c1
    try simp only [h.at_, wk_w, wk_t, wk_p, h.tp.tk]
    walk_at "dl"
    try simp only [h.at_, wk_w, wk_t, wk_p, h.tp.tk]
    walk_at "dl"
    try simp only [h.at_, wk_w, wk_t, wk_p, h.tp.tk]
    walk_at "dl"
    try simp only [h.at_, wk_w, wk_t, wk_p, h.tp.tk]
    walk_at "dl"
    try simp only [h.at_, wk_w, wk_t, wk_p, h.tp.tk]
    walk_at "dl"
    try simp only [h.at_, wk_w, wk_t, wk_p, h.tp.tk]
    walk_at "dl"
    try simp only [h.at_, wk_w, wk_t, wk_p, h.tp.tk]
    walk_at "dl"
    try simp only [h.at_, wk_w, wk_t, wk_p, h.tp.tk]
    walk_at "dl"
    try simp only [h.at_, wk_w, wk_t, wk_p, h.tp.tk]
    walk_at "dl"
    try simp only [h.at_, wk_w, wk_t, wk_p, h.tp.tk]
    walk_at "dl"
    rw [List.length_map]
    exact ⟨by omega, fin⟩
  · rw [if_neg (by omega)]
    have ec : nxc way v.tk = false := by unfold nxc; rw [List.getElem?_eq_none (by omega)]; rfl
    rw [ec] at fin
    unfold w_Walker_choice_c1
    try simp only [h.at_, wk_w, wk_t, wk_p, h.tp.tk]
    walk_at "dl"
    try simp only [h.at_, wk_w, wk_t, wk_p, h.tp.tk]
    walk_at "dl"
    try simp only [h.at_, wk_w, wk_t, wk_p, h.tp.tk]
    walk_at "dl"
    try simp only [h.at_, wk_w, wk_t, wk_p, h.tp.tk]
    walk_at "dl"
    try simp only [h.at_, wk_w, wk_t, wk_p, h.tp.tk]
    walk_at "dl"
    try simp only [h.at_, wk_w, wk_t, wk_p, h.tp.tk]
    walk_at "dl"
    try simp only [h.at_, wk_w, wk_t, wk_p, h.tp.tk]
    walk_at "dl"
    try simp only [h.at_, wk_w, wk_t, wk_p, h.tp.tk]
    walk_at "dl"
    try simp only [h.at_, wk_w, wk_t, wk_p, h.tp.tk]
    walk_at "dl"
    try simp only [h.at_, wk_w, wk_t, wk_p, h.tp.tk]
    walk_at "dl"
    rw [List.length_map]
    exact ⟨by omega, fin⟩
def sp_Walker_block (n : Nat) : DSp := fun ds M Q _ => ∃ (M0 : Mu) (w t s : Addr) (x : D) (b : List St) (way : List Bool) (v : Wk), ds = [.ref w, x] ∧ WkAt M0 M w way t s v ∧ PrgAt M x b t s ∧ way.length ≤ 100000 ∧ stsOk b ∧ stsDep b + 1 ≤ n ∧ stsDep b ≤ 3 ∧ stsSz b ≤ 400 ∧ Rm way (stsSz b) v ∧
  ∀ M', WkAt M0 M' w way t s (stsFw way b v) → Two t s M M' → Q .non M'
def w_Walker_block_b1 (n : Nat) : DTS := dDrop (dMeth "Walker" "block" (sp_Walker_block n) (dVar 0) (daCons (dOp gIx (dVar 2) (dC (.int 1))) (daNil)))
def w_Walker_block_b2 (n : Nat) : DTS := dIfS (dTest (dOp gEq (dOp gIx (dVar 2) (dC (.int 0))) (dC (.str (T "either"))))) (dDrop (dMeth "Walker" "block" (sp_Walker_block n) (dVar 0) (daCons (dIf (dTru (dMeth "Walker" "choice" sp_Walker_choice (dVar 0) daNil)) (dOp gIx (dVar 2) (dC (.int 1))) (dOp gIx (dVar 2) (dC (.int 2)))) (daNil)))) (dIfS (dTest (dOp gEq (dOp gIx (dVar 2) (dC (.int 0))) (dC (.str (T "again"))))) (dWhile (dTru (dMeth "Walker" "choice" sp_Walker_choice (dVar 0) daNil)) (w_Walker_block_b1 n)) (dDrop (dMt "list" gAppend (dFld "Walker" "passed" (dVar 0)) (daCons (dCall (sp_copied_statement 3) (daCons (dVar 2) (daNil))) (daNil)))))
def w_Walker_block (n : Nat) : DTS := dOrS (dFor (diAny (dVar 1)) (dgName 2) (w_Walker_block_b2 n)) (dForR (diRef (dVar 1)) (dgName 2) (w_Walker_block_b2 n))
theorem no_wkblock0 : ∀ ds M Q E, ¬ sp_Walker_block 0 ds M Q E := by
  rintro ds M Q E ⟨M0, w, t, s, x, b, way, v, _, _, _, _, _, h, _⟩
  omega
theorem wk_b2 {n : Nat} {D0 : DEnds} {x1 : Option D} {w t s : Addr} {way : List Bool} {v : Wk} {a : St} {M0 M : Mu} (h : WkAt M0 M w way t s v) (hw : way.length ≤ 100000) (ho : a.ok) (hd : a.dep ≤ n) (hd3 : a.dep ≤ 3) (hz : a.sz ≤ 400) (hR : Rm way a.sz v)
    (hn : ∀ M', WkAt M0 M' w way t s (a.fw way v) → Two t s M M' → D0.nx [some (.ref w), x1, some a.d] M') :
    w_Walker_block_b2 n D0 [some (.ref w), x1, some a.d] M := by
  obtain ⟨l1, l2⟩ := hR.len
  obtain ⟨nt, ns⟩ := h.nt
  obtain ⟨dp, fp0, hps, hlf, _⟩ := h.tp.ps
  have ldp := hlf.len
  have pass : ∀ d fp M', a.fw way v = ⟨v.tk, v.ps ++ [a]⟩ → StF M' a d fp → (∀ y ∈ fp, M y = none) → Xt M M' → D0.nx [some (.ref w), x1, some a.d] (put M' s (.lst (dp ++ [d]))) := fun d fp M' e hst hf x => by
    have T : Two t s M M' := fun b o _ _ q => x b o q
    have := hn (put M' s (.lst (dp ++ [d]))) ⟨by rw [put_ne ns]; exact x _ _ h.at_, by rw [e]; exact h.tp.pass hps x hst hf⟩ T.put_s
    exact this
  unfold w_Walker_block_b2
  cases a with
  | hold nm k pl =>
    have hd' := hold_d' (n := nm) (k := k) (pl := pl)
    rw [hd'] at pass ⊢
    try simp only [n_hold_ei, n_hold_ag, h.at_, wk_p, hps]
    walk_at "dl"
    try simp only [n_hold_ei, n_hold_ag, h.at_, wk_p, hps]
    walk_at "dl"
    try simp only [n_hold_ei, n_hold_ag, h.at_, wk_p, hps]
    walk_at "dl"
    try simp only [n_hold_ei, n_hold_ag, h.at_, wk_p, hps]
    walk_at "dl"
    try simp only [n_hold_ei, n_hold_ag, h.at_, wk_p, hps]
    walk_at "dl"
    try simp only [n_hold_ei, n_hold_ag, h.at_, wk_p, hps]
    walk_at "dl"
    try simp only [n_hold_ei, n_hold_ag, h.at_, wk_p, hps]
    walk_at "dl"
    try simp only [n_hold_ei, n_hold_ag, h.at_, wk_p, hps]
    walk_at "dl"
    try simp only [n_hold_ei, n_hold_ag, h.at_, wk_p, hps]
    walk_at "dl"
    try simp only [n_hold_ei, n_hold_ag, h.at_, wk_p, hps]
    walk_at "dl"
    refine ⟨.hold nm k pl, by rw [hd'], trivial, ho, fun d fp M' hst hf x => ?_⟩
    have hps' := x _ _ hps
    try simp only [hps']
    walk_at "dl"
    try simp only [hps']
    walk_at "dl"
    try simp only [hps']
    walk_at "dl"
    try simp only [hps']
    walk_at "dl"
    try simp only [hps']
    walk_at "dl"
    try simp only [hps']
    walk_at "dl"
    try simp only [hps']
    walk_at "dl"
    try simp only [hps']
    walk_at "dl"
    try simp only [hps']
    walk_at "dl"
    try simp only [hps']
    walk_at "dl"
    exact ⟨by rw [ldp]; omega, pass d fp M' (by rw [St.fw]) hst hf x⟩
  | act p nm pl as =>
    have hd' := act_d' (p := p) (nm := nm) (pl := pl) (as := as)
    rw [hd'] at pass ⊢
    try simp only [n_do_ei, n_do_ag, h.at_, wk_p, hps]
    walk_at "dl"
    try simp only [n_do_ei, n_do_ag, h.at_, wk_p, hps]
    walk_at "dl"
    try simp only [n_do_ei, n_do_ag, h.at_, wk_p, hps]
    walk_at "dl"
    try simp only [n_do_ei, n_do_ag, h.at_, wk_p, hps]
    walk_at "dl"
    try simp only [n_do_ei, n_do_ag, h.at_, wk_p, hps]
    walk_at "dl"
    try simp only [n_do_ei, n_do_ag, h.at_, wk_p, hps]
    walk_at "dl"
    try simp only [n_do_ei, n_do_ag, h.at_, wk_p, hps]
    walk_at "dl"
    try simp only [n_do_ei, n_do_ag, h.at_, wk_p, hps]
    walk_at "dl"
    try simp only [n_do_ei, n_do_ag, h.at_, wk_p, hps]
    walk_at "dl"
    try simp only [n_do_ei, n_do_ag, h.at_, wk_p, hps]
    walk_at "dl"
    refine ⟨.act p nm pl as, by rw [hd'], trivial, ho, fun d fp M' hst hf x => ?_⟩
    have hps' := x _ _ hps
    try simp only [hps']
    walk_at "dl"
    try simp only [hps']
    walk_at "dl"
    try simp only [hps']
    walk_at "dl"
    try simp only [hps']
    walk_at "dl"
    try simp only [hps']
    walk_at "dl"
    try simp only [hps']
    walk_at "dl"
    try simp only [hps']
    walk_at "dl"
    try simp only [hps']
    walk_at "dl"
    try simp only [hps']
    walk_at "dl"
    try simp only [hps']
    walk_at "dl"
    exact ⟨by rw [ldp]; omega, pass d fp M' (by rw [St.fw]) hst hf x⟩
  | either a b =>
    rw [St.ok] at ho
    rw [St.dep] at hd hd3
    rw [St.sz] at hz hR
    have e : (St.either a b).fw way v = if nxc way v.tk = true then stsFw way a (v.ch way) else stsFw way b (v.ch way) := by rw [St.fw]
    rw [e] at hn
    rw [either_d'] at hn ⊢
    have R1 : Rm way (stsSz a + stsSz b) (v.ch way) := hR.ch
    try simp only [h.at_]
    walk_at "dl"
    try simp only [h.at_]
    walk_at "dl"
    try simp only [h.at_]
    walk_at "dl"
    try simp only [h.at_]
    walk_at "dl"
    try simp only [h.at_]
    walk_at "dl"
    try simp only [h.at_]
    walk_at "dl"
    try simp only [h.at_]
    walk_at "dl"
    try simp only [h.at_]
    walk_at "dl"
    try simp only [h.at_]
    walk_at "dl"
    try simp only [h.at_]
    walk_at "dl"
    refine ⟨by decide, by decide, M0, w, t, s, way, v, rfl, h, l1, fun M1 h1 T1 => ?_⟩
    have call : ∀ (g : List St) (K : DK) (E : DX), stsOk g → stsDep g + 1 ≤ n → stsDep g ≤ 3 → stsSz g ≤ stsSz a + stsSz b → (∀ M', WkAt M0 M' w way t s (stsFw way g (v.ch way)) → Two t s M M' → K .non M') → sp_Walker_block n [.ref w, .lst (g.map St.d)] M1 K E := fun g K E h1' h2 h2' h3 h4 =>
      ⟨M0, w, t, s, _, g, way, v.ch way, rfl, h1, .inl rfl, hw, h1', h2, h2', by omega, R1.le h3, fun M' h5 h6 => h4 M' h5 (T1.trans h6)⟩
    cases hc : nxc way v.tk with
    | true =>
      rw [hc] at hn
      dsimp only
      try simp only [h1.at_]
      walk_at "dl"
      try simp only [h1.at_]
      walk_at "dl"
      try simp only [h1.at_]
      walk_at "dl"
      try simp only [h1.at_]
      walk_at "dl"
      try simp only [h1.at_]
      walk_at "dl"
      try simp only [h1.at_]
      walk_at "dl"
      try simp only [h1.at_]
      walk_at "dl"
      try simp only [h1.at_]
      walk_at "dl"
      try simp only [h1.at_]
      walk_at "dl"
      try simp only [h1.at_]
      walk_at "dl"
      exact call a _ _ ho.1 (by omega) (by omega) (by omega) fun M' h5 h6 => hn M' h5 h6
    | false =>
      rw [hc] at hn
      dsimp only
      try simp only [h1.at_]
      walk_at "dl"
      try simp only [h1.at_]
      walk_at "dl"
      try simp only [h1.at_]
      walk_at "dl"
      try simp only [h1.at_]
      walk_at "dl"
      try simp only [h1.at_]
      walk_at "dl"
      try simp only [h1.at_]
      walk_at "dl"
      try simp only [h1.at_]
      walk_at "dl"
      try simp only [h1.at_]
      walk_at "dl"
      try simp only [h1.at_]
      walk_at "dl"
      try simp only [h1.at_]
      walk_at "dl"
      exact call b _ _ ho.2 (by omega) (by omega) (by omega) fun M' h5 h6 => hn M' h5 h6
  | again b =>
    rw [St.ok] at ho
    rw [St.dep] at hd hd3
    rw [St.sz] at hz hR
    have e : (St.again b).fw way v = agn way (stsFw way b) (way.length + 1) v := by rw [St.fw]
    rw [e] at hn
    rw [again_d'] at hn ⊢
    try simp only [n_ag_ei']
    walk_at "dl"
    try simp only [n_ag_ei']
    walk_at "dl"
    try simp only [n_ag_ei']
    walk_at "dl"
    try simp only [n_ag_ei']
    walk_at "dl"
    try simp only [n_ag_ei']
    walk_at "dl"
    try simp only [n_ag_ei']
    walk_at "dl"
    try simp only [n_ag_ei']
    walk_at "dl"
    try simp only [n_ag_ei']
    walk_at "dl"
    try simp only [n_ag_ei']
    walk_at "dl"
    try simp only [n_ag_ei']
    walk_at "dl"
    refine ⟨fun k τ M' => τ = [some (.ref w), x1, some (.tup [.str (T "again"), .lst (b.map St.d)])] ∧ ∃ v', WkAt M0 M' w way t s v' ∧ Two t s M M' ∧ Rm way (stsSz b + 1) v' ∧ rr way v' ≤ k ∧ agn way (stsFw way b) (k + 1) v' = agn way (stsFw way b) (way.length + 1) v, ⟨way.length, rfl, v, h, Two.refl, hR, by unfold rr; omega, rfl⟩, ?_⟩
    rintro k τ M' ⟨rfl, v', h', T', R', hk, ea⟩
    obtain ⟨l1', l2'⟩ := R'.len
    try simp only [h'.at_]
    walk_at "dl"
    try simp only [h'.at_]
    walk_at "dl"
    try simp only [h'.at_]
    walk_at "dl"
    try simp only [h'.at_]
    walk_at "dl"
    try simp only [h'.at_]
    walk_at "dl"
    try simp only [h'.at_]
    walk_at "dl"
    try simp only [h'.at_]
    walk_at "dl"
    try simp only [h'.at_]
    walk_at "dl"
    try simp only [h'.at_]
    walk_at "dl"
    try simp only [h'.at_]
    walk_at "dl"
    refine ⟨by decide, M0, w, t, s, way, v', rfl, h', l1', fun M1 h1 T1 => ?_⟩
    have R1 : Rm way (stsSz b) (v'.ch way) := R'.ch
    rw [agn] at ea
    cases hc : nxc way v'.tk with
    | true =>
      rw [if_pos hc] at ea
      have hl := nxc_lt hc
      dsimp only
      unfold w_Walker_block_b1
      try simp only [h1.at_]
      walk_at "dl"
      try simp only [h1.at_]
      walk_at "dl"
      try simp only [h1.at_]
      walk_at "dl"
      try simp only [h1.at_]
      walk_at "dl"
      try simp only [h1.at_]
      walk_at "dl"
      try simp only [h1.at_]
      walk_at "dl"
      try simp only [h1.at_]
      walk_at "dl"
      try simp only [h1.at_]
      walk_at "dl"
      try simp only [h1.at_]
      walk_at "dl"
      try simp only [h1.at_]
      walk_at "dl"
      refine ⟨by decide, M0, w, t, s, _, b, way, v'.ch way, rfl, h1, .inl rfl, hw, ho, by omega, by omega, by omega, R1, fun M2 h5 h6 => ?_⟩
      have g := (stsGr way b (v'.ch way)).rr
      have e1 : rr way (v'.ch way) + 1 ≤ rr way v' := by unfold rr Wk.ch; rw [List.length_append, List.length_singleton]; omega
      obtain ⟨k', rfl⟩ : ∃ k', k = k' + 1 := ⟨k - 1, by omega⟩
      exact ⟨k', by omega, rfl, _, h5, (T'.trans T1).trans h6, R'.turn hc (stsGr way b _), by omega, ea⟩
    | false =>
      rw [if_neg (by rw [hc]; decide)] at ea
      rw [← ea] at hn
      dsimp only
      exact hn M1 h1 (T'.trans T1)
theorem WkAt.start {M0 M : Mu} {w t s : Addr} {way : List Bool} {v : Wk} {b : List St} (h : WkAt M0 M w way t s v) : WkAt M0 M w way t s (stsFw way (b.take 0) v) := by rw [List.take_zero, stsFw]; exact h
theorem p_Walker_block (n : Nat) : ∀ ds M Q E, sp_Walker_block (n + 1) ds M Q E → w_Walker_block n (Ret Q E) (ds.map some ++ List.replicate (3 - 2) none) M := by
  rintro ds M Q E ⟨M0, w, t, s, x, b, way, v, rfl, h, hx, hw, ho, hd, hd3, hz, hR, hQ⟩
  unfold w_Walker_block
  let I : Nat → DSt → Mu → Prop := fun k τ M' => (∃ x2, τ = [some (.ref w), some x, x2]) ∧ WkAt M0 M' w way t s (stsFw way (b.take k) v) ∧ Two t s M M'
  have step : ∀ {D0 : DEnds} k a M', b[k]? = some a → WkAt M0 M' w way t s (stsFw way (b.take k) v) → Two t s M M' → (∀ τ2 M2, I (k + 1) τ2 M2 → D0.nx τ2 M2) → w_Walker_block_b2 n D0 [some (.ref w), some x, some a.d] M' := by
    intro D0 k a M' ha h' T' hn
    have hm := List.mem_of_getElem? ha
    obtain ⟨h1, h2, h2', h3⟩ := (show a.ok ∧ a.dep ≤ n ∧ a.dep ≤ 3 ∧ a.sz ≤ 400 from by
      have q := stsDep_le.mp (Nat.le_refl (stsDep b)) a hm
      exact ⟨stsOk_all.mp ho a hm, by omega, by omega, Nat.le_trans (sz_mem hm) hz⟩)
    have hsz : stsSz (b.take k) + a.sz ≤ stsSz b := by
      have e := stsSz_app (a := b.take k) (b := b.drop k)
      rw [List.take_append_drop] at e
      have hk := (List.getElem?_eq_some_iff.mp ha).1
      have e2 : b.drop k = a :: b.drop (k + 1) := by
        rw [List.drop_eq_getElem_cons hk, (List.getElem?_eq_some_iff.mp ha).2]
      rw [e2, stsSz] at e
      omega
    have R' : Rm way a.sz (stsFw way (b.take k) v) := (hR.le hsz).go (stsGr way (b.take k) v)
    refine wk_b2 h' hw h1 h2 h2' h3 R' fun M2 h5 h6 => hn _ _ ⟨⟨_, rfl⟩, by rw [stsFw_take ha]; exact h5, T'.trans h6⟩
  have fin : ∀ τ M', I b.length τ M' → (Ret Q E).nx τ M' := by
    rintro τ M' ⟨⟨x2, rfl⟩, h', T'⟩
    rw [List.take_length] at h'
    exact hQ M' h' T'
  rcases hx with rfl | ⟨a, rfl, ha, n1, n2⟩
  · try simp only [dOrS]
    walk_at "dl"
    try simp only [dOrS]
    walk_at "dl"
    left
    walk_at "dl"
    refine wFor_by I ⟨⟨_, rfl⟩, h.start, Two.refl⟩ ?_ fun τ M' h => ?_
    · rintro k d τ M' hdk ⟨⟨x2, rfl⟩, h', T'⟩ nxt hn
      obtain ⟨a, ha, rfl⟩ := map_at hdk
      walk_at "dl"
      exact step k a M' ha h' T' hn
    · rw [List.length_map] at h
      exact fin τ M' h
  · try simp only [dOrS]
    walk_at "dl"
    try simp only [dOrS]
    walk_at "dl"
    right
    try simp only [ha]
    walk_at "dl"
    try simp only [ha]
    walk_at "dl"
    try simp only [ha]
    walk_at "dl"
    try simp only [ha]
    walk_at "dl"
    try simp only [ha]
    walk_at "dl"
    try simp only [ha]
    walk_at "dl"
    try simp only [ha]
    walk_at "dl"
    try simp only [ha]
    walk_at "dl"
    try simp only [ha]
    walk_at "dl"
    try simp only [ha]
    walk_at "dl"
    refine wForR_by I ⟨⟨_, rfl⟩, h.start, Two.refl⟩ (fun k τ M' h => h.2.2 a _ n1 n2 ha) ?_ fun τ M' h => ?_
    · rintro k d τ M' hdk ⟨⟨x2, rfl⟩, h', T'⟩ nxt hn
      obtain ⟨a, ha, rfl⟩ := map_at hdk
      walk_at "dl"
      exact step k a M' ha h' T' hn
    · rw [List.length_map] at h
      exact fin τ M' h
/-! ### exact and straight, of a frozen program -/
structure Rdy (b : List St) (way : List Bool) : Prop where
  ok : stsOk b
  dep : stsDep b ≤ 3
  sz : stsSz b ≤ 400
  len : way.length ≤ 100000
  rm : Rm way (stsSz b) ⟨[], []⟩
def walkOf (way : List Bool) (b : List St) : Wk := stsFw way b ⟨[], []⟩
def LstAt (M : Mu) (x : D) (b : List St) : Prop := x = .lst (b.map St.d) ∨ ∃ a, x = .ref a ∧ M a = some (.lst (b.map St.d))
def sp_walked_along : DSp := fun ds M Q _ => ∃ (x : D) (b : List St) (way : List Bool), ds = [x, .lst (way.map D.bl)] ∧ LstAt M x b ∧ Rdy b way ∧ ∀ w t s M', WkAt M M' w way t s (walkOf way b) → Xt M M' → Q (.ref w) M'
def w_walked_along : DTS := dSeq (dSet 2 (dMake "Walker" sp_Walker_init (daCons (dVar 1) (daNil)))) (dSeq (dDrop (dMeth "Walker" "block" (sp_Walker_block 4) (dVar 2) (daCons (dVar 0) (daNil)))) (dRet (dVar 2)))
theorem p_walked_along : ∀ ds M Q E, sp_walked_along ds M Q E → w_walked_along (Ret Q E) (ds.map some ++ List.replicate (3 - 2) none) M := by
  rintro ds M Q E ⟨x, b, way, rfl, hx, hb, hQ⟩
  unfold w_walked_along
  walk_at "dl"
  refine fun w hw => ⟨w, way, rfl, put_same, fun t s M1 h1 ht hs hx1 => ⟨rfl, ?_⟩⟩
  have nwt : t ≠ w := fun z => by rw [z, put_same] at ht; cases ht
  have nws : s ≠ w := fun z => by rw [z, put_same] at hs; cases hs
  rw [put_ne nwt] at ht
  rw [put_ne nws] at hs
  have X1 : Xt M M1 := fun c o e => by
    have nc : c ≠ w := fun z => by rw [z, hw] at e; cases e
    exact hx1 c o nc (by rw [put_ne nc]; exact e)
  have h1 := h1 M X1 ht hs
  have hp : PrgAt M1 x b t s := hx.elim .inl fun ⟨a, e, ha⟩ => .inr ⟨a, e, X1 _ _ ha, (fun z => by rw [z, ht] at ha; cases ha), (fun z => by rw [z, hs] at ha; cases ha)⟩
  try simp only [h1.at_]
  walk_at "dl"
  try simp only [h1.at_]
  walk_at "dl"
  try simp only [h1.at_]
  walk_at "dl"
  try simp only [h1.at_]
  walk_at "dl"
  try simp only [h1.at_]
  walk_at "dl"
  try simp only [h1.at_]
  walk_at "dl"
  try simp only [h1.at_]
  walk_at "dl"
  try simp only [h1.at_]
  walk_at "dl"
  try simp only [h1.at_]
  walk_at "dl"
  try simp only [h1.at_]
  walk_at "dl"
  refine ⟨by decide, M, w, t, s, _, b, way, ⟨[], []⟩, rfl, h1, hp, hb.len, hb.ok, by have := hb.dep; omega, hb.dep, hb.sz, hb.rm, fun M2 h2 T2 => ?_⟩
  walk_at "dl"
  exact hQ w t s M2 h2 h2.tp.sub
def sp_straight : DSp := fun ds M Q _ => ∃ (x : D) (b : List St) (way : List Bool), ds = [x, .lst (way.map D.bl)] ∧ LstAt M x b ∧ Rdy b way ∧ ∀ s dp fp M', M' s = some (.lst dp) → LF (StF M') (walkOf way b).ps dp fp → (∀ y ∈ fp, M y = none ∧ y ≠ s) → M s = none → Xt M M' → Q (.ref s) M'
def w_straight : DTS := dRet (dFld "Walker" "passed" (dCall sp_walked_along (daCons (dVar 0) (daCons (dVar 1) (daNil)))))
theorem p_straight : ∀ ds M Q E, sp_straight ds M Q E → w_straight (Ret Q E) (ds.map some ++ List.replicate (2 - 2) none) M := by
  rintro ds M Q E ⟨x, b, way, rfl, hx, hb, hQ⟩
  unfold w_straight
  walk_at "dl"
  refine ⟨x, b, way, rfl, hx, hb, fun w t s M' h x => ?_⟩
  obtain ⟨dp, fp, h1, h2, h3⟩ := h.tp.ps
  try simp only [h.at_, wk_p]
  walk_at "dl"
  try simp only [h.at_, wk_p]
  walk_at "dl"
  try simp only [h.at_, wk_p]
  walk_at "dl"
  try simp only [h.at_, wk_p]
  walk_at "dl"
  try simp only [h.at_, wk_p]
  walk_at "dl"
  try simp only [h.at_, wk_p]
  walk_at "dl"
  try simp only [h.at_, wk_p]
  walk_at "dl"
  try simp only [h.at_, wk_p]
  walk_at "dl"
  try simp only [h.at_, wk_p]
  walk_at "dl"
  try simp only [h.at_, wk_p]
  walk_at "dl"
  exact hQ s dp fp M' h1 h2 (fun y hy => ⟨(h3 y hy).1, (h3 y hy).2.2⟩) h.tp.ns x
end DL

namespace DL
open PySem L2
local macro_rules | `(tactic| walk_at "dl") => `(tactic| try simp (config := { proj := false }) only [↓ex_mk, ↓nx_mk, ↓rt_mk, ↓bk_mk, ↓ct_mk, ↓xc_mk, ↓u_c, ↓u_op, ↓u_un, ↓u_and, ↓u_or, ↓u_not, ↓u_if, ↓u_anil, ↓u_acons, ↓u_lst, ↓u_lstM, ↓u_tup, ↓u_call, ↓u_sl, ↓u_onone, ↓u_cb, ↓u_mt, ↓u_mt0, ↓u_pass, ↓u_seq, ↓u_set, ↓u_asg, ↓u_drop, ↓u_ret, ↓u_retN, ↓u_ifs, ↓u_brk, ↓u_cnt, ↓u_for, ↓u_gname, ↓u_gsub, ↓u_fs, ↓u_fmt, ↓u_js0, ↓u_js, ↓u_em, ↓u_yes, ↓u_never, ↓u_ref, ↓u_forR, ↓u_star, ↓u_dict, ↓u_dict0, ↓u_dp0, ↓u_dp1, ↓u_forK, ↓u_lock, ↓u_kd, ↓u_fld, ↓u_setF, ↓u_make, ↓u_binL, ↓u_binR, ↓u_inO, ↓u_getO, ↓u_setO, ↓u_augO, ↓u_prp, ↓u_inv, ↓u_meth, ↓u_keys, ↓u_try, ↓u_cm, ↓u_makeV, ↓r_enum, ↓r_own, ↓u_raise, ↓u_tryas, ↓u_ca, ↓u_xf, ↓u_idxC, su_mk,
  ↓r_var, ↓r_test, ↓r_andV, ↓r_orV, ↓r_notV, ↓r_tru, ↓r_frz, ↓r_osome, ↓r_any, ↓r_scr, scr_c, ↓r_rng1, ↓r_rng2, ↓r_fz, wipeD,
  onSome_s, onBl_b, onInt_i, onStr_s, onVar_s, onML_l, onML2_l, onML2_d, onDK_d, fmt_s, fmt_i, tru_n, tru_b, tru_i, tru_s, tru_l, tru_t, tru_r, frz_r, sl_s, sl_l, sl_t, sl_r, add_i, add_s, add_l, add_t, add_rl, add_lr, sub_i, mul_i, div_i, mod_i, pow_i, neg_i, cmp_i, eq_i, eq_s, eq_b, eq_n, eq_l, eq_t, eq_rl, eq_lr, eq_ni, eq_in, eq_ns, eq_sn, eq_nb, eq_bn, eq_is, eq_si,
  ix_l, ix_t, ix_s, ix_ri, ix_rs, in_ss, in_l, in_t, in_ir, in_sr, isB_t, isB_f, ltS_s, gtS_s, sorted_l, keyK_s, keyK_i, u_dget, lenOR_r, listOR_r, isn_n, isn_b, isn_i, isn_s, isn_r, isn_l, isn_t, len_s, len_c, len_l, len_t, len_r, int_i, int_b, min_ii, max_ii, list_l, list_t, list_r, list_c, listM_l, listM_c, listM_t, listM_r, isi_, isi_k, ty_n, ty_b, ty_i, ty_s, ty_l, ty_t, it_s, it_l, it_r, itM_l, itM_d, app_r, rev_r, ends_s, ins_r, set_rs, str_i, str_s, ext_l, pop_r, clr_r, star_l, star_t, star_r, onRef_r, onML3_l, onML3_d, onML3_f, onDR_d, onDR_f, onFK_f, join_l, join_t, join_r, starts_s, r_gtup, r_glst, r_gnil, r_gcons, set_r, items_s, items_l, items_t, rng1_i, rng2_i, fz_r, addM_l, addM_rl, onIns_i, onLst_l, isIns_r, isInsM_i, noF_r, noFM_i, rows_r, lenO_r, listO_r, listOM_r, isCK_i, isCK_l, isC_r, isC_s, isC_i, isC_b, isC_n, isC_l, isC_t, putG_0, putG_1, lk_1, onCl_c, onEnum_l, index_l, strO_r, cmpO_r, pop1_r, tuple_l, tuple_t, divmod_i, upper_s, indexT_t, onExc_e, isE_t, isE_c, isE_v, zip_1,
  List.map_cons, List.map_nil, List.cons_append, List.nil_append, List.length_cons, List.length_nil, List.replicate, List.getElem?_cons_zero, List.getElem?_cons_succ, List.set_cons_zero, List.set_cons_succ, id, decide_eq_true_eq, if_true, if_false, Bool.false_eq_true, reduceIte, Bool.not_true, Bool.not_false, true_and, Nat.reduceAdd, Nat.reduceSub, Int.reduceToNat, Int.toNat_natCast, put_same, put_put, atI_0, atI_1, atI_2, atI_3, atI_4, ixN_40, ixN_41, ixN_42, ixN_43])
/-! ### only what is taken of a way counts -/
def gd (l : List Bool) (i : Nat) : Bool := (l[i]?).getD false
structure Pr (s t : Wk) : Prop where
  le : s.tk.length ≤ t.tk.length
  at_ : ∀ i, i < s.tk.length → gd t.tk i = gd s.tk i
theorem Pr.refl {s : Wk} : Pr s s := ⟨Nat.le_refl _, fun _ _ => rfl⟩
theorem Pr.trans {s t u : Wk} (a : Pr s t) (b : Pr t u) : Pr s u := ⟨Nat.le_trans a.le b.le, fun i h => by rw [b.at_ i (Nat.lt_of_lt_of_le h a.le), a.at_ i h]⟩
def Ag (w' : List Bool) (s t : Wk) : Prop := ∀ i, s.tk.length ≤ i → i < t.tk.length → gd w' i = gd t.tk i
theorem Ag.fst {w' : List Bool} {s t u : Wk} (h : Ag w' s u) (b : Pr t u) : Ag w' s t := fun i h1 h2 => by rw [h i h1 (Nat.lt_of_lt_of_le h2 b.le), b.at_ i h2]
theorem Ag.snd {w' : List Bool} {s t u : Wk} (h : Ag w' s u) (a : Pr s t) : Ag w' t u := fun i h1 h2 => h i (Nat.le_trans a.le h1) h2
def Fam (F : List Bool → Wk → Wk) : Prop := ∀ w s, Pr s (F w s) ∧ ∀ w', Ag w' s (F w s) → F w' s = F w s
theorem ch_len {w : List Bool} {s : Wk} : (s.ch w).tk.length = s.tk.length + 1 := by unfold Wk.ch; rw [List.length_append]; rfl
theorem ch_pr {w : List Bool} {s : Wk} : Pr s (s.ch w) := ⟨by rw [ch_len]; omega, fun i h => by
  unfold gd Wk.ch
  rw [List.getElem?_append_left h]⟩
theorem ch_ag {w w' : List Bool} {s : Wk} (h : Ag w' s (s.ch w)) : nxc w' s.tk = nxc w s.tk ∧ s.ch w' = s.ch w := by
  have e := h s.tk.length (Nat.le_refl _) (by rw [ch_len]; omega)
  have e2 : gd (s.ch w).tk s.tk.length = nxc w s.tk := by
    unfold gd Wk.ch
    rw [List.getElem?_append_right (Nat.le_refl _), Nat.sub_self]
    rfl
  have e3 : nxc w' s.tk = nxc w s.tk := by rw [← e2, ← e]; rfl
  exact ⟨e3, by unfold Wk.ch; rw [e3]⟩
theorem Fam.comp {F G : List Bool → Wk → Wk} (hf : Fam F) (hg : Fam G) : Fam fun w s => G w (F w s) := fun w s => by
  obtain ⟨p1, a1⟩ := hf w s
  obtain ⟨p2, a2⟩ := hg w (F w s)
  refine ⟨p1.trans p2, fun w' h => ?_⟩
  show G w' (F w' s) = _
  rw [a1 w' (h.fst p2), a2 w' (h.snd p1)]
theorem agn_pr {F : List Bool → Wk → Wk} (hf : Fam F) (w : List Bool) : ∀ (n : Nat) (s : Wk), Pr s (agn w (F w) n s)
  | 0, s => Pr.refl
  | n + 1, s => by
    rw [agn]
    split
    · exact ch_pr.trans ((hf w _).1.trans (agn_pr hf w n _))
    · exact ch_pr
theorem Pr.rr {s t : Wk} (h : Pr s t) (w : List Bool) : DL.rr w t ≤ DL.rr w s := by
  have := h.le
  unfold DL.rr; omega
theorem ch_rr {w : List Bool} {s : Wk} (h : nxc w s.tk = true) : rr w (s.ch w) + 1 ≤ rr w s := by
  have := nxc_lt h
  unfold rr
  rw [ch_len]; omega
theorem agn_ag {F : List Bool → Wk → Wk} (hf : Fam F) (w w' : List Bool) : ∀ (n m : Nat) (s : Wk), rr w s + 1 ≤ n → rr w' s + 1 ≤ m → Ag w' s (agn w (F w) n s) → agn w' (F w') m s = agn w (F w) n s
  | 0, _, s, h, _, _ => absurd h (by omega)
  | _ + 1, 0, s, _, h, _ => absurd h (by omega)
  | n + 1, m + 1, s, h1, h2, h => by
    have p : Pr (s.ch w) (agn w (F w) (n + 1) s) := by
      rw [agn]
      split
      · exact (hf w _).1.trans (agn_pr hf w n _)
      · exact Pr.refl
    obtain ⟨e1, e2⟩ := ch_ag (h.fst p)
    have h3 := h.snd (ch_pr (w := w))
    rw [agn, agn, e1]
    rw [agn] at h3
    by_cases hc : nxc w s.tk = true
    · rw [if_pos hc] at h3 ⊢
      rw [if_pos hc, e2]
      have r1 := ch_rr hc
      have r2 := ch_rr (w := w') (s := s) (by rw [e1]; exact hc)
      rw [e2] at r2
      obtain ⟨p1, a1⟩ := hf w (s.ch w)
      have p2 := agn_pr hf w n (F w (s.ch w))
      rw [a1 w' (h3.fst p2)]
      exact agn_ag hf w w' n m _ (by have := p1.rr w; omega) (by have := p1.rr w'; omega) (h3.snd p1)
    · rw [if_neg hc, if_neg hc, e2]
theorem fam_agn {F : List Bool → Wk → Wk} (hf : Fam F) : Fam fun w s => agn w (F w) (w.length + 1) s := fun w s =>
  ⟨agn_pr hf w _ s, fun w' h => agn_ag hf w w' _ _ s (by unfold rr; omega) (by unfold rr; omega) h⟩
theorem fam_either {F G : List Bool → Wk → Wk} (hf : Fam F) (hg : Fam G) : Fam fun w s => if nxc w s.tk = true then F w (s.ch w) else G w (s.ch w) := fun w s => by
  dsimp only
  by_cases hc : nxc w s.tk = true
  · rw [if_pos hc]
    obtain ⟨p1, a1⟩ := hf w (s.ch w)
    refine ⟨ch_pr.trans p1, fun w' h => ?_⟩
    obtain ⟨e1, e2⟩ := ch_ag (h.fst p1)
    rw [e1, if_pos hc, e2]
    exact a1 w' (h.snd ch_pr)
  · rw [if_neg hc]
    obtain ⟨p1, a1⟩ := hg w (s.ch w)
    refine ⟨ch_pr.trans p1, fun w' h => ?_⟩
    obtain ⟨e1, e2⟩ := ch_ag (h.fst p1)
    rw [e1, if_neg hc, e2]
    exact a1 w' (h.snd ch_pr)
mutual
theorem St.fam : ∀ x : St, Fam fun w => x.fw w
  | .either a b => by
    have e : (fun w => (St.either a b).fw w) = fun w s => if nxc w s.tk = true then stsFw w a (s.ch w) else stsFw w b (s.ch w) := by funext w; rw [St.fw]
    rw [e]
    exact fam_either (stsFam a) (stsFam b)
  | .again b => by
    have e : (fun w => (St.again b).fw w) = fun w s => agn w (stsFw w b) (w.length + 1) s := by funext w; rw [St.fw]
    rw [e]
    exact fam_agn (stsFam b)
  | .hold n k pl => by
    intro w s
    have e : ∀ w, (St.hold n k pl).fw w s = ⟨s.tk, s.ps ++ [.hold n k pl]⟩ := fun w => by rw [St.fw]
    refine ⟨by dsimp only; rw [e]; exact ⟨Nat.le_refl _, fun _ _ => rfl⟩, fun w' _ => by dsimp only; rw [e, e]⟩
  | .act p nm pl as => by
    intro w s
    have e : ∀ w, (St.act p nm pl as).fw w s = ⟨s.tk, s.ps ++ [.act p nm pl as]⟩ := fun w => by rw [St.fw]
    refine ⟨by dsimp only; rw [e]; exact ⟨Nat.le_refl _, fun _ _ => rfl⟩, fun w' _ => by dsimp only; rw [e, e]⟩
theorem stsFam : ∀ b : List St, Fam fun w => stsFw w b
  | [] => by
    intro w s
    have e : ∀ w, stsFw w [] s = s := fun w => by rw [stsFw]
    refine ⟨by dsimp only; rw [e]; exact Pr.refl, fun w' _ => by dsimp only; rw [e, e]⟩
  | x :: xs => by
    have e : (fun w => stsFw w (x :: xs)) = fun w s => stsFw w xs (x.fw w s) := by funext w; rw [stsFw]
    rw [e]
    exact (St.fam x).comp (stsFam xs)
end
/-- a way that answers as this walk's own choices do leads to this walk -/
theorem walk_ag {w w' : List Bool} {b : List St} (h : ∀ i, i < (walkOf w b).tk.length → gd w' i = gd (walkOf w b).tk i) : walkOf w' b = walkOf w b :=
  (stsFam b w ⟨[], []⟩).2 w' fun i _ hi => h i hi
theorem walk_own {w : List Bool} {b : List St} : walkOf (walkOf w b).tk b = walkOf w b := walk_ag fun _ _ => rfl
theorem walk_long {w z : List Bool} {b : List St} : walkOf ((walkOf w b).tk ++ z) b = walkOf w b := walk_ag fun i h => by unfold gd; rw [List.getElem?_append_left h]
theorem walk_cut {w : List Bool} {b : List St} {k : Nat} (h : ∀ i, k ≤ i → gd (walkOf w b).tk i = false) : walkOf ((walkOf w b).tk.take k) b = walkOf w b := walk_ag fun i _ => by
  by_cases hi : i < k
  · unfold gd; rw [List.getElem?_take_of_lt hi]
  · rw [h i (by omega)]
    unfold gd
    rw [List.getElem?_eq_none (by rw [List.length_take]; omega)]
    rfl
theorem walk_len {w : List Bool} {b : List St} (hb : stsSz b ≤ 19) (hw : w.length ≤ 40) : (walkOf w b).tk.length ≤ 2000 ∧ (walkOf w b).ps.length ≤ 2000 := by
  have g := (stsGr w b ⟨[], []⟩).le
  have r : rr w ⟨[], []⟩ ≤ 40 := by unfold rr; simp; omega
  have m : stsSz b * (1 + (rr w ⟨[], []⟩ - rr w (stsFw w b ⟨[], []⟩))) ≤ 19 * 41 := Nat.mul_le_mul hb (by omega)
  have e1 : (⟨[], []⟩ : Wk).tk.length = 0 := rfl
  have e2 : (⟨[], []⟩ : Wk).ps.length = 0 := rfl
  rw [e1, e2] at g
  unfold walkOf
  omega
theorem rm_of {w : List Bool} {b : List St} (hb : stsSz b ≤ 19) (hw : w.length ≤ 20000) : Rm w (stsSz b) ⟨[], []⟩ := by
  unfold Rm
  have r : rr w ⟨[], []⟩ ≤ 20000 := by unfold rr; simp; omega
  have m : stsSz b * (1 + rr w ⟨[], []⟩) ≤ 19 * 20001 := Nat.mul_le_mul hb (by omega)
  have e1 : (⟨[], []⟩ : Wk).tk.length = 0 := rfl
  have e2 : (⟨[], []⟩ : Wk).ps.length = 0 := rfl
  rw [e1, e2]
  omega
end DL

namespace DL
open PySem L2
local macro_rules | `(tactic| walk_at "dl") => `(tactic| try simp (config := { proj := false }) only [↓ex_mk, ↓nx_mk, ↓rt_mk, ↓bk_mk, ↓ct_mk, ↓xc_mk, ↓u_c, ↓u_op, ↓u_un, ↓u_and, ↓u_or, ↓u_not, ↓u_if, ↓u_anil, ↓u_acons, ↓u_lst, ↓u_lstM, ↓u_tup, ↓u_call, ↓u_sl, ↓u_onone, ↓u_cb, ↓u_mt, ↓u_mt0, ↓u_pass, ↓u_seq, ↓u_set, ↓u_asg, ↓u_drop, ↓u_ret, ↓u_retN, ↓u_ifs, ↓u_brk, ↓u_cnt, ↓u_for, ↓u_gname, ↓u_gsub, ↓u_fs, ↓u_fmt, ↓u_js0, ↓u_js, ↓u_em, ↓u_yes, ↓u_never, ↓u_ref, ↓u_forR, ↓u_star, ↓u_dict, ↓u_dict0, ↓u_dp0, ↓u_dp1, ↓u_forK, ↓u_lock, ↓u_kd, ↓u_fld, ↓u_setF, ↓u_make, ↓u_binL, ↓u_binR, ↓u_inO, ↓u_getO, ↓u_setO, ↓u_augO, ↓u_prp, ↓u_inv, ↓u_meth, ↓u_keys, ↓u_try, ↓u_cm, ↓u_makeV, ↓r_enum, ↓r_own, ↓u_raise, ↓u_tryas, ↓u_ca, ↓u_xf, ↓u_idxC, su_mk,
  ↓r_var, ↓r_test, ↓r_andV, ↓r_orV, ↓r_notV, ↓r_tru, ↓r_frz, ↓r_osome, ↓r_any, ↓r_scr, scr_c, ↓r_rng1, ↓r_rng2, ↓r_fz, wipeD,
  onSome_s, onBl_b, onInt_i, onStr_s, onVar_s, onML_l, onML2_l, onML2_d, onDK_d, fmt_s, fmt_i, tru_n, tru_b, tru_i, tru_s, tru_l, tru_t, tru_r, frz_r, sl_s, sl_l, sl_t, sl_r, add_i, add_s, add_l, add_t, add_rl, add_lr, sub_i, mul_i, div_i, mod_i, pow_i, neg_i, cmp_i, eq_i, eq_s, eq_b, eq_n, eq_l, eq_t, eq_rl, eq_lr, eq_ni, eq_in, eq_ns, eq_sn, eq_nb, eq_bn, eq_is, eq_si,
  ix_l, ix_t, ix_s, ix_ri, ix_rs, in_ss, in_l, in_t, in_ir, in_sr, isB_t, isB_f, ltS_s, gtS_s, sorted_l, keyK_s, keyK_i, u_dget, lenOR_r, listOR_r, isn_n, isn_b, isn_i, isn_s, isn_r, isn_l, isn_t, len_s, len_c, len_l, len_t, len_r, int_i, int_b, min_ii, max_ii, list_l, list_t, list_r, list_c, listM_l, listM_c, listM_t, listM_r, isi_, isi_k, ty_n, ty_b, ty_i, ty_s, ty_l, ty_t, it_s, it_l, it_r, itM_l, itM_d, app_r, rev_r, ends_s, ins_r, set_rs, str_i, str_s, ext_l, pop_r, clr_r, star_l, star_t, star_r, onRef_r, onML3_l, onML3_d, onML3_f, onDR_d, onDR_f, onFK_f, join_l, join_t, join_r, starts_s, r_gtup, r_glst, r_gnil, r_gcons, set_r, items_s, items_l, items_t, rng1_i, rng2_i, fz_r, addM_l, addM_rl, onIns_i, onLst_l, isIns_r, isInsM_i, noF_r, noFM_i, rows_r, lenO_r, listO_r, listOM_r, isCK_i, isCK_l, isC_r, isC_s, isC_i, isC_b, isC_n, isC_l, isC_t, putG_0, putG_1, lk_1, onCl_c, onEnum_l, index_l, strO_r, cmpO_r, pop1_r, tuple_l, tuple_t, divmod_i, upper_s, indexT_t, onExc_e, isE_t, isE_c, isE_v, zip_1,
  List.map_cons, List.map_nil, List.cons_append, List.nil_append, List.length_cons, List.length_nil, List.replicate, List.getElem?_cons_zero, List.getElem?_cons_succ, List.set_cons_zero, List.set_cons_succ, id, decide_eq_true_eq, if_true, if_false, Bool.false_eq_true, reduceIte, Bool.not_true, Bool.not_false, true_and, Nat.reduceAdd, Nat.reduceSub, Int.reduceToNat, Int.toNat_natCast, put_same, put_put, atI_0, atI_1, atI_2, atI_3, atI_4, ixN_40, ixN_41, ixN_42, ixN_43])
theorem act_d {p nm pl : Tx} {as : List Ar} : (St.act p nm pl as).d = .tup [.str [100, 111], (Ar.call p nm pl as).d] := by rw [St.d]
theorem again_d {b : List St} : (St.again b).d = .tup [.str (T "again"), .lst (b.map St.d)] := by rw [St.d, stsD_map]
theorem either_d {a b : List St} : (St.either a b).d = .tup [.str (T "either"), .lst (a.map St.d), .lst (b.map St.d)] := by rw [St.d, stsD_map, stsD_map]
theorem hold_d {n k pl : Tx} : (St.hold n k pl).d = .tup [.str (T "hold"), .str n, .str k, .str pl] := by rw [St.d]
theorem n_do_hold : ([100, 111] = T "hold") = False := eq_false (by decide +kernel)
theorem n_ag_hold : (T "again" = T "hold") = False := eq_false (by decide +kernel)
theorem n_ei_hold : (T "either" = T "hold") = False := eq_false (by decide +kernel)
theorem n_ag_do : (T "again" = [100, 111]) = False := eq_false (by decide +kernel)
theorem n_ei_do : (T "either" = [100, 111]) = False := eq_false (by decide +kernel)
theorem n_ei_ag : (T "either" = T "again") = False := eq_false (by decide +kernel)
theorem n_ag_ei : (T "again" = T "either") = False := eq_false (by decide +kernel)
theorem tl_ge {l : List Tx} : l.length ≤ tl l := by unfold tl; omega
theorem tl_part {l : List Tx} {t : Tx} (h : t ∈ l) : t.length ≤ tl l := by
  obtain ⟨x, y, rfl⟩ := List.append_of_mem h
  rw [tl_app, tl_cons]; omega
/-! ### copies -/
def sp_l_copy (n : Nat) : DSp := fun ds M Q _ => ∃ (x : D) (b : List St), ds = [x] ∧ BlkAt M x b ∧ stsOk b ∧ stsDep b + 1 ≤ n ∧ stsSz b ≤ 400 ∧ ∀ q M', M q = none → M' q = some (.lst (b.map St.d)) → Xt M M' → Q (.ref q) M'
def w_l_copy_b1 (n : Nat) : DTS := dIfS (dTest (dOp gEq (dOp gIx (dVar 2) (dC (.int 0))) (dC (.str (T "hold"))))) (dDrop (dMt "list" gAppend (dVar 1) (daCons (dVar 2) (daNil)))) (dIfS (dTest (dOp gEq (dOp gIx (dVar 2) (dC (.int 0))) (dC (.str [100, 111])))) (dDrop (dMt "list" gAppend (dVar 1) (daCons (dTup (daCons (dC (.str [100, 111])) (daCons (dFrzT (dCall (sp_l_copy_call 5) (daCons (dOp gIx (dVar 2) (dC (.int 1))) (daNil)))) (daNil)))) (daNil)))) (dIfS (dTest (dOp gEq (dOp gIx (dVar 2) (dC (.int 0))) (dC (.str (T "again"))))) (dDrop (dMt "list" gAppend (dVar 1) (daCons (dTup (daCons (dC (.str (T "again"))) (daCons (dFrz (dCall (sp_l_copy n) (daCons (dOp gIx (dVar 2) (dC (.int 1))) (daNil)))) (daNil)))) (daNil)))) (dDrop (dMt "list" gAppend (dVar 1) (daCons (dTup (daCons (dC (.str (T "either"))) (daCons (dFrz (dCall (sp_l_copy n) (daCons (dOp gIx (dVar 2) (dC (.int 1))) (daNil)))) (daCons (dFrz (dCall (sp_l_copy n) (daCons (dOp gIx (dVar 2) (dC (.int 2))) (daNil)))) (daNil))))) (daNil))))))
def w_l_copy (n : Nat) : DTS := dSeq (dSet 1 (dLstM (daNil))) (dSeq (dOrS (dFor (diAny (dVar 0)) (dgName 2) (w_l_copy_b1 n)) (dForR (diRef (dVar 0)) (dgName 2) (w_l_copy_b1 n))) (dRet (dVar 1)))
theorem no_lcopy0 : ∀ ds M Q E, ¬ sp_l_copy 0 ds M Q E := by
  rintro ds M Q E ⟨x, b, _, _, _, h, _⟩
  omega
theorem lcopy_b {n : Nat} {x0 : Option D} {u : Addr} {s : St} {acc : List D} {M : Mu} {D0 : DEnds} (ho : s.ok) (hd : s.dep ≤ n) (hz : s.sz ≤ 400) (hu : M u = some (.lst acc)) (hl : acc.length ≤ 1000)
    (hn : ∀ M', Xt M M' → M' u = some (.lst acc) → D0.nx [x0, some (.ref u), some s.d] (put M' u (.lst (acc ++ [s.d])))) : w_l_copy_b1 n D0 [x0, some (.ref u), some s.d] M := by
  unfold w_l_copy_b1
  have nu : ∀ {q : Addr} {M' : Mu}, M' q = none → M' u = some (.lst acc) → u ≠ q := fun {q M'} h e z => by rw [← z, e] at h; cases h
  cases s with
  | hold nm k pl =>
    rw [hold_d] at hn ⊢
    try simp only [hu]
    walk_at "dl"
    try simp only [hu]
    walk_at "dl"
    try simp only [hu]
    walk_at "dl"
    try simp only [hu]
    walk_at "dl"
    try simp only [hu]
    walk_at "dl"
    try simp only [hu]
    walk_at "dl"
    try simp only [hu]
    walk_at "dl"
    try simp only [hu]
    walk_at "dl"
    try simp only [hu]
    walk_at "dl"
    try simp only [hu]
    walk_at "dl"
    exact ⟨by omega, hn M (Xt.refl M) hu⟩
  | act p nm pl as =>
    rw [St.ok] at ho
    rw [act_d] at hn ⊢
    try simp only [n_do_hold, hu]
    walk_at "dl"
    try simp only [n_do_hold, hu]
    walk_at "dl"
    try simp only [n_do_hold, hu]
    walk_at "dl"
    try simp only [n_do_hold, hu]
    walk_at "dl"
    try simp only [n_do_hold, hu]
    walk_at "dl"
    try simp only [n_do_hold, hu]
    walk_at "dl"
    try simp only [n_do_hold, hu]
    walk_at "dl"
    try simp only [n_do_hold, hu]
    walk_at "dl"
    try simp only [n_do_hold, hu]
    walk_at "dl"
    try simp only [n_do_hold, hu]
    walk_at "dl"
    refine ⟨_, p, nm, pl, as, rfl, Ar.at_, ho.1, Nat.le_trans ho.2 (by decide), fun q M' hq hq2 x => ?_⟩
    have hu' := x _ _ hu
    have nuq := nu hq hu
    show frzTK (K := _) ⟨⟩ (callD p nm pl (.ref q)) M'
    try simp only [frzT_5, hq2, del_ne nuq, hu']
    walk_at "dl"
    try simp only [frzT_5, hq2, del_ne nuq, hu']
    walk_at "dl"
    try simp only [frzT_5, hq2, del_ne nuq, hu']
    walk_at "dl"
    try simp only [frzT_5, hq2, del_ne nuq, hu']
    walk_at "dl"
    try simp only [frzT_5, hq2, del_ne nuq, hu']
    walk_at "dl"
    try simp only [frzT_5, hq2, del_ne nuq, hu']
    walk_at "dl"
    try simp only [frzT_5, hq2, del_ne nuq, hu']
    walk_at "dl"
    try simp only [frzT_5, hq2, del_ne nuq, hu']
    walk_at "dl"
    try simp only [frzT_5, hq2, del_ne nuq, hu']
    walk_at "dl"
    try simp only [frzT_5, hq2, del_ne nuq, hu']
    walk_at "dl"
    have q2 := hn (del M' q) (x.del hq) (by rw [del_ne nuq]; exact hu')
    have e : (Ar.call p nm pl as).d = D.tup [.str (T "call"), .str p, .str nm, .str pl, .lst (as.map Ar.d)] := call_d
    rw [← e]
    exact ⟨by decide, by omega, q2⟩
  | again b =>
    rw [St.ok] at ho
    rw [St.dep] at hd
    rw [St.sz] at hz
    rw [again_d] at hn ⊢
    try simp only [n_ag_hold, n_ag_do, hu]
    walk_at "dl"
    try simp only [n_ag_hold, n_ag_do, hu]
    walk_at "dl"
    try simp only [n_ag_hold, n_ag_do, hu]
    walk_at "dl"
    try simp only [n_ag_hold, n_ag_do, hu]
    walk_at "dl"
    try simp only [n_ag_hold, n_ag_do, hu]
    walk_at "dl"
    try simp only [n_ag_hold, n_ag_do, hu]
    walk_at "dl"
    try simp only [n_ag_hold, n_ag_do, hu]
    walk_at "dl"
    try simp only [n_ag_hold, n_ag_do, hu]
    walk_at "dl"
    try simp only [n_ag_hold, n_ag_do, hu]
    walk_at "dl"
    try simp only [n_ag_hold, n_ag_do, hu]
    walk_at "dl"
    refine ⟨_, b, rfl, .inl rfl, ho, by omega, by omega, fun q M' hq hq2 x => ?_⟩
    have hu' := x _ _ hu
    have nuq := nu hq hu
    try simp only [hq2, del_ne nuq, hu']
    walk_at "dl"
    try simp only [hq2, del_ne nuq, hu']
    walk_at "dl"
    try simp only [hq2, del_ne nuq, hu']
    walk_at "dl"
    try simp only [hq2, del_ne nuq, hu']
    walk_at "dl"
    try simp only [hq2, del_ne nuq, hu']
    walk_at "dl"
    try simp only [hq2, del_ne nuq, hu']
    walk_at "dl"
    try simp only [hq2, del_ne nuq, hu']
    walk_at "dl"
    try simp only [hq2, del_ne nuq, hu']
    walk_at "dl"
    try simp only [hq2, del_ne nuq, hu']
    walk_at "dl"
    try simp only [hq2, del_ne nuq, hu']
    walk_at "dl"
    exact ⟨by decide, by omega, hn (del M' q) (x.del hq) (by rw [del_ne nuq]; exact hu')⟩
  | either a b =>
    rw [St.ok] at ho
    rw [St.dep] at hd
    rw [St.sz] at hz
    rw [either_d] at hn ⊢
    try simp only [n_ei_hold, n_ei_do, n_ei_ag, hu]
    walk_at "dl"
    try simp only [n_ei_hold, n_ei_do, n_ei_ag, hu]
    walk_at "dl"
    try simp only [n_ei_hold, n_ei_do, n_ei_ag, hu]
    walk_at "dl"
    try simp only [n_ei_hold, n_ei_do, n_ei_ag, hu]
    walk_at "dl"
    try simp only [n_ei_hold, n_ei_do, n_ei_ag, hu]
    walk_at "dl"
    try simp only [n_ei_hold, n_ei_do, n_ei_ag, hu]
    walk_at "dl"
    try simp only [n_ei_hold, n_ei_do, n_ei_ag, hu]
    walk_at "dl"
    try simp only [n_ei_hold, n_ei_do, n_ei_ag, hu]
    walk_at "dl"
    try simp only [n_ei_hold, n_ei_do, n_ei_ag, hu]
    walk_at "dl"
    try simp only [n_ei_hold, n_ei_do, n_ei_ag, hu]
    walk_at "dl"
    refine ⟨_, a, rfl, .inl rfl, ho.1, by omega, by omega, fun q M' hq hq2 x => ?_⟩
    have hu' := x _ _ hu
    have nuq := nu hq hu
    try simp only [hq2]
    walk_at "dl"
    try simp only [hq2]
    walk_at "dl"
    try simp only [hq2]
    walk_at "dl"
    try simp only [hq2]
    walk_at "dl"
    try simp only [hq2]
    walk_at "dl"
    try simp only [hq2]
    walk_at "dl"
    try simp only [hq2]
    walk_at "dl"
    try simp only [hq2]
    walk_at "dl"
    try simp only [hq2]
    walk_at "dl"
    try simp only [hq2]
    walk_at "dl"
    refine ⟨_, b, rfl, .inl rfl, ho.2, by omega, by omega, fun q3 M3 hq3 hq4 x3 => ?_⟩
    have hu1 : del M' q u = some (.lst acc) := by rw [del_ne nuq]; exact hu'
    have hu3 := x3 _ _ hu1
    have nuq3 := nu hq3 hu1
    try simp only [hq4, del_ne nuq3, hu3]
    walk_at "dl"
    try simp only [hq4, del_ne nuq3, hu3]
    walk_at "dl"
    try simp only [hq4, del_ne nuq3, hu3]
    walk_at "dl"
    try simp only [hq4, del_ne nuq3, hu3]
    walk_at "dl"
    try simp only [hq4, del_ne nuq3, hu3]
    walk_at "dl"
    try simp only [hq4, del_ne nuq3, hu3]
    walk_at "dl"
    try simp only [hq4, del_ne nuq3, hu3]
    walk_at "dl"
    try simp only [hq4, del_ne nuq3, hu3]
    walk_at "dl"
    try simp only [hq4, del_ne nuq3, hu3]
    walk_at "dl"
    try simp only [hq4, del_ne nuq3, hu3]
    walk_at "dl"
    exact ⟨by decide, by omega, hn (del M3 q3) (((x.del hq).trans x3).del ((x.del hq).none hq3)) (by rw [del_ne nuq3]; exact hu3)⟩
theorem blk_mem0 {b : List St} {s : St} {n : Nat} (h : s ∈ b) (ho : stsOk b) (hd : stsDep b + 1 ≤ n + 1) (hz : stsSz b ≤ 400) : s.ok ∧ s.dep ≤ n ∧ s.sz ≤ 400 := by
  have h1 := stsDep_le.mp (Nat.le_refl (stsDep b)) s h
  exact ⟨stsOk_all.mp ho s h, by omega, Nat.le_trans (sz_mem h) hz⟩
theorem p_l_copy (n : Nat) : ∀ ds M Q E, sp_l_copy (n + 1) ds M Q E → w_l_copy n (Ret Q E) (ds.map some ++ List.replicate (3 - 1) none) M := by
  rintro ds M Q E ⟨x, b, rfl, hx, ho, hd, hz, hQ⟩
  have hbl : b.length ≤ 400 := Nat.le_trans sz_len hz
  unfold w_l_copy
  walk_at "dl"
  refine ⟨by decide, fun u hu => ?_⟩
  have x0 : Xt M (put M u (.lst [])) := (Xt.refl M).put hu
  let I : Nat → DSt → Mu → Prop := fun k τ M' => (∃ x2, τ = [some x, some (.ref u), x2]) ∧ M' u = some (.lst ((b.take k).map St.d)) ∧ Xt M M'
  have step : ∀ {D0 : DEnds} k s M', b[k]? = some s → M' u = some (.lst ((b.take k).map St.d)) → Xt M M' → (∀ τ2 M2, I (k + 1) τ2 M2 → D0.nx τ2 M2) → w_l_copy_b1 n D0 [some x, some (.ref u), some s.d] M' := by
    intro D0 k s M' hs hu' xx hn
    obtain ⟨h1, h2, h4⟩ := blk_mem0 (n := n) (List.mem_of_getElem? hs) ho hd hz
    refine lcopy_b h1 h2 h4 hu' (by rw [List.length_map, List.length_take]; omega) fun M2 x2 hu2 => hn _ _ ⟨⟨_, rfl⟩, ?_, (xx.trans x2).put hu⟩
    rw [put_same, List.take_succ, hs, List.map_append]; rfl
  have fin : ∀ τ M', I b.length τ M' → dRet (dVar 1) (Ret Q E) τ M' := by
    rintro τ M' ⟨⟨x3, rfl⟩, hu', xx⟩
    rw [List.take_length] at hu'
    walk_at "dl"
    exact hQ u M' hu hu' xx
  rcases hx with rfl | ⟨a, rfl, ha⟩
  · try simp only [dOrS]
    walk_at "dl"
    try simp only [dOrS]
    walk_at "dl"
    left
    walk_at "dl"
    refine wFor_by I ⟨⟨_, rfl⟩, by rw [put_same]; rfl, x0⟩ ?_ fun τ M' h => ?_
    · rintro k d τ M' hdk ⟨⟨x3, rfl⟩, hu', xx⟩ nxt hn
      obtain ⟨s, hs, rfl⟩ := map_at hdk
      walk_at "dl"
      exact step k s M' hs hu' xx hn
    · rw [List.length_map] at h
      exact fin τ M' h
  · have nau : a ≠ u := fun z => by rw [z, hu] at ha; cases ha
    try simp only [dOrS]
    walk_at "dl"
    try simp only [dOrS]
    walk_at "dl"
    right
    try simp only [put_ne nau, ha]
    walk_at "dl"
    try simp only [put_ne nau, ha]
    walk_at "dl"
    try simp only [put_ne nau, ha]
    walk_at "dl"
    try simp only [put_ne nau, ha]
    walk_at "dl"
    try simp only [put_ne nau, ha]
    walk_at "dl"
    try simp only [put_ne nau, ha]
    walk_at "dl"
    try simp only [put_ne nau, ha]
    walk_at "dl"
    try simp only [put_ne nau, ha]
    walk_at "dl"
    try simp only [put_ne nau, ha]
    walk_at "dl"
    try simp only [put_ne nau, ha]
    walk_at "dl"
    refine wForR_by I ⟨⟨_, rfl⟩, by rw [put_same]; rfl, x0⟩ (fun k τ M' h => h.2.2 a _ ha) ?_ fun τ M' h => ?_
    · rintro k d τ M' hdk ⟨⟨x3, rfl⟩, hu', xx⟩ nxt hn
      obtain ⟨s, hs, rfl⟩ := map_at hdk
      walk_at "dl"
      exact step k s M' hs hu' xx hn
    · rw [List.length_map] at h
      exact fin τ M' h
/-! ### views -/
mutual
theorem St.pl : ∀ (s : St) {k : Nat}, s.ok → s.sz ≤ 400 → 2 * s.dep + 11 ≤ k → pln k s.d = true
  | .hold n l x, k + 1, h, _, hk => by
    rw [hold_d]
    refine pl_tup (by simp) fun d hd => ?_
    simp only [List.mem_cons, List.not_mem_nil, or_false] at hd
    rcases hd with rfl | rfl | rfl | rfl <;> exact pl_str
  | .act p nm pl as, k + 1, h, _, hk => by
    rw [St.ok] at h
    rw [act_d]
    refine pl_tup (by simp) fun d hd => ?_
    simp only [List.mem_cons, List.not_mem_nil, or_false] at hd
    rcases hd with rfl | rfl
    · exact pl_str
    · exact Ar.pl h.1 h.2 (by omega)
  | .again b, k + 1, h, hz, hk => by
    rw [St.ok] at h
    rw [St.dep] at hk
    rw [St.sz] at hz
    obtain ⟨j, rfl⟩ : ∃ j, k = j + 1 := ⟨k - 1, by omega⟩
    rw [again_d]
    refine pl_tup (by simp) fun d hd => ?_
    simp only [List.mem_cons, List.not_mem_nil, or_false] at hd
    rcases hd with rfl | rfl
    · exact pl_str
    · exact pl_lst (by rw [List.length_map]; have := sz_len (b := b); omega) (stsPl b h (by omega) (by omega))
  | .either a b, k + 1, h, hz, hk => by
    rw [St.ok] at h
    rw [St.dep] at hk
    rw [St.sz] at hz
    obtain ⟨j, rfl⟩ : ∃ j, k = j + 1 := ⟨k - 1, by omega⟩
    rw [either_d]
    refine pl_tup (by simp) fun d hd => ?_
    simp only [List.mem_cons, List.not_mem_nil, or_false] at hd
    rcases hd with rfl | rfl | rfl
    · exact pl_str
    · exact pl_lst (by rw [List.length_map]; have := sz_len (b := a); omega) (stsPl a h.1 (by omega) (by omega))
    · exact pl_lst (by rw [List.length_map]; have := sz_len (b := b); omega) (stsPl b h.2 (by omega) (by omega))
  | _, 0, _, _, hk => by omega
theorem stsPl : ∀ (b : List St) {k : Nat}, stsOk b → stsSz b ≤ 400 → 2 * stsDep b + 11 ≤ k → ∀ d ∈ b.map St.d, pln k d = true
  | [], _, _, _, _ => by simp
  | s :: ss, k, h, hz, hk => by
    rw [stsOk] at h
    rw [stsSz] at hz
    rw [stsDep] at hk
    intro d hd
    rw [List.map_cons, List.mem_cons] at hd
    rcases hd with rfl | hd
    · exact St.pl s h.1 (by omega) (by omega)
    · exact stsPl ss h.2 (by omega) (by omega) d hd
end
theorem BlkAt.vw {M : Mu} {x : D} {b : List St} (h : BlkAt M x b) (ho : stsOk b) (hz : stsSz b ≤ 400) {k : Nat} (hk : 2 * stsDep b + 12 ≤ k) : DL.vw M k x = .lst (b.map St.d) ∧ pln k (.lst (b.map St.d)) = true := by
  obtain ⟨j, rfl⟩ : ∃ j, k = j + 1 := ⟨k - 1, by omega⟩
  have p := stsPl b (k := j) ho hz (by omega)
  have p2 : pln (j + 1) (.lst (b.map St.d)) = true := pl_lst (by rw [List.length_map]; have := sz_len (b := b); omega) p
  refine ⟨?_, p2⟩
  rcases h with rfl | ⟨a, rfl, ha⟩
  · exact vw_pln M p2
  · show (match M a with
      | some (.lst ds) => D.lst (ds.map (DL.vw M j))
      | _ => .ref a) = _
    rw [ha]
    show D.lst _ = _
    congr 1
    calc (b.map St.d).map (DL.vw M j) = (b.map St.d).map id := List.map_congr_left fun d hd => vw_pln M (p d hd)
      _ = b.map St.d := List.map_id _
end DL

/-! drawn ways; what is passed are statements of the program (cut out of L31) -/
namespace DL
open PySem L2
local macro_rules | `(tactic| walk_at "dl") => `(tactic| try simp (config := { proj := false }) only [↓ex_mk, ↓nx_mk, ↓rt_mk, ↓bk_mk, ↓ct_mk, ↓xc_mk, ↓u_c, ↓u_op, ↓u_un, ↓u_and, ↓u_or, ↓u_not, ↓u_if, ↓u_anil, ↓u_acons, ↓u_lst, ↓u_lstM, ↓u_tup, ↓u_call, ↓u_sl, ↓u_onone, ↓u_cb, ↓u_mt, ↓u_mt0, ↓u_pass, ↓u_seq, ↓u_set, ↓u_asg, ↓u_drop, ↓u_ret, ↓u_retN, ↓u_ifs, ↓u_brk, ↓u_cnt, ↓u_for, ↓u_gname, ↓u_gsub, ↓u_fs, ↓u_fmt, ↓u_js0, ↓u_js, ↓u_em, ↓u_yes, ↓u_never, ↓u_ref, ↓u_forR, ↓u_star, ↓u_dict, ↓u_dict0, ↓u_dp0, ↓u_dp1, ↓u_forK, ↓u_lock, ↓u_kd, ↓u_fld, ↓u_setF, ↓u_make, ↓u_binL, ↓u_binR, ↓u_inO, ↓u_getO, ↓u_setO, ↓u_augO, ↓u_prp, ↓u_inv, ↓u_meth, ↓u_keys, ↓u_try, ↓u_cm, ↓u_makeV, ↓r_enum, ↓r_own, ↓u_raise, ↓u_tryas, ↓u_ca, ↓u_xf, ↓u_idxC, su_mk,
  ↓r_var, ↓r_test, ↓r_andV, ↓r_orV, ↓r_notV, ↓r_tru, ↓r_frz, ↓r_osome, ↓r_any, ↓r_scr, scr_c, ↓r_rng1, ↓r_rng2, ↓r_fz, wipeD,
  onSome_s, onBl_b, onInt_i, onStr_s, onVar_s, onML_l, onML2_l, onML2_d, onDK_d, fmt_s, fmt_i, tru_n, tru_b, tru_i, tru_s, tru_l, tru_t, tru_r, frz_r, sl_s, sl_l, sl_t, sl_r, add_i, add_s, add_l, add_t, add_rl, add_lr, sub_i, mul_i, div_i, mod_i, pow_i, neg_i, cmp_i, eq_i, eq_s, eq_b, eq_n, eq_l, eq_t, eq_rl, eq_lr, eq_ni, eq_in, eq_ns, eq_sn, eq_nb, eq_bn, eq_is, eq_si,
  ix_l, ix_t, ix_s, ix_ri, ix_rs, in_ss, in_l, in_t, in_ir, in_sr, isB_t, isB_f, ltS_s, gtS_s, sorted_l, keyK_s, keyK_i, u_dget, lenOR_r, listOR_r, isn_n, isn_b, isn_i, isn_s, isn_r, isn_l, isn_t, len_s, len_c, len_l, len_t, len_r, int_i, int_b, min_ii, max_ii, list_l, list_t, list_r, list_c, listM_l, listM_c, listM_t, listM_r, isi_, isi_k, ty_n, ty_b, ty_i, ty_s, ty_l, ty_t, it_s, it_l, it_r, itM_l, itM_d, app_r, rev_r, ends_s, ins_r, set_rs, str_i, str_s, ext_l, pop_r, clr_r, star_l, star_t, star_r, onRef_r, onML3_l, onML3_d, onML3_f, onDR_d, onDR_f, onFK_f, join_l, join_t, join_r, starts_s, r_gtup, r_glst, r_gnil, r_gcons, set_r, items_s, items_l, items_t, rng1_i, rng2_i, fz_r, addM_l, addM_rl, onIns_i, onLst_l, isIns_r, isInsM_i, noF_r, noFM_i, rows_r, lenO_r, listO_r, listOM_r, isCK_i, isCK_l, isC_r, isC_s, isC_i, isC_b, isC_n, isC_l, isC_t, putG_0, putG_1, lk_1, onCl_c, onEnum_l, index_l, strO_r, cmpO_r, pop1_r, tuple_l, tuple_t, divmod_i, upper_s, indexT_t, onExc_e, isE_t, isE_c, isE_v, zip_1,
  List.map_cons, List.map_nil, List.cons_append, List.nil_append, List.length_cons, List.length_nil, List.replicate, List.getElem?_cons_zero, List.getElem?_cons_succ, List.set_cons_zero, List.set_cons_succ, id, decide_eq_true_eq, if_true, if_false, Bool.false_eq_true, reduceIte, Bool.not_true, Bool.not_false, true_and, Nat.reduceAdd, Nat.reduceSub, Int.reduceToNat, Int.toNat_natCast, put_same, put_put, atI_0, atI_1, atI_2, atI_3, atI_4, ixN_40, ixN_41, ixN_42, ixN_43])
theorem bools_ {i : Nat} {vs : List Nat} {τ : DSt} {p a : Addr} {te : DTE} {Nx : Mu → Prop} {ds : List D} {M : Mu} (hp : M p = none) (hs : Src M a) (hl : ds.length ≤ 1000)
    (he : ∀ d M' (N : D → Mu → Prop), d ∈ ds → Src M' a → (∀ c M2, SrcTo a M' M2 → N (.bl c) M2) → te ((wipeD τ vs).set i (some d)) M' N noX)
    (hn : ∀ (way : List Bool) M', way.length = ds.length → M' p = some (.lst (way.map D.bl)) → SX0 a M (del M' p) → Nx M') : wTs (dgName i) dYes vs τ (wNst (dEm p te) []) Nx ds (put M p (.lst [])) := by
  obtain ⟨s3, hap⟩ := src_other (m := .lst []) hs hp
  refine lc_by (fun k acc M' => ∃ way : List Bool, acc = way.map D.bl ∧ way.length = k ∧ Src M' a ∧ ∀ b, b ≠ a → b ≠ p → M' b = M b) ⟨[], rfl, rfl, s3, fun b _ hb => put_ne hb⟩ put_same ?_ ?_
  · rintro k d acc M3 hk hM ⟨way, rfl, rfl, s4, hb⟩ N h1 h2
    have hlt := (List.getElem?_eq_some_iff.mp hk).1
    walk_at "dl"
    refine he d M3 _ (List.mem_of_getElem? hk) s4 fun c M4 s5 => ?_
    have hM4 : M4 p = some (.lst (way.map D.bl)) := by rw [s5.2 p (Ne.symm hap)]; exact hM
    refine ⟨way.map D.bl, hM4, by rw [line24, List.length_map]; omega, ?_⟩
    refine h1 (.bl c) M4 hM4 ⟨way ++ [c], by rw [List.map_append]; rfl, by rw [List.length_append]; rfl, ?_, fun b b1 b2 => ?_⟩
    · obtain ⟨ns, t, r, d, e, z⟩ := s5.1
      exact ⟨ns, t, r, d, by rw [put_ne hap]; exact e, z⟩
    · rw [put_ne b2, s5.2 b b1, hb b b1 b2]
  · rintro acc M3 hM ⟨way, rfl, hl, s4, hb⟩
    refine hn way M3 hl hM ⟨?_, fun b o b1 e => ?_⟩
    · obtain ⟨ns, t, r, d, e, z⟩ := s4
      exact ⟨ns, t, r, d, by rw [del_ne hap]; exact e, z⟩
    · have b2 : b ≠ p := fun z => by rw [z, hp] at e; cases e
      rw [del_ne b2, hb b b1 b2]
      exact e
def sp_l_way : DSp := fun ds M Q _ => ∃ (p : Addr) (m : Int), ds = [.ref p, .int m] ∧ Src M p ∧ 0 ≤ m ∧ m ≤ 100 ∧ ∀ (way : List Bool) M', (way.length : Int) ≤ m → SX0 p M M' → Q (.lst (way.map D.bl)) M'
def w_l_way : DTS := dRet (dFrz (dLcM (diRng1 (daCons (dCall sp_l_draw (daCons (dVar 0) (daCons (dOp gAdd (dVar 1) (dC (.int 1))) (daNil)))) (daNil))) (dgName 2) (dYes) [2] [] (dOp gEq (dCall sp_l_draw (daCons (dVar 0) (daCons (dC (.int 2)) (daNil)))) (dC (.int 1)))))
theorem p_l_way : ∀ ds M Q E, sp_l_way ds M Q E → w_l_way (Ret Q E) (ds.map some ++ List.replicate (3 - 2) none) M := by
  rintro ds M Q E ⟨p, m, rfl, hs, m0, m1, hQ⟩
  unfold w_l_way
  try simp only [dLcM]
  walk_at "dl"
  try simp only [dLcM]
  walk_at "dl"
  refine draw_ hs (by omega) (by omega) fun n M1 n0 n1 s1 => ?_
  walk_at "dl"
  refine ⟨by omega, by omega, fun u hu => ?_⟩
  refine bools_ hu s1.1 (by rw [upTo_len]; omega) (fun d M' N hd s2 h => ?_) fun way M' hl hM s2 => ?_
  · walk_at "dl"
    refine draw_ s2 (by decide) (by decide) fun c M2 c0 c1 s3 => ?_
    walk_at "dl"
    exact h _ M2 s3
  · rw [upTo_len] at hl
    try simp only [hM]
    walk_at "dl"
    try simp only [hM]
    walk_at "dl"
    try simp only [hM]
    walk_at "dl"
    try simp only [hM]
    walk_at "dl"
    try simp only [hM]
    walk_at "dl"
    try simp only [hM]
    walk_at "dl"
    try simp only [hM]
    walk_at "dl"
    try simp only [hM]
    walk_at "dl"
    try simp only [hM]
    walk_at "dl"
    try simp only [hM]
    walk_at "dl"
    exact hQ way _ (by omega) (s1.sx0.trans s2)
def sp_l_long_way : DSp := fun ds M Q _ => ∃ (p : Addr), ds = [.ref p] ∧ Src M p ∧ ∀ (way : List Bool) M', way.length ≤ 40 → SX0 p M M' → Q (.lst (way.map D.bl)) M'
def w_l_long_way : DTS := dSeq (dIfS (dTest (dOp gEq (dCall sp_l_draw (daCons (dVar 0) (daCons (dC (.int 8)) (daNil)))) (dC (.int 7)))) (dRet (dFrz (dLcM (diRng1 (daCons (dOp gAdd (dC (.int 12)) (dCall sp_l_draw (daCons (dVar 0) (daCons (dC (.int 20)) (daNil))))) (daNil))) (dgName 1) (dYes) [1] [] (dOp gGt (dCall sp_l_draw (daCons (dVar 0) (daCons (dC (.int 4)) (daNil)))) (dC (.int 0)))))) (dPass)) (dRet (dCall sp_l_way (daCons (dVar 0) (daCons (dC (.int 6)) (daNil)))))
theorem p_l_long_way : ∀ ds M Q E, sp_l_long_way ds M Q E → w_l_long_way (Ret Q E) (ds.map some ++ List.replicate (2 - 1) none) M := by
  rintro ds M Q E ⟨p, rfl, hs, hQ⟩
  unfold w_l_long_way
  walk_at "dl"
  refine draw_ hs (by decide) (by decide) fun n M1 n0 n1 s1 => ?_
  walk_at "dl"
  split
  · try simp only [dLcM]
    walk_at "dl"
    try simp only [dLcM]
    walk_at "dl"
    refine draw_ s1.1 (by decide) (by decide) fun n M2 n0 n1 s2 => ?_
    walk_at "dl"
    refine ⟨by omega, by omega, fun u hu => ?_⟩
    refine bools_ hu s2.1 (by rw [upTo_len]; omega) (fun d M' N hd s3 h => ?_) fun way M' hl hM s3 => ?_
    · walk_at "dl"
      refine draw_ s3 (by decide) (by decide) fun c M2 c0 c1 s4 => ?_
      walk_at "dl"
      exact h _ M2 s4
    · rw [upTo_len] at hl
      try simp only [hM]
      walk_at "dl"
      try simp only [hM]
      walk_at "dl"
      try simp only [hM]
      walk_at "dl"
      try simp only [hM]
      walk_at "dl"
      try simp only [hM]
      walk_at "dl"
      try simp only [hM]
      walk_at "dl"
      try simp only [hM]
      walk_at "dl"
      try simp only [hM]
      walk_at "dl"
      try simp only [hM]
      walk_at "dl"
      try simp only [hM]
      walk_at "dl"
      exact hQ way _ (by omega) ((s1.sx0.trans s2.sx0).trans s3)
  · exact ⟨p, 6, rfl, s1.1, by decide, by decide, fun way M' hl s2 => hQ way M' (by omega) (s1.sx0.trans s2)⟩
/-! what is passed are statements of the program -/
def Kp4 (v : Wk) : Prop := ∀ s ∈ v.ps, s.ok ∧ s.sz = 1 ∧ s.dep = 0
theorem agn_keep {w : List Bool} {f : Wk → Wk} (hf : ∀ s, Kp4 s → Kp4 (f s)) : ∀ (n : Nat) (s : Wk), Kp4 s → Kp4 (agn w f n s)
  | 0, s, h => by rw [agn]; exact h
  | n + 1, s, h => by
    rw [agn]
    split
    · exact agn_keep hf n _ (hf _ h)
    · exact h
mutual
theorem St.keep (w : List Bool) : ∀ (x : St) (v : Wk), x.ok → Kp4 v → Kp4 (x.fw w v)
  | .either a b, v, ho, h => by
    rw [St.ok] at ho
    rw [St.fw]
    dsimp only
    split
    · exact stsKeep w a _ ho.1 h
    · exact stsKeep w b _ ho.2 h
  | .again b, v, ho, h => by
    rw [St.ok] at ho
    rw [St.fw]
    exact agn_keep (fun s hs => stsKeep w b s ho hs) _ v h
  | .hold n k pl, v, ho, h => by
    rw [St.fw]
    intro s hs
    rcases List.mem_append.mp hs with hs | hs
    · exact h s hs
    · rw [List.mem_singleton.mp hs]
      exact ⟨ho, by rw [St.sz] <;> simp, by rw [St.dep] <;> simp⟩
  | .act p nm pl as, v, ho, h => by
    rw [St.fw]
    intro s hs
    rcases List.mem_append.mp hs with hs | hs
    · exact h s hs
    · rw [List.mem_singleton.mp hs]
      exact ⟨ho, by rw [St.sz] <;> simp, by rw [St.dep] <;> simp⟩
theorem stsKeep (w : List Bool) : ∀ (b : List St) (v : Wk), stsOk b → Kp4 v → Kp4 (stsFw w b v)
  | [], v, _, h => by rw [stsFw]; exact h
  | x :: xs, v, ho, h => by
    rw [stsOk] at ho
    rw [stsFw]
    exact stsKeep w xs _ ho.2 (St.keep w x v ho.1 h)
end
theorem SX0.of_xt {p : Addr} {M M' : Mu} (h : Src M p) (x : Xt M M') : SX0 p M M' := ⟨by
  obtain ⟨ns, t, r, d, e, z⟩ := h
  exact ⟨ns, t, r, d, x _ _ e, z⟩, fun b o _ e => x b o e⟩
end DL

namespace DL
open PySem L2
local macro_rules | `(tactic| walk_at "dl") => `(tactic| try simp (config := { proj := false }) only [↓ex_mk, ↓nx_mk, ↓rt_mk, ↓bk_mk, ↓ct_mk, ↓xc_mk, ↓u_c, ↓u_op, ↓u_un, ↓u_and, ↓u_or, ↓u_not, ↓u_if, ↓u_anil, ↓u_acons, ↓u_lst, ↓u_lstM, ↓u_tup, ↓u_call, ↓u_sl, ↓u_onone, ↓u_cb, ↓u_mt, ↓u_mt0, ↓u_pass, ↓u_seq, ↓u_set, ↓u_asg, ↓u_drop, ↓u_ret, ↓u_retN, ↓u_ifs, ↓u_brk, ↓u_cnt, ↓u_for, ↓u_gname, ↓u_gsub, ↓u_fs, ↓u_fmt, ↓u_js0, ↓u_js, ↓u_em, ↓u_yes, ↓u_never, ↓u_ref, ↓u_forR, ↓u_star, ↓u_dict, ↓u_dict0, ↓u_dp0, ↓u_dp1, ↓u_forK, ↓u_lock, ↓u_kd, ↓u_fld, ↓u_setF, ↓u_make, ↓u_binL, ↓u_binR, ↓u_inO, ↓u_getO, ↓u_setO, ↓u_augO, ↓u_prp, ↓u_inv, ↓u_meth, ↓u_keys, ↓u_try, ↓u_cm, ↓u_makeV, ↓r_enum, ↓r_own, ↓u_raise, ↓u_tryas, ↓u_ca, ↓u_xf, ↓u_idxC, su_mk,
  ↓r_var, ↓r_test, ↓r_andV, ↓r_orV, ↓r_notV, ↓r_tru, ↓r_frz, ↓r_osome, ↓r_any, ↓r_scr, scr_c, ↓r_rng1, ↓r_rng2, ↓r_fz, wipeD,
  onSome_s, onBl_b, onInt_i, onStr_s, onVar_s, onML_l, onML2_l, onML2_d, onDK_d, fmt_s, fmt_i, tru_n, tru_b, tru_i, tru_s, tru_l, tru_t, tru_r, frz_r, sl_s, sl_l, sl_t, sl_r, add_i, add_s, add_l, add_t, add_rl, add_lr, sub_i, mul_i, div_i, mod_i, pow_i, neg_i, cmp_i, eq_i, eq_s, eq_b, eq_n, eq_l, eq_t, eq_rl, eq_lr, eq_ni, eq_in, eq_ns, eq_sn, eq_nb, eq_bn, eq_is, eq_si,
  ix_l, ix_t, ix_s, ix_ri, ix_rs, in_ss, in_l, in_t, in_ir, in_sr, isB_t, isB_f, ltS_s, gtS_s, sorted_l, keyK_s, keyK_i, u_dget, lenOR_r, listOR_r, isn_n, isn_b, isn_i, isn_s, isn_r, isn_l, isn_t, len_s, len_c, len_l, len_t, len_r, int_i, int_b, min_ii, max_ii, list_l, list_t, list_r, list_c, listM_l, listM_c, listM_t, listM_r, isi_, isi_k, ty_n, ty_b, ty_i, ty_s, ty_l, ty_t, it_s, it_l, it_r, itM_l, itM_d, app_r, rev_r, ends_s, ins_r, set_rs, str_i, str_s, ext_l, pop_r, clr_r, star_l, star_t, star_r, onRef_r, onML3_l, onML3_d, onML3_f, onDR_d, onDR_f, onFK_f, join_l, join_t, join_r, starts_s, r_gtup, r_glst, r_gnil, r_gcons, set_r, items_s, items_l, items_t, rng1_i, rng2_i, fz_r, addM_l, addM_rl, onIns_i, onLst_l, isIns_r, isInsM_i, noF_r, noFM_i, rows_r, lenO_r, listO_r, listOM_r, isCK_i, isCK_l, isC_r, isC_s, isC_i, isC_b, isC_n, isC_l, isC_t, putG_0, putG_1, lk_1, onCl_c, onEnum_l, index_l, strO_r, cmpO_r, pop1_r, tuple_l, tuple_t, divmod_i, upper_s, indexT_t, onExc_e, isE_t, isE_c, isE_v, zip_1,
  List.map_cons, List.map_nil, List.cons_append, List.nil_append, List.length_cons, List.length_nil, List.replicate, List.getElem?_cons_zero, List.getElem?_cons_succ, List.set_cons_zero, List.set_cons_succ, id, decide_eq_true_eq, if_true, if_false, Bool.false_eq_true, reduceIte, Bool.not_true, Bool.not_false, true_and, Nat.reduceAdd, Nat.reduceSub, Int.reduceToNat, Int.toNat_natCast, put_same, put_put, atI_0, atI_1, atI_2, atI_3, atI_4, ixN_40, ixN_41, ixN_42, ixN_43])
/-- all but these stays -/
def But (fp : List Addr) (M M' : Mu) : Prop := ∀ b, b ∉ fp → M' b = M b
def sp_l_change_call (n : Nat) : DSp := fun ds M Q _ => ∃ (p nm pl : Tx) (as : List Ar) (d : D) (fp : List Addr), ds = [d] ∧ ArF M n (.call p nm pl as) d fp ∧ (Ar.call p nm pl as).ok ∧ (Ar.call p nm pl as).dep ≤ n ∧ ∀ M', But fp M M' → Q .non M'
def w_l_change_call_b1 (n : Nat) : DTS := dIfS (dTest (dOp gEq (dOp gIx (dVar 1) (dC (.int 0))) (dC (.str (T "call"))))) (dDrop (dCall (sp_l_change_call n) (daCons (dVar 1) (daNil)))) (dPass)
def w_l_change_call_c2 (n : Nat) : DTS := dDrop (dMt "list" gInsert (dOp gIx (dVar 0) (dC (.int 4))) (daCons (dC (.int 0)) (daCons (dTup (daCons (dC (.str (T "number"))) (daCons (dC (.int 7)) (daNil)))) (daNil))))
def w_l_change_call (n : Nat) : DTS := dSeq (dFor (diAny (dCB gList (daCons (dOp gIx (dVar 0) (dC (.int 4))) (daNil)))) (dgName 1) (w_l_change_call_b1 n)) (w_l_change_call_c2 n)
theorem no_chcall0 : ∀ ds M Q E, ¬ sp_l_change_call 0 ds M Q E := by
  rintro ds M Q E ⟨p, nm, pl, as, d, fp, _, _, _, h, _⟩
  exact call_dep0 h
theorem p_l_change_call (n : Nat) : ∀ ds M Q E, sp_l_change_call (n + 1) ds M Q E → w_l_change_call n (Ret Q E) (ds.map some ++ List.replicate (2 - 1) none) M := by
  rintro ds M Q E ⟨p, nm, pl, as, d, fp, rfl, ⟨q, ds, fs, rfl, hq, rfl, hn, hl⟩, ho, hd, hQ⟩
  have hd := call_dep.mp hd
  obtain ⟨h1, h2, h3, h4, h5⟩ := call_ok.mp ho
  have ll := hl.len
  unfold w_l_change_call
  try simp only [hq]
  walk_at "dl"
  try simp only [hq]
  walk_at "dl"
  try simp only [hq]
  walk_at "dl"
  try simp only [hq]
  walk_at "dl"
  try simp only [hq]
  walk_at "dl"
  try simp only [hq]
  walk_at "dl"
  try simp only [hq]
  walk_at "dl"
  try simp only [hq]
  walk_at "dl"
  try simp only [hq]
  walk_at "dl"
  try simp only [hq]
  walk_at "dl"
  refine wFor_by (fun i τ M' => (∃ x1, τ = [some (callD p nm pl (.ref q)), x1]) ∧ But fs M M' ∧ ∃ fs', LF (ArF M' n) (as.drop i) (ds.drop i) fs' ∧ ∀ x ∈ fs', x ∈ fs) ⟨⟨_, rfl⟩, fun _ _ => rfl, fs, hl, fun x hx => hx⟩ ?_ ?_
  · rintro i d τ M' hdi ⟨⟨x1, rfl⟩, hb, fs', hl', hs⟩ nxt hn2
    have hi := (List.getElem?_eq_some_iff.mp hdi).1
    have ed : ds.drop i = d :: ds.drop (i + 1) := by rw [List.drop_eq_getElem_cons hi, (List.getElem?_eq_some_iff.mp hdi).2]
    rw [ed] at hl'
    obtain ⟨a, as', f, f', ea, rfl, ha, ht, hdj⟩ := hl'.undrop
    have hia : i < as.length := by omega
    have ea2 : as.drop i = as[i] :: as.drop (i + 1) := List.drop_eq_getElem_cons hia
    rw [ea2] at ea
    obtain ⟨rfl, rfl⟩ := List.cons.inj ea
    have hm : as[i] ∈ as := List.getElem_mem hia
    have oa := h5 _ hm
    have da := hd _ hm
    generalize as[i] = a at ha oa da
    have go : ∀ M2, But f M' M2 → nxt [some (callD p nm pl (.ref q)), some d] M2 := fun M2 h2 => hn2 _ _ ⟨⟨_, rfl⟩, fun b hb2 => by
      rw [h2 b fun z => hb2 (hs b (List.mem_append_left _ z)), hb b hb2], f', ht.agree fun y hy => h2 y fun z => hdj y z hy, fun x hx => hs x (List.mem_append_right _ hx)⟩
    unfold w_l_change_call_b1
    have leaf : a.dep = 0 → d = a.d := fun h => by
      cases n with
      | zero => exact ha.2.1
      | succ n =>
        cases a with
        | call p nm pl as => rw [Ar.dep] at h; omega
        | num i => exact ha.1
        | pass i => exact ha.1
        | loc i j => exact ha.1
    have q0 := go M' fun _ _ => rfl
    cases a with
    | num j =>
      have e := leaf (by rw [Ar.dep] <;> simp)
      rw [Ar.d] at e
      subst e
      try simp only [n_number_call]
      walk_at "dl"
      try simp only [n_number_call]
      walk_at "dl"
      try simp only [n_number_call]
      walk_at "dl"
      try simp only [n_number_call]
      walk_at "dl"
      try simp only [n_number_call]
      walk_at "dl"
      try simp only [n_number_call]
      walk_at "dl"
      try simp only [n_number_call]
      walk_at "dl"
      try simp only [n_number_call]
      walk_at "dl"
      try simp only [n_number_call]
      walk_at "dl"
      try simp only [n_number_call]
      walk_at "dl"
      exact q0
    | pass j =>
      have e := leaf (by rw [Ar.dep] <;> simp)
      rw [Ar.d] at e
      subst e
      try simp only [n_pass_call]
      walk_at "dl"
      try simp only [n_pass_call]
      walk_at "dl"
      try simp only [n_pass_call]
      walk_at "dl"
      try simp only [n_pass_call]
      walk_at "dl"
      try simp only [n_pass_call]
      walk_at "dl"
      try simp only [n_pass_call]
      walk_at "dl"
      try simp only [n_pass_call]
      walk_at "dl"
      try simp only [n_pass_call]
      walk_at "dl"
      try simp only [n_pass_call]
      walk_at "dl"
      try simp only [n_pass_call]
      walk_at "dl"
      exact q0
    | loc k x =>
      have e := leaf (by rw [Ar.dep] <;> simp)
      rw [Ar.d] at e
      subst e
      rw [Ar.ok] at oa
      obtain ⟨g1, g2, g3⟩ := loc_ne oa.1
      walk_at "dl"
      rw [if_neg g1]
      exact q0
    | call p2 nm2 pl2 as2 =>
      have ed2 : ∃ q2, d = callD p2 nm2 pl2 (.ref q2) := by
        cases n with
        | zero => exact absurd da call_dep0
        | succ n => obtain ⟨q2, ds2, fs2, e, _⟩ := ha; exact ⟨q2, e⟩
      obtain ⟨q2, rfl⟩ := ed2
      walk_at "dl"
      refine ⟨p2, nm2, pl2, as2, _, f, rfl, ha, oa, da, fun M2 h2 => ?_⟩
      exact go M2 h2
  · rintro τ M' ⟨⟨x1, rfl⟩, hb, _⟩
    have hq' : M' q = some (.lst ds) := by rw [hb q hn]; exact hq
    unfold w_l_change_call_c2
    try simp only [hq']
    walk_at "dl"
    try simp only [hq']
    walk_at "dl"
    try simp only [hq']
    walk_at "dl"
    try simp only [hq']
    walk_at "dl"
    try simp only [hq']
    walk_at "dl"
    try simp only [hq']
    walk_at "dl"
    try simp only [hq']
    walk_at "dl"
    try simp only [hq']
    walk_at "dl"
    try simp only [hq']
    walk_at "dl"
    try simp only [hq']
    walk_at "dl"
    refine ⟨by decide, by omega, by decide, by decide, hQ _ fun b hb2 => ?_⟩
    have n1 : b ≠ q := fun z => hb2 (by rw [z]; exact List.mem_cons_self)
    rw [put_ne n1, hb b fun z => hb2 (List.mem_cons_of_mem _ z)]
def sp_l_due : DSp := fun ds M Q _ => ∃ (x : D) (b : List St) (way : List Bool), ds = [x, .lst (way.map D.bl)] ∧ LstAt M x b ∧ Rdy b way ∧ ∀ M', Xt M M' → Q (.lst ((walkOf way b).ps.map St.d)) M'
def w_l_due : DTS := dSeq (dSet 2 (dLstM (daNil))) (dSeq (dDrop (dCall (sp_l_follow 4) (daCons (dVar 0) (daCons (dVar 1) (daCons (dLstM (daNil)) (daCons (dVar 2) (daNil))))))) (dRet (dFrz (dVar 2))))
theorem p_l_due : ∀ ds M Q E, sp_l_due ds M Q E → w_l_due (Ret Q E) (ds.map some ++ List.replicate (3 - 2) none) M := by
  rintro ds M Q E ⟨x, b, way, rfl, hx, hb, hQ⟩
  unfold w_l_due
  walk_at "dl"
  refine ⟨by decide, fun s hs => ⟨by decide, fun t ht => ?_⟩⟩
  have nts : t ≠ s := fun z => by rw [z, put_same] at ht; cases ht
  have ht' := ht
  rw [put_ne nts] at ht'
  have hp : PrgAt (put (put M s (.lst [])) t (.lst [])) x b t s := hx.elim .inl fun ⟨a, e, ha⟩ => by
    have n1 : a ≠ t := fun z => by rw [z, ht'] at ha; cases ha
    have n2 : a ≠ s := fun z => by rw [z, hs] at ha; cases ha
    exact .inr ⟨a, e, by rw [put_ne n1, put_ne n2]; exact ha, n1, n2⟩
  refine ⟨_, _, t, s, b, way, ⟨[], []⟩, rfl, hp, .inl rfl, ⟨put_same, by rw [put_ne (Ne.symm nts), put_same]; rfl, nts⟩, hb.len, hb.ok, by have := hb.dep; omega, hb.sz, hb.rm, fun M' h T => ?_⟩
  try simp only [h.ps]
  walk_at "dl"
  try simp only [h.ps]
  walk_at "dl"
  try simp only [h.ps]
  walk_at "dl"
  try simp only [h.ps]
  walk_at "dl"
  try simp only [h.ps]
  walk_at "dl"
  try simp only [h.ps]
  walk_at "dl"
  try simp only [h.ps]
  walk_at "dl"
  try simp only [h.ps]
  walk_at "dl"
  try simp only [h.ps]
  walk_at "dl"
  try simp only [h.ps]
  walk_at "dl"
  refine hQ _ fun c o e => ?_
  have nt : c ≠ t := fun z => by rw [z, ht'] at e; cases e
  have ns : c ≠ s := fun z => by rw [z, hs] at e; cases e
  rw [del_ne ns]
  exact T c o nt ns (by rw [put_ne nt, put_ne ns]; exact e)
theorem rdy_ {b : List St} {way : List Bool} (ho : stsOk b) (hd : stsDep b ≤ 3) (hz : stsSz b ≤ 40) (hw : way.length ≤ 40) : Rdy b way ∧ (walkOf way b).ps.length ≤ 4000 := by
  have r : rr way ⟨[], []⟩ ≤ 40 := by unfold rr; simp; omega
  have e1 : (⟨[], []⟩ : Wk).tk.length = 0 := rfl
  have e2 : (⟨[], []⟩ : Wk).ps.length = 0 := rfl
  refine ⟨⟨ho, hd, by omega, by omega, ?_⟩, ?_⟩
  · unfold Rm
    have m : stsSz b * (1 + rr way ⟨[], []⟩) ≤ 40 * 41 := Nat.mul_le_mul hz (by omega)
    rw [e1, e2]; omega
  · have g := (stsGr way b ⟨[], []⟩).le
    have m : stsSz b * (1 + (rr way ⟨[], []⟩ - rr way (stsFw way b ⟨[], []⟩))) ≤ 40 * 41 := Nat.mul_le_mul hz (by omega)
    rw [e1, e2] at g
    unfold walkOf
    omega
theorem stF_vw {M : Mu} {s : St} {d : D} {fp : List Addr} (h : StF M s d fp) (ho : s.ok) : vw M 19 d = s.d := by
  cases s with
  | hold n k pl =>
    rw [h.1]
    exact vw_pln M (St.pl _ ho (k := 19) (by rw [St.sz] <;> simp) (by rw [St.dep] <;> simp))
  | act p nm pl as =>
    obtain ⟨c, rfl, h⟩ := h
    rw [St.ok] at ho
    show D.tup [vw M 18 _, vw M 18 _] = _
    rw [vw_st, h.vw ho.1 (Nat.le_trans ho.2 (by decide)) (by decide), act_d']
  | again b => exact h.elim
  | either a b => exact h.elim
theorem lf_vw {M : Mu} : ∀ {as : List St} {ds : List D} {fs : List Addr}, LF (StF M) as ds fs → (∀ s ∈ as, s.ok) → ds.map (vw M 19) = as.map St.d
  | _, _, _, .nil, _ => rfl
  | _, _, _, .cons h t _, e => by
    rw [List.map_cons, List.map_cons, stF_vw h (e _ List.mem_cons_self), lf_vw t fun s hs => e s (List.mem_cons_of_mem _ hs)]
theorem told_vw {M : Mu} {q : Addr} {as : List St} {ds : List D} {fs : List Addr} (hq : M q = some (.lst ds)) (h : LF (StF M) as ds fs) (e : ∀ s ∈ as, s.ok) : vw M 20 (.ref q) = .lst (as.map St.d) := by
  show (match M q with
    | some (.lst ds) => D.lst (ds.map (DL.vw M 19))
    | _ => .ref q) = _
  rw [hq]
  show D.lst _ = _
  rw [lf_vw h e]
theorem ps_ok {way : List Bool} {b : List St} (ho : stsOk b) : ∀ s ∈ (walkOf way b).ps, s.ok ∧ s.sz = 1 ∧ s.dep = 0 := stsKeep way b ⟨[], []⟩ ho fun _ h => nomatch h
theorem ps_pl {way : List Bool} {b : List St} (ho : stsOk b) (hl : (walkOf way b).ps.length ≤ 4000) : pln 20 (.lst ((walkOf way b).ps.map St.d)) = true := pl_lst (by rw [List.length_map]; omega) fun d hd => by
  obtain ⟨x, hx, rfl⟩ := List.mem_map.mp hd
  obtain ⟨h1, h2, h3⟩ := ps_ok ho x hx
  exact St.pl x h1 (by omega) (by omega)
theorem ways_pl {l : List Bool} (h : l.length ≤ 2000) : pln 20 (.lst (l.map D.bl)) = true := pl_lst (by rw [List.length_map]; omega) fun d hd => by
  obtain ⟨c, _, rfl⟩ := List.mem_map.mp hd
  unfold pln; rfl
def sp_law : DSp := fun ds M Q _ => ∃ ns : List Int, ds = [.scr ns] ∧ ∀ M', Q (.bl true) M'
def w_law_b1 : DTS := dIfS (dTest (dOp gEq (dOp gIx (dVar 9) (dC (.int 0))) (dC (.str [100, 111])))) (dDrop (dCall (sp_l_change_call 5) (daCons (dOp gIx (dVar 9) (dC (.int 1))) (daNil)))) (dPass)
def w_law_c2 : DTS := dSeq (dDrop (dMt "list" gAppend (dVar 8) (daCons (dTup (daCons (dC (.str (T "hold"))) (daCons (dC (.str [97])) (daCons (dC (.str (T "note"))) (daCons (dC (.str [98])) (daNil)))))) (daNil)))) (dIfS (dNot (dTru (dCall (sp_l_same 20) (daCons (dVar 5) (daCons (dVar 3) (daNil)))))) (dRet (dC (.bl false))) (dPass))
def w_law_f3 : DTS := dSeq (dForR (diRef (dVar 8)) (dgName 9) (w_law_b1)) (w_law_c2)
def w_law_b4 : DTS := dSeq (dSet 7 (dCB gList (daCons (dOp gIx (dVar 4) (dVar 6)) (daNil)))) (dSeq (dSet 8 (dCall sp_straight (daCons (dVar 5) (daCons (dVar 7) (daNil))))) (dSeq (dIfS (dOr (dNot (dTru (dCall (sp_l_same 20) (daCons (dVar 8) (daCons (dCall sp_l_due (daCons (dVar 3) (daCons (dOp gIx (dVar 4) (dVar 6)) (daNil)))) (daNil)))))) (dNot (dTru (dCall (sp_l_same 20) (daCons (dVar 7) (daCons (dOp gIx (dVar 4) (dVar 6)) (daNil))))))) (dRet (dC (.bl false))) (dPass)) (w_law_f3)))
def w_law_c5 : DTS := dSeq (dSet 9 (dCall sp_l_simple (daCons (dVar 1) (daCons (dVar 2) (daCons (dLstM (daCons (dC (.int 3)) (daNil))) (daNil)))))) (dSeq (dSet 10 (dCall sp_l_draw (daCons (dVar 1) (daCons (dOp gAdd (dCB gLen (daCons (dVar 3) (daNil))) (dC (.int 1))) (daNil))))) (dSeq (dDrop (dMt "list" gInsert (dVar 3) (daCons (dVar 10) (daCons (dVar 9) (daNil))))) (dSeq (dDrop (dMt "list" gInsert (dVar 5) (daCons (dVar 10) (daCons (dOp gIx (dCall (sp_l_copy 4) (daCons (dLst (daCons (dVar 9) (daNil))) (daNil))) (dC (.int 0))) (daNil))))) (dRet (dCall (sp_l_same 20) (daCons (dCall sp_straight (daCons (dVar 5) (daCons (dCB gList (daCons (dOp gIx (dVar 4) (dC (.int 1))) (daNil))) (daNil)))) (daCons (dCall sp_l_due (daCons (dVar 3) (daCons (dOp gIx (dVar 4) (dC (.int 1))) (daNil)))) (daNil))))))))
def w_law_f6 : DTS := dSeq (dFor (diAny (dLst (daCons (dC (.int 0)) (daCons (dC (.int 1)) (daCons (dC (.int 2)) (daCons (dC (.int 0)) (daNil))))))) (dgName 6) (w_law_b4)) (w_law_c5)
def w_law : DTS := dSeq (dSet 1 (dCall sp_l_begin (daCons (dVar 0) (daNil)))) (dSeq (dSet 2 (dCall sp_l_places (daCons (dVar 1) (daCons (dC (.int 2)) (daNil))))) (dSeq (dSet 3 (dCall sp_l_branched (daCons (dVar 1) (daCons (dVar 2) (daCons (dC (.int 8)) (daNil)))))) (dSeq (dSet 4 (dLst (daCons (dCall sp_l_long_way (daCons (dVar 1) (daNil))) (daCons (dCall sp_l_long_way (daCons (dVar 1) (daNil))) (daCons (dLst (daNil)) (daNil)))))) (dSeq (dSet 5 (dCall (sp_l_copy 4) (daCons (dVar 3) (daNil)))) (w_law_f6)))))
structure Keep3 (p P H : Addr) (b : List St) (M : Mu) : Prop where
  src : Src M p
  hP : M P = some (.lst (b.map St.d))
  hH : M H = some (.lst (b.map St.d))
theorem Keep3.xt {p P H : Addr} {b : List St} {M M' : Mu} (k : Keep3 p P H b M) (x : Xt M M') : Keep3 p P H b M' := ⟨by
  obtain ⟨ns, t, r, d, e, z⟩ := k.src
  exact ⟨ns, t, r, d, x _ _ e, z⟩, x _ _ k.hP, x _ _ k.hH⟩
theorem Keep3.eq {p P H : Addr} {b : List St} {M M' : Mu} (k : Keep3 p P H b M) (x : ∀ a, a = p ∨ a = P ∨ a = H → M' a = M a) : Keep3 p P H b M' := ⟨by
  obtain ⟨ns, t, r, d, e, z⟩ := k.src
  exact ⟨ns, t, r, d, by rw [x p (.inl rfl)]; exact e, z⟩, by rw [x P (.inr (.inl rfl))]; exact k.hP, by rw [x H (.inr (.inr rfl))]; exact k.hH⟩
theorem law_b4 {x0 x2 x7 x8 x9 x10 : Option D} {p P H : Addr} {b : List St} {ways : List D} {i : Int} {way : List Bool} {M : Mu} {D0 : DEnds} (k : Keep3 p P H b M) (ho : stsOk b) (hd : stsDep b ≤ 3) (hz : stsSz b ≤ 40)
    (hi : atI ways i = some (.lst (way.map D.bl))) (hw : way.length ≤ 40) (hn : ∀ x7 x8 x9 M', Keep3 p P H b M' → D0.nx [x0, some (.ref p), x2, some (.ref P), some (.lst ways), some (.ref H), some (.int i), x7, x8, x9, x10] M') :
    w_law_b4 D0 [x0, some (.ref p), x2, some (.ref P), some (.lst ways), some (.ref H), some (.int i), x7, x8, x9, x10] M := by
  obtain ⟨rd, lp⟩ := rdy_ ho hd hz hw
  unfold w_law_b4
  try simp only [hi]
  walk_at "dl"
  try simp only [hi]
  walk_at "dl"
  try simp only [hi]
  walk_at "dl"
  try simp only [hi]
  walk_at "dl"
  try simp only [hi]
  walk_at "dl"
  try simp only [hi]
  walk_at "dl"
  try simp only [hi]
  walk_at "dl"
  try simp only [hi]
  walk_at "dl"
  try simp only [hi]
  walk_at "dl"
  try simp only [hi]
  walk_at "dl"
  refine ⟨.ref H, b, way, rfl, .inr ⟨H, rfl, k.hH⟩, rd, fun s dp fp M1 h1 h2 h3 hs e1 => ?_⟩
  have k1 := k.xt e1
  try simp only [hi]
  walk_at "dl"
  try simp only [hi]
  walk_at "dl"
  try simp only [hi]
  walk_at "dl"
  try simp only [hi]
  walk_at "dl"
  try simp only [hi]
  walk_at "dl"
  try simp only [hi]
  walk_at "dl"
  try simp only [hi]
  walk_at "dl"
  try simp only [hi]
  walk_at "dl"
  try simp only [hi]
  walk_at "dl"
  try simp only [hi]
  walk_at "dl"
  refine ⟨.ref P, b, way, rfl, .inr ⟨P, rfl, k1.hP⟩, rd, fun M2 e2 => ?_⟩
  have k2 := k1.xt e2
  have lf2 : LF (StF M2) (walkOf way b).ps dp fp := h2.agreeS fun y hy => by
    cases e : M1 y with
    | none => exact absurd e (h2.liveS y hy)
    | some o => exact e2 y o e
  have hs2 := e2 _ _ h1
  walk_at "dl"
  refine same_v (told_vw hs2 lf2 fun s hs => (ps_ok ho s hs).1) (vw_pln _ (ps_pl ho lp)) (ps_pl ho lp) ?_
  try simp only [hi]
  walk_at "dl"
  try simp only [hi]
  walk_at "dl"
  try simp only [hi]
  walk_at "dl"
  try simp only [hi]
  walk_at "dl"
  try simp only [hi]
  walk_at "dl"
  try simp only [hi]
  walk_at "dl"
  try simp only [hi]
  walk_at "dl"
  try simp only [hi]
  walk_at "dl"
  try simp only [hi]
  walk_at "dl"
  try simp only [hi]
  walk_at "dl"
  refine same_v (vw_pln _ (ways_pl (by omega))) (vw_pln _ (ways_pl (by omega))) (ways_pl (by omega)) ?_
  walk_at "dl"
  unfold w_law_f3
  try simp only [hs2]
  walk_at "dl"
  try simp only [hs2]
  walk_at "dl"
  try simp only [hs2]
  walk_at "dl"
  try simp only [hs2]
  walk_at "dl"
  try simp only [hs2]
  walk_at "dl"
  try simp only [hs2]
  walk_at "dl"
  try simp only [hs2]
  walk_at "dl"
  try simp only [hs2]
  walk_at "dl"
  try simp only [hs2]
  walk_at "dl"
  try simp only [hs2]
  walk_at "dl"
  have nfp : ∀ a, a = p ∨ a = P ∨ a = H → a ∉ fp := fun a ha hf => by
    have e := (h3 a hf).1
    rcases ha with rfl | rfl | rfl
    · exact src_ne_none k.src e
    · rw [k.hP] at e; cases e
    · rw [k.hH] at e; cases e
  have nsa : ∀ a, a = p ∨ a = P ∨ a = H → a ≠ s := fun a ha z => by
    rw [← z] at hs
    rcases ha with rfl | rfl | rfl
    · exact src_ne_none k.src hs
    · rw [k.hP] at hs; cases hs
    · rw [k.hH] at hs; cases hs
  have nsf : s ∉ fp := fun z => (h3 s z).2 rfl
  refine wForR_by (fun j τ M' => (∃ y9, τ = [x0, some (.ref p), x2, some (.ref P), some (.lst ways), some (.ref H), some (.int i), some (.lst (way.map D.bl)), some (.ref s), y9, x10]) ∧ But fp M2 M' ∧ ∃ fs', LF (StF M') ((walkOf way b).ps.drop j) (dp.drop j) fs' ∧ ∀ x ∈ fs', x ∈ fp) ⟨⟨_, rfl⟩, fun _ _ => rfl, fp, lf2, fun x hx => hx⟩ (fun j τ M' h => by rw [h.2.1 s nsf]; exact hs2) ?_ ?_
  · rintro j d τ M' hdj ⟨⟨y9, rfl⟩, hb, fs', hl', hsub⟩ nxt hn2
    have hj := (List.getElem?_eq_some_iff.mp hdj).1
    have ed : dp.drop j = d :: dp.drop (j + 1) := by rw [List.drop_eq_getElem_cons hj, (List.getElem?_eq_some_iff.mp hdj).2]
    rw [ed] at hl'
    obtain ⟨a, as', f, f', ea, rfl, ha, ht, hdj⟩ := hl'.undrop
    have hja : j < (walkOf way b).ps.length := by have := lf2.len; omega
    have ea2 : (walkOf way b).ps.drop j = (walkOf way b).ps[j] :: (walkOf way b).ps.drop (j + 1) := List.drop_eq_getElem_cons hja
    rw [ea2] at ea
    obtain ⟨rfl, rfl⟩ := List.cons.inj ea
    have oa := (ps_ok ho _ (List.getElem_mem hja)).1
    generalize (walkOf way b).ps[j] = a at ha oa
    have go : ∀ M3, But f M' M3 → nxt [x0, some (.ref p), x2, some (.ref P), some (.lst ways), some (.ref H), some (.int i), some (.lst (way.map D.bl)), some (.ref s), some d, x10] M3 := fun M3 h3 => hn2 _ _ ⟨⟨_, rfl⟩, fun c hc => by
      rw [h3 c fun z => hc (hsub c (List.mem_append_left _ z)), hb c hc], f', ht.agreeS fun y hy => h3 y fun z => hdj y z hy, fun x hx => hsub x (List.mem_append_right _ hx)⟩
    unfold w_law_b1
    cases a with
    | hold n kk pl =>
      rw [ha.1] at go ⊢
      rw [hold_d'] at go ⊢
      try simp only [n_hold_do]
      walk_at "dl"
      try simp only [n_hold_do]
      walk_at "dl"
      try simp only [n_hold_do]
      walk_at "dl"
      try simp only [n_hold_do]
      walk_at "dl"
      try simp only [n_hold_do]
      walk_at "dl"
      try simp only [n_hold_do]
      walk_at "dl"
      try simp only [n_hold_do]
      walk_at "dl"
      try simp only [n_hold_do]
      walk_at "dl"
      try simp only [n_hold_do]
      walk_at "dl"
      try simp only [n_hold_do]
      walk_at "dl"
      exact go M' fun _ _ => rfl
    | act pw nm pl as =>
      obtain ⟨c, rfl, hc⟩ := ha
      rw [St.ok] at oa
      walk_at "dl"
      exact ⟨pw, nm, pl, as, c, f, rfl, hc, oa.1, Nat.le_trans oa.2 (by decide), fun M3 h3 => go M3 h3⟩
    | again b => exact ha.elim
    | either a b => exact ha.elim
  · rintro τ M' ⟨⟨y9, rfl⟩, hb, _⟩
    have hs3 : M' s = some (.lst dp) := by rw [hb s nsf]; exact hs2
    unfold w_law_c2
    try simp only [hs3]
    walk_at "dl"
    try simp only [hs3]
    walk_at "dl"
    try simp only [hs3]
    walk_at "dl"
    try simp only [hs3]
    walk_at "dl"
    try simp only [hs3]
    walk_at "dl"
    try simp only [hs3]
    walk_at "dl"
    try simp only [hs3]
    walk_at "dl"
    try simp only [hs3]
    walk_at "dl"
    try simp only [hs3]
    walk_at "dl"
    try simp only [hs3]
    walk_at "dl"
    refine ⟨by decide, by have := lf2.len; omega, ?_⟩
    have k3 : Keep3 p P H b (put M' s (.lst (dp ++ [.tup [.str (T "hold"), .str [97], .str (T "note"), .str [98]]]))) := k2.eq fun a ha => by rw [put_ne (nsa a ha), hb a (nfp a ha)]
    have v1 := BlkAt.vw (.inr ⟨H, rfl, k3.hH⟩) ho (by omega) (k := 20) (by omega)
    have v2 := BlkAt.vw (.inr ⟨P, rfl, k3.hP⟩) ho (by omega) (k := 20) (by omega)
    refine same_v v1.1 v2.1 v1.2 ?_
    walk_at "dl"
    exact hn _ _ _ _ k3
theorem law_c5 {x0 x6 x7 x8 x9 x10 : Option D} {p P H : Addr} {b : List St} {ways : List D} {way : List Bool} {pls : List Tx} {M : Mu} {Q : DK} {E : DX} (k : Keep3 p P H b M) (nP : P ≠ p) (nH : H ≠ p) (nPH : P ≠ H) (ho : stsOk b) (hd : stsDep b ≤ 3) (hz : stsSz b ≤ 20) (hp : Pls pls)
    (hi : atI ways 1 = some (.lst (way.map D.bl))) (hw : way.length ≤ 40) (hQ : ∀ M', Q (.bl true) M') :
    w_law_c5 (Ret Q E) [x0, some (.ref p), some (.lst (pls.map D.str)), some (.ref P), some (.lst ways), some (.ref H), x6, x7, x8, x9, x10] M := by
  unfold w_law_c5
  walk_at "dl"
  refine ⟨by decide, fun r hr => ?_⟩
  have npr : p ≠ r := fun z => src_ne_none k.src (by rw [z]; exact hr)
  have nPr : P ≠ r := fun z => by have := k.hP; rw [z, hr] at this; cases this
  have nHr : H ≠ r := fun z => by have := k.hH; rw [z, hr] at this; cases this
  have k0 : Keep3 p P H b (put M r (.lst [.int 3])) := k.xt ((Xt.refl M).put hr)
  refine ⟨p, r, 3, pls, rfl, k0.src, put_same, npr, hp, fun s k' M1 os ds zs _ _ t1 => ?_⟩
  have k1 : Keep3 p P H b M1 := ⟨t1.src, t1.st P _ nP nPr k0.hP, t1.st H _ nH nHr k0.hH⟩
  try simp only [k1.hP]
  walk_at "dl"
  try simp only [k1.hP]
  walk_at "dl"
  try simp only [k1.hP]
  walk_at "dl"
  try simp only [k1.hP]
  walk_at "dl"
  try simp only [k1.hP]
  walk_at "dl"
  try simp only [k1.hP]
  walk_at "dl"
  try simp only [k1.hP]
  walk_at "dl"
  try simp only [k1.hP]
  walk_at "dl"
  try simp only [k1.hP]
  walk_at "dl"
  try simp only [k1.hP]
  walk_at "dl"
  refine draw_ k1.src (by omega) (by have := sz_len (b := b); rw [List.length_map]; omega) fun at_ M2 a0 a1 s2 => ?_
  have k2 : Keep3 p P H b M2 := ⟨s2.1, by rw [s2.2 P nP]; exact k1.hP, by rw [s2.2 H nH]; exact k1.hH⟩
  rw [List.length_map] at a1
  try simp only [k2.hP]
  walk_at "dl"
  try simp only [k2.hP]
  walk_at "dl"
  try simp only [k2.hP]
  walk_at "dl"
  try simp only [k2.hP]
  walk_at "dl"
  try simp only [k2.hP]
  walk_at "dl"
  try simp only [k2.hP]
  walk_at "dl"
  try simp only [k2.hP]
  walk_at "dl"
  try simp only [k2.hP]
  walk_at "dl"
  try simp only [k2.hP]
  walk_at "dl"
  try simp only [k2.hP]
  walk_at "dl"
  have lb := sz_len (b := b)
  refine ⟨by rw [List.length_map]; omega, a0, by omega, ?_⟩
  have hH2 : put M2 P (.lst ((b.map St.d).take at_.toNat ++ [s.d] ++ (b.map St.d).drop at_.toNat)) H = some (.lst (b.map St.d)) := by rw [put_ne (Ne.symm nPH)]; exact k2.hH
  generalize eM3 : put M2 P (.lst ((b.map St.d).take at_.toNat ++ [s.d] ++ (b.map St.d).drop at_.toNat)) = M3 at hH2
  have hP3 : M3 P = some (.lst ((b.map St.d).take at_.toNat ++ [s.d] ++ (b.map St.d).drop at_.toNat)) := by rw [← eM3]; exact put_same
  have eb : (b.map St.d).take at_.toNat ++ [s.d] ++ (b.map St.d).drop at_.toNat = (b.take at_.toNat ++ [s] ++ b.drop at_.toNat).map St.d := by
    rw [List.map_append, List.map_append, List.map_take, List.map_drop]; rfl
  have ob : stsOk (b.take at_.toNat ++ [s] ++ b.drop at_.toNat) := stsOk_all.mpr fun x hx => by
    have h0 := stsOk_all.mp ho
    rcases List.mem_append.mp hx with hx | hx
    · rcases List.mem_append.mp hx with hx | hx
      · exact h0 x (List.mem_of_mem_take hx)
      · rw [List.mem_singleton.mp hx]; exact os
    · exact h0 x (List.mem_of_mem_drop hx)
  have db : stsDep (b.take at_.toNat ++ [s] ++ b.drop at_.toNat) ≤ 3 := stsDep_le.mpr fun x hx => by
    have h0 := stsDep_le.mp hd
    rcases List.mem_append.mp hx with hx | hx
    · rcases List.mem_append.mp hx with hx | hx
      · exact h0 x (List.mem_of_mem_take hx)
      · rw [List.mem_singleton.mp hx]; omega
    · exact h0 x (List.mem_of_mem_drop hx)
  have zb : stsSz (b.take at_.toNat ++ [s] ++ b.drop at_.toNat) ≤ 40 := by
    have e := stsSz_app (a := b.take at_.toNat) (b := b.drop at_.toNat)
    rw [List.take_append_drop] at e
    rw [stsSz_app, stsSz_app, stsSz, stsSz]
    omega
  generalize hb2 : b.take at_.toNat ++ [s] ++ b.drop at_.toNat = b2 at eb ob db zb
  obtain ⟨rd, lp⟩ := rdy_ ob db zb hw
  rw [eb] at hP3
  try simp only [hH2]
  walk_at "dl"
  try simp only [hH2]
  walk_at "dl"
  try simp only [hH2]
  walk_at "dl"
  try simp only [hH2]
  walk_at "dl"
  try simp only [hH2]
  walk_at "dl"
  try simp only [hH2]
  walk_at "dl"
  try simp only [hH2]
  walk_at "dl"
  try simp only [hH2]
  walk_at "dl"
  try simp only [hH2]
  walk_at "dl"
  try simp only [hH2]
  walk_at "dl"
  refine ⟨by decide, _, [s], rfl, .inl rfl, stsOk_all.mpr fun x hx => by rw [List.mem_singleton.mp hx]; exact os, by rw [stsDep, stsDep]; omega, by rw [stsSz, stsSz]; omega, fun q M4 hq hq' x4 => ?_⟩
  have hH4 := x4 _ _ hH2
  have hP4 := x4 _ _ hP3
  try simp only [hq', hH4]
  walk_at "dl"
  try simp only [hq', hH4]
  walk_at "dl"
  try simp only [hq', hH4]
  walk_at "dl"
  try simp only [hq', hH4]
  walk_at "dl"
  try simp only [hq', hH4]
  walk_at "dl"
  try simp only [hq', hH4]
  walk_at "dl"
  try simp only [hq', hH4]
  walk_at "dl"
  try simp only [hq', hH4]
  walk_at "dl"
  try simp only [hq', hH4]
  walk_at "dl"
  try simp only [hq', hH4]
  walk_at "dl"
  refine ⟨by rw [List.length_map]; omega, a0, by omega, ?_⟩
  rw [eb]
  have hP5 : put M4 H (.lst (b2.map St.d)) P = some (.lst (b2.map St.d)) := by rw [put_ne nPH]; exact hP4
  have hH5 : put M4 H (.lst (b2.map St.d)) H = some (.lst (b2.map St.d)) := put_same
  generalize put M4 H (.lst (b2.map St.d)) = M5 at hP5 hH5
  try simp only [hi]
  walk_at "dl"
  try simp only [hi]
  walk_at "dl"
  try simp only [hi]
  walk_at "dl"
  try simp only [hi]
  walk_at "dl"
  try simp only [hi]
  walk_at "dl"
  try simp only [hi]
  walk_at "dl"
  try simp only [hi]
  walk_at "dl"
  try simp only [hi]
  walk_at "dl"
  try simp only [hi]
  walk_at "dl"
  try simp only [hi]
  walk_at "dl"
  refine ⟨.ref H, b2, way, rfl, .inr ⟨H, rfl, hH5⟩, rd, fun t dp fp M6 h1 h2 h3 ht x6 => ?_⟩
  try simp only [hi]
  walk_at "dl"
  try simp only [hi]
  walk_at "dl"
  try simp only [hi]
  walk_at "dl"
  try simp only [hi]
  walk_at "dl"
  try simp only [hi]
  walk_at "dl"
  try simp only [hi]
  walk_at "dl"
  try simp only [hi]
  walk_at "dl"
  try simp only [hi]
  walk_at "dl"
  try simp only [hi]
  walk_at "dl"
  try simp only [hi]
  walk_at "dl"
  refine ⟨.ref P, b2, way, rfl, .inr ⟨P, rfl, x6 _ _ hP5⟩, rd, fun M7 x7 => ?_⟩
  have lf2 : LF (StF M7) (walkOf way b2).ps dp fp := h2.agreeS fun y hy => by
    cases e : M6 y with
    | none => exact absurd e (h2.liveS y hy)
    | some o => exact x7 y o e
  walk_at "dl"
  refine same_v (told_vw (x7 _ _ h1) lf2 fun s hs => (ps_ok ob s hs).1) (vw_pln _ (ps_pl ob lp)) (ps_pl ob lp) ?_
  exact hQ _
theorem p_law : ∀ ds M Q E, sp_law ds M Q E → w_law (Ret Q E) (ds.map some ++ List.replicate (11 - 1) none) M := by
  rintro ds M Q E ⟨ns, rfl, hQ⟩
  unfold w_law
  walk_at "dl"
  refine ⟨ns, rfl, fun p M1 hp s1 => ?_⟩
  walk_at "dl"
  refine ⟨p, 2, rfl, s1.1, by decide, by decide, fun pls M2 hpl hpc s2 => ?_⟩
  walk_at "dl"
  refine ⟨p, 8, pls, rfl, by decide, by decide, s2.src, hpl, fun b q M3 hq hq' ho hd hz s3 => ?_⟩
  have nqp : q ≠ p := (SX0.refl s2.src).ne hq
  walk_at "dl"
  refine ⟨p, rfl, s3.src, fun w0 M4 l0 s4 => ?_⟩
  walk_at "dl"
  refine ⟨p, rfl, s4.src, fun w1 M5 l1 s5 => ?_⟩
  have hz' : stsSz b ≤ 19 := hz
  have hq5 : M5 q = some (.lst (b.map St.d)) := (s4.trans s5).st q _ nqp hq'
  walk_at "dl"
  refine ⟨by decide, by decide, .ref q, b, rfl, .inr ⟨q, rfl, hq5⟩, ho, by omega, by omega, fun H M6 hH hH' x6 => ?_⟩
  have nHp : H ≠ p := fun z => src_ne_none s5.src (by rw [← z]; exact hH)
  have nqH : q ≠ H := fun z => by rw [z, hH] at hq5; cases hq5
  have k6 : Keep3 p q H b M6 := ⟨(by
    obtain ⟨ns, t, r, d, e, z⟩ := s5.src
    exact ⟨ns, t, r, d, x6 _ _ e, z⟩), x6 _ _ hq5, hH'⟩
  unfold w_law_f6
  walk_at "dl"
  have at_ok : ∀ (i : Nat) (d : D), ([D.int 0, .int 1, .int 2, .int 0] : List D)[i]? = some d → ∃ (k : Int) (way : List Bool), d = .int k ∧ atI [D.lst (w0.map D.bl), .lst (w1.map D.bl), .lst []] k = some (.lst (way.map D.bl)) ∧ way.length ≤ 40 := by
    intro i d hi
    have hm := List.mem_of_getElem? hi
    simp only [List.mem_cons, List.not_mem_nil, or_false] at hm
    rcases hm with rfl | rfl | rfl | rfl
    · exact ⟨0, w0, rfl, atI_0, l0⟩
    · exact ⟨1, w1, rfl, atI_1, l1⟩
    · exact ⟨2, [], rfl, atI_2, by decide⟩
    · exact ⟨0, w0, rfl, atI_0, l0⟩
  refine ⟨by decide, ?_⟩
  refine wFor_by (fun _ τ M' => (∃ y6 y7 y8 y9, τ = [some (.scr ns), some (.ref p), some (.lst (pls.map D.str)), some (.ref q), some (.lst [D.lst (w0.map D.bl), .lst (w1.map D.bl), .lst []]), some (.ref H), y6, y7, y8, y9, none]) ∧ Keep3 p q H b M') ⟨⟨_, _, _, _, rfl⟩, k6⟩ ?_ ?_
  · rintro i d τ M' hdi ⟨⟨y6, y7, y8, y9, rfl⟩, k⟩ nxt hn
    obtain ⟨kk, way, rfl, ha, hl⟩ := at_ok i d hdi
    walk_at "dl"
    exact law_b4 k ho hd (by omega) ha hl fun _ _ _ M8 k8 => hn _ _ ⟨⟨_, _, _, _, rfl⟩, k8⟩
  · rintro τ M' ⟨⟨y6, y7, y8, y9, rfl⟩, k⟩
    exact law_c5 k nqp nHp nqH ho hd (by omega) hpl atI_1 l1 hQ
end DL

namespace Lw
open PySem L2 DL
structure Md (w : World) (K : PySem.W.Frag) (mg : Str → Option Value) : Prop where
  n_bool : mg "bool" = none
  n_int : mg "int" = none
  n_isinstance : mg "isinstance" = none
  n_len : mg "len" = none
  n_list : mg "list" = none
  n_range : mg "range" = none
  n_str : mg "str" = none
  n_tuple : mg "tuple" = none
  cls_Walker : Cls K (He.ga K "Walker")
  na_Walker_passed : NoAttr K (He.ga K "Walker") "passed"
  mk_Walker : Mk K (He.ga K "Walker") (He.ma K (He.ga K "Walker") "__init__")
  k_Walker : mg "Walker" = some (.ref (He.ga K "Walker"))
  na_Walkerway : NoAttr K (He.ga K "Walker") "_way"
  na_Walker_taken : NoAttr K (He.ga K "Walker") "taken"
section
variable {P : Program} {w : World} {K : PySem.W.Frag} {mg : Str → Option Value} {base : Heap}
theorem sc_l_begin : FnScope ["_law_script"] ["_law_script"] (defScope s_l_begin) := ⟨rfl, rfl, rfl, by decide +kernel, rfl, by decide +kernel, by decide +kernel⟩
theorem ok_l_begin {f : Addr} {fd : FuncData} (F : FunD K "_law_begin" "_law_begin" (defArgs s_l_begin) (defBody s_l_begin) (defScope s_l_begin) [] [] f fd) (B : Md w K mg)  : FnOk P w K mg base (L2.CX P w) (1) f fd ["_law_script"] (lsp K sp_l_begin) :=
  def_ok (N := ["_law_script"]) (k := 0) (t := w_l_begin) F sc_l_begin (by intro ds M Q E h; unfold sp_l_begin at h; first | (obtain ⟨rfl, _⟩ := h; rfl) | (obtain ⟨_, rfl, _⟩ := h; rfl) | (obtain ⟨_, _, rfl, _⟩ := h; rfl) | (obtain ⟨_, _, _, rfl, _⟩ := h; rfl) | (obtain ⟨_, _, _, _, rfl, _⟩ := h; rfl) | (obtain ⟨_, _, _, _, _, rfl, _⟩ := h; rfl) | (obtain ⟨_, _, _, _, _, _, rfl, _⟩ := h; rfl) | (obtain ⟨_, _, _, _, _, _, _, rfl, _⟩ := h; rfl) | (obtain ⟨_, _, _, _, _, _, _, _, rfl, _⟩ := h; rfl) | (obtain ⟨_, _, _, _, _, _, _, _, _, rfl, _⟩ := h; rfl) | (obtain ⟨_, _, _, _, _, _, _, _, _, _, rfl, _⟩ := h; rfl) | (obtain ⟨_, _, _, _, _, _, _, _, _, _, _, rfl, _⟩ := h; rfl) | (obtain ⟨_, _, _, _, _, _, _, _, _, _, _, _, rfl, _⟩ := h; rfl) | (obtain ⟨_, _, _, _, _, _, _, _, _, _, _, _, _, rfl, _⟩ := h; rfl))
    (fun cdv A outer s H E G hr => by exact dss_one (ds_ret (de_lstM (da_cons (de_callTy cb_list call_list_of B.n_list PyProof.Rows.boot_list (da_cons (de_var 0) (da_nil))) (da_cons (de_int) (da_cons (de_un un_neg ud_neg (de_int)) (da_cons (de_int) (da_nil)))))))) p_l_begin
theorem sc_l_draw : FnScope ["_law_source", "_law_size", "_law_number", "_law_drawn", "_law_mixed"] ["_law_source", "_law_size"] (defScope s_l_draw) := ⟨rfl, rfl, rfl, by decide +kernel, rfl, by decide +kernel, by decide +kernel⟩
theorem ok_l_draw {f : Addr} {fd : FuncData} (F : FunD K "_law_draw" "_law_draw" (defArgs s_l_draw) (defBody s_l_draw) (defScope s_l_draw) [] [] f fd) (B : Md w K mg)  : FnOk P w K mg base (L2.CX P w) (1) f fd ["_law_source", "_law_size"] (lsp K sp_l_draw) :=
  def_ok (N := ["_law_source", "_law_size", "_law_number", "_law_drawn", "_law_mixed"]) (k := 0) (t := w_l_draw) F sc_l_draw (by intro ds M Q E h; unfold sp_l_draw at h; first | (obtain ⟨rfl, _⟩ := h; rfl) | (obtain ⟨_, rfl, _⟩ := h; rfl) | (obtain ⟨_, _, rfl, _⟩ := h; rfl) | (obtain ⟨_, _, _, rfl, _⟩ := h; rfl) | (obtain ⟨_, _, _, _, rfl, _⟩ := h; rfl) | (obtain ⟨_, _, _, _, _, rfl, _⟩ := h; rfl) | (obtain ⟨_, _, _, _, _, _, rfl, _⟩ := h; rfl) | (obtain ⟨_, _, _, _, _, _, _, rfl, _⟩ := h; rfl) | (obtain ⟨_, _, _, _, _, _, _, _, rfl, _⟩ := h; rfl) | (obtain ⟨_, _, _, _, _, _, _, _, _, rfl, _⟩ := h; rfl) | (obtain ⟨_, _, _, _, _, _, _, _, _, _, rfl, _⟩ := h; rfl) | (obtain ⟨_, _, _, _, _, _, _, _, _, _, _, rfl, _⟩ := h; rfl) | (obtain ⟨_, _, _, _, _, _, _, _, _, _, _, _, rfl, _⟩ := h; rfl) | (obtain ⟨_, _, _, _, _, _, _, _, _, _, _, _, _, rfl, _⟩ := h; rfl))
    (fun cdv A outer s H E G hr => by exact dss_cons (ds_if (dt_cmp op_ge od_b (de_ix G (de_var 0) (de_int)) (de_callB cb_len call_lenA B.n_len PySem.boot_len (da_cons (de_ix G (de_var 0) (de_int)) (da_nil))) (by first | exact nomark _ | rfl | with_unfolding_all rfl)) (dss_one (ds_ret (de_int))) (dss_nil)) (dss_cons (ds_set 2 G (de_ix G (de_ix G (de_var 0) (de_int)) (de_ix G (de_var 0) (de_int)))) (dss_cons (ds_if (dt_cmp op_lt od_b (de_var 2) (de_int) (by first | exact nomark _ | rfl | with_unfolding_all rfl)) (dss_one (ds_set 2 G (de_op op_sub od_sub (de_un un_neg ud_neg (de_int)) (de_var 2)))) (dss_nil)) (dss_cons (ds_if (dt_cmp op_lt od_b (de_ix G (de_var 0) (de_int)) (de_int) (by first | exact nomark _ | rfl | with_unfolding_all rfl)) (dss_cons (ds_asg (de_var 2) (dg_setA G (de_var 0) (de_int))) (dss_one (ds_asg (de_int) (dg_setA G (de_var 0) (de_int))))) (dss_nil)) (dss_cons (ds_asg (de_op op_addA od_add (de_ix G (de_var 0) (de_int)) (de_int)) (dg_setA G (de_var 0) (de_int))) (dss_cons (ds_if (dt_cmp op_ge od_b (de_var 2) (de_op op_pow od_pow (de_int) (de_int)) (by first | exact nomark _ | rfl | with_unfolding_all rfl)) (dss_cons (ds_set 3 G (de_op op_mod od_mod (de_callTy cb_int call_int1 B.n_int PyProof.Rows.boot_int (da_cons (de_ix G (de_var 0) (de_int)) (da_nil))) (de_var 1))) (dss_cons (ds_asg (de_op op_fdiv od_div (de_ix G (de_var 0) (de_int)) (de_var 1)) (dg_setA G (de_var 0) (de_int))) (dss_one (ds_if (dt_w (dw_and (dt_cmp op_gt od_b (de_ix G (de_var 0) (de_int)) (de_int) (by first | exact nomark _ | rfl | with_unfolding_all rfl)) (dw_and1 (dt_cmp op_lt od_b (de_ix G (de_var 0) (de_int)) (de_int) (by first | exact nomark _ | rfl | with_unfolding_all rfl))))) (dss_one (ds_ret (de_var 3))) (dss_nil))))) (dss_one (ds_if (dt_cmp (op_eqN G) od_eq (de_ix G (de_var 0) (de_int)) (de_int) (by first | exact nomark _ | rfl | with_unfolding_all rfl)) (dss_cons (ds_set 4 G (de_op op_mod od_mod (de_callTy cb_int call_int1 B.n_int PyProof.Rows.boot_int (da_cons (de_op op_addA od_add (de_op op_addA od_add (de_op op_mul od_mul (de_var 2) (de_int)) (de_op op_mul od_mul (de_ix G (de_var 0) (de_int)) (de_int))) (de_int)) (da_nil))) (de_int))) (dss_one (ds_ret (de_op op_mod od_mod (de_callTy cb_int call_int1 B.n_int PyProof.Rows.boot_int (da_cons (de_op op_mod od_mod (de_callTy cb_int call_int1 B.n_int PyProof.Rows.boot_int (da_cons (de_op op_addA od_add (de_op op_mul od_mul (de_var 4) (de_int)) (de_int)) (da_nil))) (de_int)) (da_nil))) (de_var 1))))) (dss_cons (ds_set 4 G (de_op op_mod od_mod (de_callTy cb_int call_int1 B.n_int PyProof.Rows.boot_int (da_cons (de_op op_addA od_add (de_op op_addA od_add (de_op op_mul od_mul (de_var 2) (de_int)) (de_op op_mul od_mul (de_ix G (de_var 0) (de_int)) (de_int))) (de_int)) (da_nil))) (de_int))) (dss_one (ds_set 3 G (de_op op_mod od_mod (de_callTy cb_int call_int1 B.n_int PyProof.Rows.boot_int (da_cons (de_op op_mod od_mod (de_callTy cb_int call_int1 B.n_int PyProof.Rows.boot_int (da_cons (de_op op_addA od_add (de_op op_mul od_mul (de_var 4) (de_int)) (de_int)) (da_nil))) (de_int)) (da_nil))) (de_var 1)))))))) (dss_cons (ds_asg (de_op op_addA od_add (de_ix G (de_var 0) (de_int)) (de_int)) (dg_setA G (de_var 0) (de_int))) (dss_cons (ds_asg (de_un un_neg ud_neg (de_int)) (dg_setA G (de_var 0) (de_int))) (dss_one (ds_ret (de_var 3))))))))))) p_l_draw
theorem sc_l_pick : FnScope ["_law_source", "_law_row"] ["_law_source", "_law_row"] (defScope s_l_pick) := ⟨rfl, rfl, rfl, by decide +kernel, rfl, by decide +kernel, by decide +kernel⟩
theorem ok_l_pick {f : Addr} {fd : FuncData} (F : FunD K "_law_pick" "_law_pick" (defArgs s_l_pick) (defBody s_l_pick) (defScope s_l_pick) [] [] f fd) (B : Md w K mg) (F_l_draw : FnM P w K mg base 1 "_law_draw" sp_l_draw) : FnOk P w K mg base (L2.CX P w) (2) f fd ["_law_source", "_law_row"] (lsp K sp_l_pick) :=
  def_ok (N := ["_law_source", "_law_row"]) (k := 1) (t := w_l_pick) F sc_l_pick (by intro ds M Q E h; unfold sp_l_pick at h; first | (obtain ⟨rfl, _⟩ := h; rfl) | (obtain ⟨_, rfl, _⟩ := h; rfl) | (obtain ⟨_, _, rfl, _⟩ := h; rfl) | (obtain ⟨_, _, _, rfl, _⟩ := h; rfl) | (obtain ⟨_, _, _, _, rfl, _⟩ := h; rfl) | (obtain ⟨_, _, _, _, _, rfl, _⟩ := h; rfl) | (obtain ⟨_, _, _, _, _, _, rfl, _⟩ := h; rfl) | (obtain ⟨_, _, _, _, _, _, _, rfl, _⟩ := h; rfl) | (obtain ⟨_, _, _, _, _, _, _, _, rfl, _⟩ := h; rfl) | (obtain ⟨_, _, _, _, _, _, _, _, _, rfl, _⟩ := h; rfl) | (obtain ⟨_, _, _, _, _, _, _, _, _, _, rfl, _⟩ := h; rfl) | (obtain ⟨_, _, _, _, _, _, _, _, _, _, _, rfl, _⟩ := h; rfl) | (obtain ⟨_, _, _, _, _, _, _, _, _, _, _, _, rfl, _⟩ := h; rfl) | (obtain ⟨_, _, _, _, _, _, _, _, _, _, _, _, _, rfl, _⟩ := h; rfl))
    (fun cdv A outer s H E G hr => by exact dss_one (ds_ret (de_ix G (de_var 1) (de_call F_l_draw G (hr.mono (by omega)) (da_cons (de_var 0) (da_cons (de_callB cb_len call_lenA B.n_len PySem.boot_len (da_cons (de_var 1) (da_nil))) (da_nil))))))) p_l_pick
theorem sc_l_name : FnScope ["_law_source", "_law_text", "_law_k"] ["_law_source"] (defScope s_l_name) := ⟨rfl, rfl, rfl, by decide +kernel, rfl, by decide +kernel, by decide +kernel⟩
theorem ok_l_name {f : Addr} {fd : FuncData} (F : FunD K "_law_name" "_law_name" (defArgs s_l_name) (defBody s_l_name) (defScope s_l_name) [] [] f fd) (B : Md w K mg) (F_l_draw : FnM P w K mg base 1 "_law_draw" sp_l_draw) (F_l_pick : FnM P w K mg base 2 "_law_pick" sp_l_pick) : FnOk P w K mg base (L2.CX P w) (3) f fd ["_law_source"] (lsp K sp_l_name) :=
  def_ok (N := ["_law_source", "_law_text", "_law_k"]) (k := 2) (t := w_l_name) F sc_l_name (by intro ds M Q E h; unfold sp_l_name at h; first | (obtain ⟨rfl, _⟩ := h; rfl) | (obtain ⟨_, rfl, _⟩ := h; rfl) | (obtain ⟨_, _, rfl, _⟩ := h; rfl) | (obtain ⟨_, _, _, rfl, _⟩ := h; rfl) | (obtain ⟨_, _, _, _, rfl, _⟩ := h; rfl) | (obtain ⟨_, _, _, _, _, rfl, _⟩ := h; rfl) | (obtain ⟨_, _, _, _, _, _, rfl, _⟩ := h; rfl) | (obtain ⟨_, _, _, _, _, _, _, rfl, _⟩ := h; rfl) | (obtain ⟨_, _, _, _, _, _, _, _, rfl, _⟩ := h; rfl) | (obtain ⟨_, _, _, _, _, _, _, _, _, rfl, _⟩ := h; rfl) | (obtain ⟨_, _, _, _, _, _, _, _, _, _, rfl, _⟩ := h; rfl) | (obtain ⟨_, _, _, _, _, _, _, _, _, _, _, rfl, _⟩ := h; rfl) | (obtain ⟨_, _, _, _, _, _, _, _, _, _, _, _, rfl, _⟩ := h; rfl) | (obtain ⟨_, _, _, _, _, _, _, _, _, _, _, _, _, rfl, _⟩ := h; rfl))
    (fun cdv A outer s H E G hr => by exact dss_cons (ds_if (dt_cmp op_gt od_b (de_call F_l_draw G (hr.mono (by omega)) (da_cons (de_var 0) (da_cons (de_int) (da_nil)))) (de_int) (by first | exact nomark _ | rfl | with_unfolding_all rfl)) (dss_one (ds_ret (de_call F_l_pick G (hr.mono (by omega)) (da_cons (de_var 0) (da_cons (de_lst (da_cons (de_strc (by decide +kernel)) (da_cons (de_strc (by decide +kernel)) (da_cons (de_strc (by decide +kernel)) (da_cons (de_strc (by decide +kernel)) (da_cons (de_str) (da_cons (de_strc (by decide +kernel)) (da_cons (de_strc (by decide +kernel)) (da_cons (de_str) (da_nil)))))))))) (da_nil)))))) (dss_nil)) (dss_cons (ds_set 1 G (de_strc (by decide +kernel))) (dss_cons (ds_for G (di_rng1 B.n_range (da_cons (de_op op_addA od_add (de_int) (de_call F_l_draw G (hr.mono (by omega)) (da_cons (de_var 0) (da_cons (de_int) (da_nil))))) (da_nil))) (dg_name 2 G.nd) (dss_one (ds_set 1 G (de_op op_addA od_add (de_var 1) (de_call F_l_pick G (hr.mono (by omega)) (da_cons (de_var 0) (da_cons (de_str) (da_nil)))))))) (dss_one (ds_ret (de_var 1)))))) p_l_name
theorem sc_l_step : FnScope ["_law_source"] ["_law_source"] (defScope s_l_step) := ⟨rfl, rfl, rfl, by decide +kernel, rfl, by decide +kernel, by decide +kernel⟩
theorem ok_l_step {f : Addr} {fd : FuncData} (F : FunD K "_law_step" "_law_step" (defArgs s_l_step) (defBody s_l_step) (defScope s_l_step) [] [] f fd) (B : Md w K mg) (F_l_pick : FnM P w K mg base 2 "_law_pick" sp_l_pick) (F_l_name : FnM P w K mg base 3 "_law_name" sp_l_name) : FnOk P w K mg base (L2.CX P w) (4) f fd ["_law_source"] (lsp K sp_l_step) :=
  def_ok (N := ["_law_source"]) (k := 3) (t := w_l_step) F sc_l_step (by intro ds M Q E h; unfold sp_l_step at h; first | (obtain ⟨rfl, _⟩ := h; rfl) | (obtain ⟨_, rfl, _⟩ := h; rfl) | (obtain ⟨_, _, rfl, _⟩ := h; rfl) | (obtain ⟨_, _, _, rfl, _⟩ := h; rfl) | (obtain ⟨_, _, _, _, rfl, _⟩ := h; rfl) | (obtain ⟨_, _, _, _, _, rfl, _⟩ := h; rfl) | (obtain ⟨_, _, _, _, _, _, rfl, _⟩ := h; rfl) | (obtain ⟨_, _, _, _, _, _, _, rfl, _⟩ := h; rfl) | (obtain ⟨_, _, _, _, _, _, _, _, rfl, _⟩ := h; rfl) | (obtain ⟨_, _, _, _, _, _, _, _, _, rfl, _⟩ := h; rfl) | (obtain ⟨_, _, _, _, _, _, _, _, _, _, rfl, _⟩ := h; rfl) | (obtain ⟨_, _, _, _, _, _, _, _, _, _, _, rfl, _⟩ := h; rfl) | (obtain ⟨_, _, _, _, _, _, _, _, _, _, _, _, rfl, _⟩ := h; rfl) | (obtain ⟨_, _, _, _, _, _, _, _, _, _, _, _, _, rfl, _⟩ := h; rfl))
    (fun cdv A outer s H E G hr => by exact dss_one (ds_ret (de_op op_addA od_add (de_call F_l_pick G (hr.mono (by omega)) (da_cons (de_var 0) (da_cons (de_lst (da_cons (de_strc (by decide +kernel)) (da_cons (de_strc (by decide +kernel)) (da_nil)))) (da_nil)))) (de_call F_l_name G (hr.mono (by omega)) (da_cons (de_var 0) (da_nil)))))) p_l_step
theorem sc_l_tail : FnScope ["_law_source", "_law_most", "_law_tail_here", "_law_k"] ["_law_source", "_law_most"] (defScope s_l_tail) := ⟨rfl, rfl, rfl, by decide +kernel, rfl, by decide +kernel, by decide +kernel⟩
theorem ok_l_tail {f : Addr} {fd : FuncData} (F : FunD K "_law_tail" "_law_tail" (defArgs s_l_tail) (defBody s_l_tail) (defScope s_l_tail) [] [] f fd) (B : Md w K mg) (F_l_draw : FnM P w K mg base 1 "_law_draw" sp_l_draw) (F_l_step : FnM P w K mg base 4 "_law_step" sp_l_step) : FnOk P w K mg base (L2.CX P w) (5) f fd ["_law_source", "_law_most"] (lsp K sp_l_tail) :=
  def_ok (N := ["_law_source", "_law_most", "_law_tail_here", "_law_k"]) (k := 4) (t := w_l_tail) F sc_l_tail (by intro ds M Q E h; unfold sp_l_tail at h; first | (obtain ⟨rfl, _⟩ := h; rfl) | (obtain ⟨_, rfl, _⟩ := h; rfl) | (obtain ⟨_, _, rfl, _⟩ := h; rfl) | (obtain ⟨_, _, _, rfl, _⟩ := h; rfl) | (obtain ⟨_, _, _, _, rfl, _⟩ := h; rfl) | (obtain ⟨_, _, _, _, _, rfl, _⟩ := h; rfl) | (obtain ⟨_, _, _, _, _, _, rfl, _⟩ := h; rfl) | (obtain ⟨_, _, _, _, _, _, _, rfl, _⟩ := h; rfl) | (obtain ⟨_, _, _, _, _, _, _, _, rfl, _⟩ := h; rfl) | (obtain ⟨_, _, _, _, _, _, _, _, _, rfl, _⟩ := h; rfl) | (obtain ⟨_, _, _, _, _, _, _, _, _, _, rfl, _⟩ := h; rfl) | (obtain ⟨_, _, _, _, _, _, _, _, _, _, _, rfl, _⟩ := h; rfl) | (obtain ⟨_, _, _, _, _, _, _, _, _, _, _, _, rfl, _⟩ := h; rfl) | (obtain ⟨_, _, _, _, _, _, _, _, _, _, _, _, _, rfl, _⟩ := h; rfl))
    (fun cdv A outer s H E G hr => by exact dss_cons (ds_set 2 G (de_strc (by decide +kernel))) (dss_cons (ds_for G (di_rng1 B.n_range (da_cons (de_call F_l_draw G (hr.mono (by omega)) (da_cons (de_var 0) (da_cons (de_op op_addA od_add (de_var 1) (de_int)) (da_nil)))) (da_nil))) (dg_name 3 G.nd) (dss_one (ds_set 2 G (de_op op_addA od_add (de_var 2) (de_call F_l_step G (hr.mono (by omega)) (da_cons (de_var 0) (da_nil))))))) (dss_one (ds_ret (de_var 2))))) p_l_tail
theorem sc_l_place : FnScope ["_law_source", "_law_most"] ["_law_source"] (defScope s_l_place) := ⟨rfl, rfl, rfl, by decide +kernel, rfl, by decide +kernel, by decide +kernel⟩
theorem ok_l_place {f : Addr} {fd : FuncData} (F : FunD K "_law_place" "_law_place" (defArgs s_l_place) (defBody s_l_place) (defScope s_l_place) [] [] f fd) (B : Md w K mg) (F_l_draw : FnM P w K mg base 1 "_law_draw" sp_l_draw) (F_l_name : FnM P w K mg base 3 "_law_name" sp_l_name) (F_l_tail : FnM P w K mg base 5 "_law_tail" sp_l_tail) : FnOk P w K mg base (L2.CX P w) (6) f fd ["_law_source"] (lsp K sp_l_place) :=
  def_ok (N := ["_law_source", "_law_most"]) (k := 5) (t := w_l_place) F sc_l_place (by intro ds M Q E h; unfold sp_l_place at h; first | (obtain ⟨rfl, _⟩ := h; rfl) | (obtain ⟨_, rfl, _⟩ := h; rfl) | (obtain ⟨_, _, rfl, _⟩ := h; rfl) | (obtain ⟨_, _, _, rfl, _⟩ := h; rfl) | (obtain ⟨_, _, _, _, rfl, _⟩ := h; rfl) | (obtain ⟨_, _, _, _, _, rfl, _⟩ := h; rfl) | (obtain ⟨_, _, _, _, _, _, rfl, _⟩ := h; rfl) | (obtain ⟨_, _, _, _, _, _, _, rfl, _⟩ := h; rfl) | (obtain ⟨_, _, _, _, _, _, _, _, rfl, _⟩ := h; rfl) | (obtain ⟨_, _, _, _, _, _, _, _, _, rfl, _⟩ := h; rfl) | (obtain ⟨_, _, _, _, _, _, _, _, _, _, rfl, _⟩ := h; rfl) | (obtain ⟨_, _, _, _, _, _, _, _, _, _, _, rfl, _⟩ := h; rfl) | (obtain ⟨_, _, _, _, _, _, _, _, _, _, _, _, rfl, _⟩ := h; rfl) | (obtain ⟨_, _, _, _, _, _, _, _, _, _, _, _, _, rfl, _⟩ := h; rfl))
    (fun cdv A outer s H E G hr => by exact dss_cons (ds_set 1 G (de_int)) (dss_cons (ds_if (dt_cmp (op_eqN G) od_eq (de_call F_l_draw G (hr.mono (by omega)) (da_cons (de_var 0) (da_cons (de_int) (da_nil)))) (de_int) (by first | exact nomark _ | rfl | with_unfolding_all rfl)) (dss_one (ds_set 1 G (de_int))) (dss_nil)) (dss_one (ds_ret (de_op op_addA od_add (de_call F_l_name G (hr.mono (by omega)) (da_cons (de_var 0) (da_nil))) (de_call F_l_tail G (hr.mono (by omega)) (da_cons (de_var 0) (da_cons (de_var 1) (da_nil))))))))) p_l_place
theorem sc_l_parts : FnScope ["_law_node", "_law_parts_here", "_law_sign"] ["_law_node"] (defScope s_l_parts) := ⟨rfl, rfl, rfl, by decide +kernel, rfl, by decide +kernel, by decide +kernel⟩
theorem ok_l_parts {f : Addr} {fd : FuncData} (F : FunD K "_law_parts" "_law_parts" (defArgs s_l_parts) (defBody s_l_parts) (defScope s_l_parts) [] [] f fd) (B : Md w K mg)  : FnOk P w K mg base (L2.CX P w) (1) f fd ["_law_node"] (lsp K sp_l_parts) :=
  def_ok (N := ["_law_node", "_law_parts_here", "_law_sign"]) (k := 0) (t := w_l_parts) F sc_l_parts (by intro ds M Q E h; unfold sp_l_parts at h; first | (obtain ⟨rfl, _⟩ := h; rfl) | (obtain ⟨_, rfl, _⟩ := h; rfl) | (obtain ⟨_, _, rfl, _⟩ := h; rfl) | (obtain ⟨_, _, _, rfl, _⟩ := h; rfl) | (obtain ⟨_, _, _, _, rfl, _⟩ := h; rfl) | (obtain ⟨_, _, _, _, _, rfl, _⟩ := h; rfl) | (obtain ⟨_, _, _, _, _, _, rfl, _⟩ := h; rfl) | (obtain ⟨_, _, _, _, _, _, _, rfl, _⟩ := h; rfl) | (obtain ⟨_, _, _, _, _, _, _, _, rfl, _⟩ := h; rfl) | (obtain ⟨_, _, _, _, _, _, _, _, _, rfl, _⟩ := h; rfl) | (obtain ⟨_, _, _, _, _, _, _, _, _, _, rfl, _⟩ := h; rfl) | (obtain ⟨_, _, _, _, _, _, _, _, _, _, _, rfl, _⟩ := h; rfl) | (obtain ⟨_, _, _, _, _, _, _, _, _, _, _, _, rfl, _⟩ := h; rfl) | (obtain ⟨_, _, _, _, _, _, _, _, _, _, _, _, _, rfl, _⟩ := h; rfl))
    (fun cdv A outer s H E G hr => by exact dss_cons (ds_set 1 G (de_lstM (da_cons (de_strc (by decide +kernel)) (da_nil)))) (dss_cons (ds_for G (di_any (de_var 0)) (dg_name 2 G.nd) (dss_one (ds_if (dt_cmp (op_inN G) od_in (de_var 2) (de_strc (by decide +kernel)) (by first | exact nomark _ | rfl | with_unfolding_all rfl)) (dss_one (ds_expr (de_mt PySem.F.plainAttrs_list PySem.F.slot_list_append PySem.F.type_list_append md_append mt_append (de_var 1) (da_cons (de_var 2) (da_nil))))) (dss_one (ds_asg (de_op op_addA od_add (de_ix G (de_var 1) (de_un un_neg ud_neg (de_int))) (de_var 2)) (dg_setA G (de_var 1) (de_un un_neg ud_neg (de_int)))))))) (dss_one (ds_ret (de_frz (de_var 1)))))) p_l_parts
theorem sc_l_near : FnScope ["_law_source", "_law_place_here", "_law_parts_here", "_law_kind", "_law_last", "_law_mark"] ["_law_source", "_law_place_here"] (defScope s_l_near) := ⟨rfl, rfl, rfl, by decide +kernel, rfl, by decide +kernel, by decide +kernel⟩
theorem ok_l_near {f : Addr} {fd : FuncData} (F : FunD K "_law_near" "_law_near" (defArgs s_l_near) (defBody s_l_near) (defScope s_l_near) [] [] f fd) (B : Md w K mg) (F_l_parts : FnM P w K mg base 1 "_law_parts" sp_l_parts) (F_l_draw : FnM P w K mg base 1 "_law_draw" sp_l_draw) (F_l_step : FnM P w K mg base 4 "_law_step" sp_l_step) (F_l_pick : FnM P w K mg base 2 "_law_pick" sp_l_pick) (F_l_place : FnM P w K mg base 6 "_law_place" sp_l_place) : FnOk P w K mg base (L2.CX P w) (7) f fd ["_law_source", "_law_place_here"] (lsp K sp_l_near) :=
  def_ok (N := ["_law_source", "_law_place_here", "_law_parts_here", "_law_kind", "_law_last", "_law_mark"]) (k := 6) (t := w_l_near) F sc_l_near (by intro ds M Q E h; unfold sp_l_near at h; first | (obtain ⟨rfl, _⟩ := h; rfl) | (obtain ⟨_, rfl, _⟩ := h; rfl) | (obtain ⟨_, _, rfl, _⟩ := h; rfl) | (obtain ⟨_, _, _, rfl, _⟩ := h; rfl) | (obtain ⟨_, _, _, _, rfl, _⟩ := h; rfl) | (obtain ⟨_, _, _, _, _, rfl, _⟩ := h; rfl) | (obtain ⟨_, _, _, _, _, _, rfl, _⟩ := h; rfl) | (obtain ⟨_, _, _, _, _, _, _, rfl, _⟩ := h; rfl) | (obtain ⟨_, _, _, _, _, _, _, _, rfl, _⟩ := h; rfl) | (obtain ⟨_, _, _, _, _, _, _, _, _, rfl, _⟩ := h; rfl) | (obtain ⟨_, _, _, _, _, _, _, _, _, _, rfl, _⟩ := h; rfl) | (obtain ⟨_, _, _, _, _, _, _, _, _, _, _, rfl, _⟩ := h; rfl) | (obtain ⟨_, _, _, _, _, _, _, _, _, _, _, _, rfl, _⟩ := h; rfl) | (obtain ⟨_, _, _, _, _, _, _, _, _, _, _, _, _, rfl, _⟩ := h; rfl))
    (fun cdv A outer s H E G hr => by exact dss_cons (ds_set 2 G (de_call F_l_parts G (hr.mono (by omega)) (da_cons (de_var 1) (da_nil)))) (dss_cons (ds_set 3 G (de_call F_l_draw G (hr.mono (by omega)) (da_cons (de_var 0) (da_cons (de_int) (da_nil))))) (dss_cons (ds_if (dt_cmp op_lt od_b (de_var 3) (de_int) (by first | exact nomark _ | rfl | with_unfolding_all rfl)) (dss_one (ds_ret (de_var 1))) (dss_nil)) (dss_cons (ds_if (dt_cmp op_lt od_b (de_var 3) (de_int) (by first | exact nomark _ | rfl | with_unfolding_all rfl)) (dss_one (ds_ret (de_mt PySem.F.plainAttrs_str PySem.F.slot_str_join PySem.F.type_str_join md_join mt_join (de_strc (by decide +kernel)) (da_cons (de_sl (de_var 2) (do_none) (do_some (de_op op_addA od_add (de_int) (de_call F_l_draw G (hr.mono (by omega)) (da_cons (de_var 0) (da_cons (de_callB cb_len call_lenA B.n_len PySem.boot_len (da_cons (de_var 2) (da_nil))) (da_nil))))))) (da_nil))))) (dss_nil)) (dss_cons (ds_if (dt_w (dw_and (dt_cmp op_lt od_b (de_var 3) (de_int) (by first | exact nomark _ | rfl | with_unfolding_all rfl)) (dw_and1 (dt_cmp op_lt od_b (de_callB cb_len call_lenA B.n_len PySem.boot_len (da_cons (de_var 2) (da_nil))) (de_int) (by first | exact nomark _ | rfl | with_unfolding_all rfl))))) (dss_one (ds_ret (de_op op_addA od_add (de_var 1) (de_call F_l_step G (hr.mono (by omega)) (da_cons (de_var 0) (da_nil)))))) (dss_nil)) (dss_cons (ds_set 4 G (de_ix G (de_var 2) (de_un un_neg ud_neg (de_int)))) (dss_cons (ds_if (dt_w (dw_and (dt_cmp (op_eqN G) od_eq (de_var 3) (de_int) (by first | exact nomark _ | rfl | with_unfolding_all rfl)) (dw_and1 (dt_cmp op_gt od_b (de_callB cb_len call_lenA B.n_len PySem.boot_len (da_cons (de_var 2) (da_nil))) (de_int) (by first | exact nomark _ | rfl | with_unfolding_all rfl))))) (dss_cons (ds_set 5 G (de_strc (by decide +kernel))) (dss_cons (ds_if (dt_cmp (op_eqN G) od_eq (de_ix G (de_var 4) (de_int)) (de_strc (by decide +kernel)) (by first | exact nomark _ | rfl | with_unfolding_all rfl)) (dss_one (ds_set 5 G (de_strc (by decide +kernel)))) (dss_nil)) (dss_one (ds_ret (de_op op_addA od_add (de_op op_addA od_add (de_mt PySem.F.plainAttrs_str PySem.F.slot_str_join PySem.F.type_str_join md_join mt_join (de_strc (by decide +kernel)) (da_cons (de_sl (de_var 2) (do_none) (do_some (de_un un_neg ud_neg (de_int)))) (da_nil))) (de_var 5)) (de_sl (de_var 4) (do_some (de_int)) (do_none))))))) (dss_nil)) (dss_cons (ds_if (dt_w (dw_and (dt_cmp (op_eqN G) od_eq (de_var 3) (de_int) (by first | exact nomark _ | rfl | with_unfolding_all rfl)) (dw_and1 (dt_cmp op_lt od_b (de_callB cb_len call_lenA B.n_len PySem.boot_len (da_cons (de_var 4) (da_nil))) (de_int) (by first | exact nomark _ | rfl | with_unfolding_all rfl))))) (dss_one (ds_ret (de_op op_addA od_add (de_var 1) (de_call F_l_pick G (hr.mono (by omega)) (da_cons (de_var 0) (da_cons (de_str) (da_nil))))))) (dss_nil)) (dss_one (ds_ret (de_call F_l_place G (hr.mono (by omega)) (da_cons (de_var 0) (da_nil))))))))))))) p_l_near
theorem sc_l_places : FnScope ["_law_source", "_law_count", "_law_places_here", "_law_k"] ["_law_source", "_law_count"] (defScope s_l_places) := ⟨rfl, rfl, rfl, by decide +kernel, rfl, by decide +kernel, by decide +kernel⟩
theorem ok_l_places {f : Addr} {fd : FuncData} (F : FunD K "_law_places" "_law_places" (defArgs s_l_places) (defBody s_l_places) (defScope s_l_places) [] [] f fd) (B : Md w K mg) (F_l_place : FnM P w K mg base 6 "_law_place" sp_l_place) (F_l_near : FnM P w K mg base 7 "_law_near" sp_l_near) (F_l_pick : FnM P w K mg base 2 "_law_pick" sp_l_pick) : FnOk P w K mg base (L2.CX P w) (8) f fd ["_law_source", "_law_count"] (lsp K sp_l_places) :=
  def_ok (N := ["_law_source", "_law_count", "_law_places_here", "_law_k"]) (k := 7) (t := w_l_places) F sc_l_places (by intro ds M Q E h; unfold sp_l_places at h; first | (obtain ⟨rfl, _⟩ := h; rfl) | (obtain ⟨_, rfl, _⟩ := h; rfl) | (obtain ⟨_, _, rfl, _⟩ := h; rfl) | (obtain ⟨_, _, _, rfl, _⟩ := h; rfl) | (obtain ⟨_, _, _, _, rfl, _⟩ := h; rfl) | (obtain ⟨_, _, _, _, _, rfl, _⟩ := h; rfl) | (obtain ⟨_, _, _, _, _, _, rfl, _⟩ := h; rfl) | (obtain ⟨_, _, _, _, _, _, _, rfl, _⟩ := h; rfl) | (obtain ⟨_, _, _, _, _, _, _, _, rfl, _⟩ := h; rfl) | (obtain ⟨_, _, _, _, _, _, _, _, _, rfl, _⟩ := h; rfl) | (obtain ⟨_, _, _, _, _, _, _, _, _, _, rfl, _⟩ := h; rfl) | (obtain ⟨_, _, _, _, _, _, _, _, _, _, _, rfl, _⟩ := h; rfl) | (obtain ⟨_, _, _, _, _, _, _, _, _, _, _, _, rfl, _⟩ := h; rfl) | (obtain ⟨_, _, _, _, _, _, _, _, _, _, _, _, _, rfl, _⟩ := h; rfl))
    (fun cdv A outer s H E G hr => by exact dss_cons (ds_set 2 G (de_lstM (da_cons (de_call F_l_place G (hr.mono (by omega)) (da_cons (de_var 0) (da_nil))) (da_nil)))) (dss_cons (ds_for G (di_rng1 B.n_range (da_cons (de_op op_sub od_sub (de_var 1) (de_int)) (da_nil))) (dg_name 3 G.nd) (dss_one (ds_expr (de_mt PySem.F.plainAttrs_list PySem.F.slot_list_append PySem.F.type_list_append md_append mt_append (de_var 2) (da_cons (de_call F_l_near G (hr.mono (by omega)) (da_cons (de_var 0) (da_cons (de_call F_l_pick G (hr.mono (by omega)) (da_cons (de_var 0) (da_cons (de_var 2) (da_nil)))) (da_nil)))) (da_nil)))))) (dss_one (ds_ret (de_frz (de_var 2)))))) p_l_places
theorem sc_l_argument : FnScope ["_law_source", "_law_places_here", "_law_depth", "_law_room", "_law_kind"] ["_law_source", "_law_places_here", "_law_depth", "_law_room"] (defScope s_l_argument) := ⟨rfl, rfl, rfl, by decide +kernel, rfl, by decide +kernel, by decide +kernel⟩
theorem ok_l_argument {n k : Nat} {f : Addr} {fd : FuncData} (F : FunD K "_law_argument" "_law_argument" (defArgs s_l_argument) (defBody s_l_argument) (defScope s_l_argument) [] [] f fd) (B : Md w K mg) (F_l_draw : FnM P w K mg base k "_law_draw" sp_l_draw) (F_l_pick : FnM P w K mg base k "_law_pick" sp_l_pick) (F_l_call : FnM P w K mg base k "_law_call" (sp_l_call n)) : FnOk P w K mg base (L2.CX P w) (k + 1) f fd ["_law_source", "_law_places_here", "_law_depth", "_law_room"] (lsp K (sp_l_argument n)) :=
  def_ok (N := ["_law_source", "_law_places_here", "_law_depth", "_law_room", "_law_kind"]) (k := k) (t := (w_l_argument n)) F sc_l_argument (by intro ds M Q E h; unfold sp_l_argument at h; first | (obtain ⟨rfl, _⟩ := h; rfl) | (obtain ⟨_, rfl, _⟩ := h; rfl) | (obtain ⟨_, _, rfl, _⟩ := h; rfl) | (obtain ⟨_, _, _, rfl, _⟩ := h; rfl) | (obtain ⟨_, _, _, _, rfl, _⟩ := h; rfl) | (obtain ⟨_, _, _, _, _, rfl, _⟩ := h; rfl) | (obtain ⟨_, _, _, _, _, _, rfl, _⟩ := h; rfl) | (obtain ⟨_, _, _, _, _, _, _, rfl, _⟩ := h; rfl) | (obtain ⟨_, _, _, _, _, _, _, _, rfl, _⟩ := h; rfl) | (obtain ⟨_, _, _, _, _, _, _, _, _, rfl, _⟩ := h; rfl) | (obtain ⟨_, _, _, _, _, _, _, _, _, _, rfl, _⟩ := h; rfl) | (obtain ⟨_, _, _, _, _, _, _, _, _, _, _, rfl, _⟩ := h; rfl) | (obtain ⟨_, _, _, _, _, _, _, _, _, _, _, _, rfl, _⟩ := h; rfl) | (obtain ⟨_, _, _, _, _, _, _, _, _, _, _, _, _, rfl, _⟩ := h; rfl))
    (fun cdv A outer s H E G hr => by exact dss_cons (ds_set 4 G (de_call F_l_draw G (hr.mono (by omega)) (da_cons (de_var 0) (da_cons (de_int) (da_nil))))) (dss_cons (ds_if (dt_w (dw_or (dt_cmp (op_eqN G) od_eq (de_var 4) (de_int) (by first | exact nomark _ | rfl | with_unfolding_all rfl)) (dw_or1 (dt_cmp op_lt od_b (de_ix G (de_var 3) (de_int)) (de_int) (by first | exact nomark _ | rfl | with_unfolding_all rfl))))) (dss_one (ds_ret (de_tup (da_cons (de_str) (da_cons (de_op op_mod od_mod (de_callTy cb_int call_int1 B.n_int PyProof.Rows.boot_int (da_cons (de_call F_l_draw G (hr.mono (by omega)) (da_cons (de_var 0) (da_cons (de_int) (da_nil)))) (da_nil))) (de_int)) (da_nil)))))) (dss_nil)) (dss_cons (ds_if (dt_cmp (op_eqN G) od_eq (de_var 4) (de_int) (by first | exact nomark _ | rfl | with_unfolding_all rfl)) (dss_one (ds_ret (de_tup (da_cons (de_str) (da_cons (de_call F_l_pick G (hr.mono (by omega)) (da_cons (de_var 0) (da_cons (de_lst (da_cons (de_strc (by decide +kernel)) (da_cons (de_strc (by decide +kernel)) (da_cons (de_strc (by decide +kernel)) (da_nil))))) (da_nil)))) (da_nil)))))) (dss_nil)) (dss_cons (ds_if (dt_w (dw_and (dt_cmp op_lt od_b (de_var 4) (de_int) (by first | exact nomark _ | rfl | with_unfolding_all rfl)) (dw_and (dt_cmp op_lt od_b (de_var 2) (de_int) (by first | exact nomark _ | rfl | with_unfolding_all rfl)) (dw_and1 (dt_cmp op_ge od_b (de_ix G (de_var 3) (de_int)) (de_int) (by first | exact nomark _ | rfl | with_unfolding_all rfl)))))) (dss_one (ds_ret (de_call F_l_call G (hr.mono (by omega)) (da_cons (de_var 0) (da_cons (de_var 1) (da_cons (de_op op_addA od_add (de_var 2) (de_int)) (da_cons (de_var 3) (da_nil)))))))) (dss_nil)) (dss_cons (ds_asg (de_op op_sub od_sub (de_ix G (de_var 3) (de_int)) (de_int)) (dg_setA G (de_var 3) (de_int))) (dss_one (ds_ret (de_tup (da_cons (de_call F_l_pick G (hr.mono (by omega)) (da_cons (de_var 0) (da_cons (de_lst (da_cons (de_str) (da_cons (de_str) (da_cons (de_str) (da_cons (de_str) (da_cons (de_str) (da_cons (de_str) (da_nil)))))))) (da_nil)))) (da_cons (de_call F_l_pick G (hr.mono (by omega)) (da_cons (de_var 0) (da_cons (de_var 1) (da_nil)))) (da_nil))))))))))) (p_l_argument n)
theorem sc_l_call : FnScope ["_law_source", "_law_places_here", "_law_depth", "_law_room", "_law_power", "_law_name_here", "_law_place_here", "_law_most", "_law_arguments", "_law_k"] ["_law_source", "_law_places_here", "_law_depth", "_law_room"] (defScope s_l_call) := ⟨rfl, rfl, rfl, by decide +kernel, rfl, by decide +kernel, by decide +kernel⟩
theorem ok_l_call {n k : Nat} {f : Addr} {fd : FuncData} (F : FunD K "_law_call" "_law_call" (defArgs s_l_call) (defBody s_l_call) (defScope s_l_call) [] [] f fd) (B : Md w K mg) (F_l_pick : FnM P w K mg base k "_law_pick" sp_l_pick) (F_l_draw : FnM P w K mg base k "_law_draw" sp_l_draw) (F_l_argument : FnM P w K mg base k "_law_argument" (sp_l_argument n)) : FnOk P w K mg base (L2.CX P w) (k + 1) f fd ["_law_source", "_law_places_here", "_law_depth", "_law_room"] (lsp K (sp_l_call (n + 1))) :=
  def_ok (N := ["_law_source", "_law_places_here", "_law_depth", "_law_room", "_law_power", "_law_name_here", "_law_place_here", "_law_most", "_law_arguments", "_law_k"]) (k := k) (t := (w_l_call n)) F sc_l_call (by intro ds M Q E h; unfold sp_l_call at h; first | (obtain ⟨rfl, _⟩ := h; rfl) | (obtain ⟨_, rfl, _⟩ := h; rfl) | (obtain ⟨_, _, rfl, _⟩ := h; rfl) | (obtain ⟨_, _, _, rfl, _⟩ := h; rfl) | (obtain ⟨_, _, _, _, rfl, _⟩ := h; rfl) | (obtain ⟨_, _, _, _, _, rfl, _⟩ := h; rfl) | (obtain ⟨_, _, _, _, _, _, rfl, _⟩ := h; rfl) | (obtain ⟨_, _, _, _, _, _, _, rfl, _⟩ := h; rfl) | (obtain ⟨_, _, _, _, _, _, _, _, rfl, _⟩ := h; rfl) | (obtain ⟨_, _, _, _, _, _, _, _, _, rfl, _⟩ := h; rfl) | (obtain ⟨_, _, _, _, _, _, _, _, _, _, rfl, _⟩ := h; rfl) | (obtain ⟨_, _, _, _, _, _, _, _, _, _, _, rfl, _⟩ := h; rfl) | (obtain ⟨_, _, _, _, _, _, _, _, _, _, _, _, rfl, _⟩ := h; rfl) | (obtain ⟨_, _, _, _, _, _, _, _, _, _, _, _, _, rfl, _⟩ := h; rfl))
    (fun cdv A outer s H E G hr => by exact dss_cons (ds_asg (de_op op_sub od_sub (de_ix G (de_var 3) (de_int)) (de_int)) (dg_setA G (de_var 3) (de_int))) (dss_cons (ds_set 4 G (de_call F_l_pick G (hr.mono (by omega)) (da_cons (de_var 0) (da_cons (de_lst (da_cons (de_str) (da_cons (de_str) (da_cons (de_str) (da_cons (de_str) (da_cons (de_str) (da_nil))))))) (da_nil))))) (dss_cons (ds_set 5 G (de_call F_l_pick G (hr.mono (by omega)) (da_cons (de_var 0) (da_cons (de_lst (da_cons (de_strc (by decide +kernel)) (da_cons (de_strc (by decide +kernel)) (da_cons (de_str) (da_nil))))) (da_nil))))) (dss_cons (ds_set 6 G (de_call F_l_pick G (hr.mono (by omega)) (da_cons (de_var 0) (da_cons (de_var 1) (da_nil))))) (dss_cons (ds_set 7 G (de_int)) (dss_cons (ds_if (dt_cmp op_gt od_b (de_var 2) (de_int) (by first | exact nomark _ | rfl | with_unfolding_all rfl)) (dss_one (ds_set 7 G (de_int))) (dss_nil)) (dss_cons (ds_set 8 G (de_lstM (da_nil))) (dss_cons (ds_for G (di_rng1 B.n_range (da_cons (de_call F_l_draw G (hr.mono (by omega)) (da_cons (de_var 0) (da_cons (de_var 7) (da_nil)))) (da_nil))) (dg_name 9 G.nd) (dss_one (ds_expr (de_mt PySem.F.plainAttrs_list PySem.F.slot_list_append PySem.F.type_list_append md_append mt_append (de_var 8) (da_cons (de_call F_l_argument G (hr.mono (by omega)) (da_cons (de_var 0) (da_cons (de_var 1) (da_cons (de_var 2) (da_cons (de_var 3) (da_nil)))))) (da_nil)))))) (dss_one (ds_ret (de_tup (da_cons (de_str) (da_cons (de_var 4) (da_cons (de_var 5) (da_cons (de_var 6) (da_cons (de_frz (de_var 8)) (da_nil))))))))))))))))) (p_l_call n)
theorem sc_l_simple : FnScope ["_law_source", "_law_places_here", "_law_room", "_law_kind"] ["_law_source", "_law_places_here", "_law_room"] (defScope s_l_simple) := ⟨rfl, rfl, rfl, by decide +kernel, rfl, by decide +kernel, by decide +kernel⟩
theorem ok_l_simple {f : Addr} {fd : FuncData} (F : FunD K "_law_simple" "_law_simple" (defArgs s_l_simple) (defBody s_l_simple) (defScope s_l_simple) [] [] f fd) (B : Md w K mg) (F_l_draw : FnM P w K mg base 1 "_law_draw" sp_l_draw) (F_l_pick : FnM P w K mg base 2 "_law_pick" sp_l_pick) (F_l_call : FnM P w K mg base 60 "_law_call" (sp_l_call 4)) : FnOk P w K mg base (L2.CX P w) (61) f fd ["_law_source", "_law_places_here", "_law_room"] (lsp K sp_l_simple) :=
  def_ok (N := ["_law_source", "_law_places_here", "_law_room", "_law_kind"]) (k := 60) (t := w_l_simple) F sc_l_simple (by intro ds M Q E h; unfold sp_l_simple at h; first | (obtain ⟨rfl, _⟩ := h; rfl) | (obtain ⟨_, rfl, _⟩ := h; rfl) | (obtain ⟨_, _, rfl, _⟩ := h; rfl) | (obtain ⟨_, _, _, rfl, _⟩ := h; rfl) | (obtain ⟨_, _, _, _, rfl, _⟩ := h; rfl) | (obtain ⟨_, _, _, _, _, rfl, _⟩ := h; rfl) | (obtain ⟨_, _, _, _, _, _, rfl, _⟩ := h; rfl) | (obtain ⟨_, _, _, _, _, _, _, rfl, _⟩ := h; rfl) | (obtain ⟨_, _, _, _, _, _, _, _, rfl, _⟩ := h; rfl) | (obtain ⟨_, _, _, _, _, _, _, _, _, rfl, _⟩ := h; rfl) | (obtain ⟨_, _, _, _, _, _, _, _, _, _, rfl, _⟩ := h; rfl) | (obtain ⟨_, _, _, _, _, _, _, _, _, _, _, rfl, _⟩ := h; rfl) | (obtain ⟨_, _, _, _, _, _, _, _, _, _, _, _, rfl, _⟩ := h; rfl) | (obtain ⟨_, _, _, _, _, _, _, _, _, _, _, _, _, rfl, _⟩ := h; rfl))
    (fun cdv A outer s H E G hr => by exact dss_cons (ds_if (dt_cmp (op_eqN G) od_eq (de_call F_l_draw G (hr.mono (by omega)) (da_cons (de_var 0) (da_cons (de_int) (da_nil)))) (de_int) (by first | exact nomark _ | rfl | with_unfolding_all rfl)) (dss_cons (ds_asg (de_op op_sub od_sub (de_ix G (de_var 2) (de_int)) (de_int)) (dg_setA G (de_var 2) (de_int))) (dss_cons (ds_set 3 G (de_call F_l_pick G (hr.mono (by omega)) (da_cons (de_var 0) (da_cons (de_lst (da_cons (de_str) (da_cons (de_str) (da_cons (de_str) (da_cons (de_str) (da_cons (de_str) (da_nil))))))) (da_nil))))) (dss_one (ds_ret (de_tup (da_cons (de_str) (da_cons (de_call F_l_pick G (hr.mono (by omega)) (da_cons (de_var 0) (da_cons (de_lst (da_cons (de_strc (by decide +kernel)) (da_cons (de_strc (by decide +kernel)) (da_cons (de_strc (by decide +kernel)) (da_nil))))) (da_nil)))) (da_cons (de_var 3) (da_cons (de_call F_l_pick G (hr.mono (by omega)) (da_cons (de_var 0) (da_cons (de_var 1) (da_nil)))) (da_nil)))))))))) (dss_nil)) (dss_one (ds_ret (de_tup (da_cons (de_strc (by decide +kernel)) (da_cons (de_call F_l_call G (hr.mono (by omega)) (da_cons (de_var 0) (da_cons (de_var 1) (da_cons (de_int) (da_cons (de_var 2) (da_nil)))))) (da_nil))))))) p_l_simple
theorem sc_l_block : FnScope ["_law_source", "_law_places_here", "_law_most", "_law_depth", "_law_room", "_law_statements", "_law_k", "_law_kind", "_law_first"] ["_law_source", "_law_places_here", "_law_most", "_law_depth", "_law_room"] (defScope s_l_block) := ⟨rfl, rfl, rfl, by decide +kernel, rfl, by decide +kernel, by decide +kernel⟩
theorem ok_l_block {n k : Nat} {f : Addr} {fd : FuncData} (F : FunD K "_law_block" "_law_block" (defArgs s_l_block) (defBody s_l_block) (defScope s_l_block) [] [] f fd) (B : Md w K mg) (F_l_draw : FnM P w K mg base k "_law_draw" sp_l_draw) (F_l_block : FnM P w K mg base k "_law_block" (sp_l_block n)) (F_l_simple : FnM P w K mg base k "_law_simple" sp_l_simple) : FnOk P w K mg base (L2.CX P w) (k + 1) f fd ["_law_source", "_law_places_here", "_law_most", "_law_depth", "_law_room"] (lsp K (sp_l_block (n + 1))) :=
  def_ok (N := ["_law_source", "_law_places_here", "_law_most", "_law_depth", "_law_room", "_law_statements", "_law_k", "_law_kind", "_law_first"]) (k := k) (t := (w_l_block n)) F sc_l_block (by intro ds M Q E h; unfold sp_l_block at h; first | (obtain ⟨rfl, _⟩ := h; rfl) | (obtain ⟨_, rfl, _⟩ := h; rfl) | (obtain ⟨_, _, rfl, _⟩ := h; rfl) | (obtain ⟨_, _, _, rfl, _⟩ := h; rfl) | (obtain ⟨_, _, _, _, rfl, _⟩ := h; rfl) | (obtain ⟨_, _, _, _, _, rfl, _⟩ := h; rfl) | (obtain ⟨_, _, _, _, _, _, rfl, _⟩ := h; rfl) | (obtain ⟨_, _, _, _, _, _, _, rfl, _⟩ := h; rfl) | (obtain ⟨_, _, _, _, _, _, _, _, rfl, _⟩ := h; rfl) | (obtain ⟨_, _, _, _, _, _, _, _, _, rfl, _⟩ := h; rfl) | (obtain ⟨_, _, _, _, _, _, _, _, _, _, rfl, _⟩ := h; rfl) | (obtain ⟨_, _, _, _, _, _, _, _, _, _, _, rfl, _⟩ := h; rfl) | (obtain ⟨_, _, _, _, _, _, _, _, _, _, _, _, rfl, _⟩ := h; rfl) | (obtain ⟨_, _, _, _, _, _, _, _, _, _, _, _, _, rfl, _⟩ := h; rfl))
    (fun cdv A outer s H E G hr => by exact dss_cons (ds_set 5 G (de_lstM (da_nil))) (dss_cons (ds_for G (di_rng1 B.n_range (da_cons (de_call F_l_draw G (hr.mono (by omega)) (da_cons (de_var 0) (da_cons (de_op op_addA od_add (de_var 2) (de_int)) (da_nil)))) (da_nil))) (dg_name 6 G.nd) (dss_cons (ds_set 7 G (de_call F_l_draw G (hr.mono (by omega)) (da_cons (de_var 0) (da_cons (de_int) (da_nil))))) (dss_cons (ds_if (dt_cmp op_lt od_b (de_ix G (de_var 4) (de_int)) (de_int) (by first | exact nomark _ | rfl | with_unfolding_all rfl)) (dss_one (ds_set 7 G (de_int))) (dss_nil)) (dss_one (ds_if (dt_w (dw_and (dt_cmp op_lt od_b (de_var 7) (de_int) (by first | exact nomark _ | rfl | with_unfolding_all rfl)) (dw_and1 (dt_cmp op_lt od_b (de_var 3) (de_int) (by first | exact nomark _ | rfl | with_unfolding_all rfl))))) (dss_cons (ds_asg (de_op op_sub od_sub (de_ix G (de_var 4) (de_int)) (de_int)) (dg_setA G (de_var 4) (de_int))) (dss_cons (ds_set 8 G (de_frz (de_call F_l_block G (hr.mono (by omega)) (da_cons (de_var 0) (da_cons (de_var 1) (da_cons (de_int) (da_cons (de_op op_addA od_add (de_var 3) (de_int)) (da_cons (de_var 4) (da_nil))))))))) (dss_one (ds_if (dt_cmp (op_eqN G) od_eq (de_var 7) (de_int) (by first | exact nomark _ | rfl | with_unfolding_all rfl)) (dss_one (ds_expr (de_mt PySem.F.plainAttrs_list PySem.F.slot_list_append PySem.F.type_list_append md_append mt_append (de_var 5) (da_cons (de_tup (da_cons (de_str) (da_cons (de_var 8) (da_nil)))) (da_nil))))) (dss_one (ds_expr (de_mt PySem.F.plainAttrs_list PySem.F.slot_list_append PySem.F.type_list_append md_append mt_append (de_var 5) (da_cons (de_tup (da_cons (de_str) (da_cons (de_var 8) (da_cons (de_frz (de_call F_l_block G (hr.mono (by omega)) (da_cons (de_var 0) (da_cons (de_var 1) (da_cons (de_int) (da_cons (de_op op_addA od_add (de_var 3) (de_int)) (da_cons (de_var 4) (da_nil)))))))) (da_nil))))) (da_nil))))))))) (dss_one (ds_if (dt_cmp op_lt od_b (de_var 7) (de_int) (by first | exact nomark _ | rfl | with_unfolding_all rfl)) (dss_one (ds_expr (de_mt PySem.F.plainAttrs_list PySem.F.slot_list_append PySem.F.type_list_append md_append mt_append (de_var 5) (da_cons (de_call F_l_simple G (hr.mono (by omega)) (da_cons (de_var 0) (da_cons (de_var 1) (da_cons (de_var 4) (da_nil))))) (da_nil))))) (dss_nil)))))))) (dss_one (ds_ret (de_var 5))))) (p_l_block n)
theorem sc_l_wrapped : FnScope ["_law_source", "_law_places_here", "_law_deep", "_law_room", "_law_rows", "_law_k", "_law_beside", "_law_kind", "_law_statement"] ["_law_source", "_law_places_here", "_law_deep", "_law_room"] (defScope s_l_wrapped) := ⟨rfl, rfl, rfl, by decide +kernel, rfl, by decide +kernel, by decide +kernel⟩
theorem ok_l_wrapped {f : Addr} {fd : FuncData} (F : FunD K "_law_wrapped" "_law_wrapped" (defArgs s_l_wrapped) (defBody s_l_wrapped) (defScope s_l_wrapped) [] [] f fd) (B : Md w K mg) (F_l_block : FnM P w K mg base 90 "_law_block" (sp_l_block 4)) (F_l_draw : FnM P w K mg base 1 "_law_draw" sp_l_draw) : FnOk P w K mg base (L2.CX P w) (91) f fd ["_law_source", "_law_places_here", "_law_deep", "_law_room"] (lsp K sp_l_wrapped) :=
  def_ok (N := ["_law_source", "_law_places_here", "_law_deep", "_law_room", "_law_rows", "_law_k", "_law_beside", "_law_kind", "_law_statement"]) (k := 90) (t := w_l_wrapped) F sc_l_wrapped (by intro ds M Q E h; unfold sp_l_wrapped at h; first | (obtain ⟨rfl, _⟩ := h; rfl) | (obtain ⟨_, rfl, _⟩ := h; rfl) | (obtain ⟨_, _, rfl, _⟩ := h; rfl) | (obtain ⟨_, _, _, rfl, _⟩ := h; rfl) | (obtain ⟨_, _, _, _, rfl, _⟩ := h; rfl) | (obtain ⟨_, _, _, _, _, rfl, _⟩ := h; rfl) | (obtain ⟨_, _, _, _, _, _, rfl, _⟩ := h; rfl) | (obtain ⟨_, _, _, _, _, _, _, rfl, _⟩ := h; rfl) | (obtain ⟨_, _, _, _, _, _, _, _, rfl, _⟩ := h; rfl) | (obtain ⟨_, _, _, _, _, _, _, _, _, rfl, _⟩ := h; rfl) | (obtain ⟨_, _, _, _, _, _, _, _, _, _, rfl, _⟩ := h; rfl) | (obtain ⟨_, _, _, _, _, _, _, _, _, _, _, rfl, _⟩ := h; rfl) | (obtain ⟨_, _, _, _, _, _, _, _, _, _, _, _, rfl, _⟩ := h; rfl) | (obtain ⟨_, _, _, _, _, _, _, _, _, _, _, _, _, rfl, _⟩ := h; rfl))
    (fun cdv A outer s H E G hr => by exact dss_cons (ds_set 4 G (de_call F_l_block G (hr.mono (by omega)) (da_cons (de_var 0) (da_cons (de_var 1) (da_cons (de_int) (da_cons (de_int) (da_cons (de_var 3) (da_nil)))))))) (dss_cons (ds_for G (di_rng1 B.n_range (da_cons (de_var 2) (da_nil))) (dg_name 5 G.nd) (dss_cons (ds_asg (de_op op_sub od_sub (de_ix G (de_var 3) (de_int)) (de_int)) (dg_setA G (de_var 3) (de_int))) (dss_cons (ds_set 6 G (de_frz (de_call F_l_block G (hr.mono (by omega)) (da_cons (de_var 0) (da_cons (de_var 1) (da_cons (de_int) (da_cons (de_int) (da_cons (de_var 3) (da_nil))))))))) (dss_cons (ds_set 7 G (de_call F_l_draw G (hr.mono (by omega)) (da_cons (de_var 0) (da_cons (de_int) (da_nil))))) (dss_fz 4 (dss_cons (ds_set 8 G (de_tup (da_cons (de_str) (da_cons (de_var 4) (da_nil))))) (dss_cons (ds_if (dt_cmp (op_eqN G) od_eq (de_var 7) (de_int) (by first | exact nomark _ | rfl | with_unfolding_all rfl)) (dss_one (ds_set 8 G (de_tup (da_cons (de_str) (da_cons (de_var 4) (da_cons (de_var 6) (da_nil))))))) (dss_nil)) (dss_cons (ds_if (dt_cmp (op_eqN G) od_eq (de_var 7) (de_int) (by first | exact nomark _ | rfl | with_unfolding_all rfl)) (dss_one (ds_set 8 G (de_tup (da_cons (de_str) (da_cons (de_var 6) (da_cons (de_var 4) (da_nil))))))) (dss_nil)) (dss_cons (ds_set 4 G (de_call F_l_block G (hr.mono (by omega)) (da_cons (de_var 0) (da_cons (de_var 1) (da_cons (de_int) (da_cons (de_int) (da_cons (de_var 3) (da_nil)))))))) (dss_one (ds_expr (de_mt PySem.F.plainAttrs_list PySem.F.slot_list_insert PySem.F.type_list_insert md_insert mt_insert (de_var 4) (da_cons (de_call F_l_draw G (hr.mono (by omega)) (da_cons (de_var 0) (da_cons (de_op op_addA od_add (de_callB cb_len call_lenA B.n_len PySem.boot_len (da_cons (de_var 4) (da_nil))) (de_int)) (da_nil)))) (da_cons (de_var 8) (da_nil))))))))))))))) (dss_one (ds_ret (de_var 4))))) p_l_wrapped
theorem sc_l_branched : FnScope ["_law_source", "_law_places_here", "_law_most", "_law_program"] ["_law_source", "_law_places_here", "_law_most"] (defScope s_l_branched) := ⟨rfl, rfl, rfl, by decide +kernel, rfl, by decide +kernel, by decide +kernel⟩
theorem ok_l_branched {f : Addr} {fd : FuncData} (F : FunD K "_law_branched" "_law_branched" (defArgs s_l_branched) (defBody s_l_branched) (defScope s_l_branched) [] [] f fd) (B : Md w K mg) (F_l_block : FnM P w K mg base 90 "_law_block" (sp_l_block 4)) (F_l_draw : FnM P w K mg base 1 "_law_draw" sp_l_draw) (F_l_wrapped : FnM P w K mg base 91 "_law_wrapped" sp_l_wrapped) : FnOk P w K mg base (L2.CX P w) (92) f fd ["_law_source", "_law_places_here", "_law_most"] (lsp K sp_l_branched) :=
  def_ok (N := ["_law_source", "_law_places_here", "_law_most", "_law_program"]) (k := 91) (t := w_l_branched) F sc_l_branched (by intro ds M Q E h; unfold sp_l_branched at h; first | (obtain ⟨rfl, _⟩ := h; rfl) | (obtain ⟨_, rfl, _⟩ := h; rfl) | (obtain ⟨_, _, rfl, _⟩ := h; rfl) | (obtain ⟨_, _, _, rfl, _⟩ := h; rfl) | (obtain ⟨_, _, _, _, rfl, _⟩ := h; rfl) | (obtain ⟨_, _, _, _, _, rfl, _⟩ := h; rfl) | (obtain ⟨_, _, _, _, _, _, rfl, _⟩ := h; rfl) | (obtain ⟨_, _, _, _, _, _, _, rfl, _⟩ := h; rfl) | (obtain ⟨_, _, _, _, _, _, _, _, rfl, _⟩ := h; rfl) | (obtain ⟨_, _, _, _, _, _, _, _, _, rfl, _⟩ := h; rfl) | (obtain ⟨_, _, _, _, _, _, _, _, _, _, rfl, _⟩ := h; rfl) | (obtain ⟨_, _, _, _, _, _, _, _, _, _, _, rfl, _⟩ := h; rfl) | (obtain ⟨_, _, _, _, _, _, _, _, _, _, _, _, rfl, _⟩ := h; rfl) | (obtain ⟨_, _, _, _, _, _, _, _, _, _, _, _, _, rfl, _⟩ := h; rfl))
    (fun cdv A outer s H E G hr => by exact dss_cons (ds_set 3 G (de_call F_l_block G (hr.mono (by omega)) (da_cons (de_var 0) (da_cons (de_var 1) (da_cons (de_int) (da_cons (de_int) (da_cons (de_lstM (da_cons (de_var 2) (da_nil))) (da_nil)))))))) (dss_cons (ds_if (dt_cmp op_lt od_b (de_call F_l_draw G (hr.mono (by omega)) (da_cons (de_var 0) (da_cons (de_int) (da_nil)))) (de_int) (by first | exact nomark _ | rfl | with_unfolding_all rfl)) (dss_one (ds_set 3 G (de_op op_addA od_addM (de_var 3) (de_frz (de_call F_l_wrapped G (hr.mono (by omega)) (da_cons (de_var 0) (da_cons (de_var 1) (da_cons (de_op op_addA od_add (de_int) (de_call F_l_draw G (hr.mono (by omega)) (da_cons (de_var 0) (da_cons (de_int) (da_nil))))) (da_cons (de_lstM (da_cons (de_var 2) (da_nil))) (da_nil)))))))))) (dss_nil)) (dss_one (ds_ret (de_var 3))))) p_l_branched
theorem sc_l_way : FnScope ["_law_source", "_law_most", "_law_k"] ["_law_source", "_law_most"] (defScope s_l_way) := ⟨rfl, rfl, rfl, by decide +kernel, rfl, by decide +kernel, by decide +kernel⟩
theorem ok_l_way {f : Addr} {fd : FuncData} (F : FunD K "_law_way" "_law_way" (defArgs s_l_way) (defBody s_l_way) (defScope s_l_way) [] [] f fd) (B : Md w K mg) (F_l_draw : FnM P w K mg base 1 "_law_draw" sp_l_draw) : FnOk P w K mg base (L2.CX P w) (2) f fd ["_law_source", "_law_most"] (lsp K sp_l_way) :=
  def_ok (N := ["_law_source", "_law_most", "_law_k"]) (k := 1) (t := w_l_way) F sc_l_way (by intro ds M Q E h; unfold sp_l_way at h; first | (obtain ⟨rfl, _⟩ := h; rfl) | (obtain ⟨_, rfl, _⟩ := h; rfl) | (obtain ⟨_, _, rfl, _⟩ := h; rfl) | (obtain ⟨_, _, _, rfl, _⟩ := h; rfl) | (obtain ⟨_, _, _, _, rfl, _⟩ := h; rfl) | (obtain ⟨_, _, _, _, _, rfl, _⟩ := h; rfl) | (obtain ⟨_, _, _, _, _, _, rfl, _⟩ := h; rfl) | (obtain ⟨_, _, _, _, _, _, _, rfl, _⟩ := h; rfl) | (obtain ⟨_, _, _, _, _, _, _, _, rfl, _⟩ := h; rfl) | (obtain ⟨_, _, _, _, _, _, _, _, _, rfl, _⟩ := h; rfl) | (obtain ⟨_, _, _, _, _, _, _, _, _, _, rfl, _⟩ := h; rfl) | (obtain ⟨_, _, _, _, _, _, _, _, _, _, _, rfl, _⟩ := h; rfl) | (obtain ⟨_, _, _, _, _, _, _, _, _, _, _, _, rfl, _⟩ := h; rfl) | (obtain ⟨_, _, _, _, _, _, _, _, _, _, _, _, _, rfl, _⟩ := h; rfl))
    (fun cdv A outer s H E G hr => by exact dss_one (ds_ret (de_frz (de_lc1 [("_law_k", 2)] G (di_rng1 B.n_range (da_cons (de_call F_l_draw G (hr.mono (by omega)) (da_cons (de_var 0) (da_cons (de_op op_addA od_add (de_var 1) (de_int)) (da_nil)))) (da_nil))) (fun _ _ _ _ _ G => bk1 (dgw_name 2 G.nd) (dts_nil) (de_cmp (op_eqN G) od_eq (de_call F_l_draw G (hr.mono (by omega)) (da_cons (de_var 0) (da_cons (de_int) (da_nil)))) (de_int) (by first | exact nomark _ | rfl | with_unfolding_all rfl))))))) p_l_way
theorem sc_l_long_way : FnScope ["_law_source", "_law_k"] ["_law_source"] (defScope s_l_long_way) := ⟨rfl, rfl, rfl, by decide +kernel, rfl, by decide +kernel, by decide +kernel⟩
theorem ok_l_long_way {f : Addr} {fd : FuncData} (F : FunD K "_law_long_way" "_law_long_way" (defArgs s_l_long_way) (defBody s_l_long_way) (defScope s_l_long_way) [] [] f fd) (B : Md w K mg) (F_l_draw : FnM P w K mg base 1 "_law_draw" sp_l_draw) (F_l_way : FnM P w K mg base 2 "_law_way" sp_l_way) : FnOk P w K mg base (L2.CX P w) (3) f fd ["_law_source"] (lsp K sp_l_long_way) :=
  def_ok (N := ["_law_source", "_law_k"]) (k := 2) (t := w_l_long_way) F sc_l_long_way (by intro ds M Q E h; unfold sp_l_long_way at h; first | (obtain ⟨rfl, _⟩ := h; rfl) | (obtain ⟨_, rfl, _⟩ := h; rfl) | (obtain ⟨_, _, rfl, _⟩ := h; rfl) | (obtain ⟨_, _, _, rfl, _⟩ := h; rfl) | (obtain ⟨_, _, _, _, rfl, _⟩ := h; rfl) | (obtain ⟨_, _, _, _, _, rfl, _⟩ := h; rfl) | (obtain ⟨_, _, _, _, _, _, rfl, _⟩ := h; rfl) | (obtain ⟨_, _, _, _, _, _, _, rfl, _⟩ := h; rfl) | (obtain ⟨_, _, _, _, _, _, _, _, rfl, _⟩ := h; rfl) | (obtain ⟨_, _, _, _, _, _, _, _, _, rfl, _⟩ := h; rfl) | (obtain ⟨_, _, _, _, _, _, _, _, _, _, rfl, _⟩ := h; rfl) | (obtain ⟨_, _, _, _, _, _, _, _, _, _, _, rfl, _⟩ := h; rfl) | (obtain ⟨_, _, _, _, _, _, _, _, _, _, _, _, rfl, _⟩ := h; rfl) | (obtain ⟨_, _, _, _, _, _, _, _, _, _, _, _, _, rfl, _⟩ := h; rfl))
    (fun cdv A outer s H E G hr => by exact dss_cons (ds_if (dt_cmp (op_eqN G) od_eq (de_call F_l_draw G (hr.mono (by omega)) (da_cons (de_var 0) (da_cons (de_int) (da_nil)))) (de_int) (by first | exact nomark _ | rfl | with_unfolding_all rfl)) (dss_one (ds_ret (de_frz (de_lc1 [("_law_k", 1)] G (di_rng1 B.n_range (da_cons (de_op op_addA od_add (de_int) (de_call F_l_draw G (hr.mono (by omega)) (da_cons (de_var 0) (da_cons (de_int) (da_nil))))) (da_nil))) (fun _ _ _ _ _ G => bk1 (dgw_name 1 G.nd) (dts_nil) (de_cmp op_gt od_b (de_call F_l_draw G (hr.mono (by omega)) (da_cons (de_var 0) (da_cons (de_int) (da_nil)))) (de_int) (by first | exact nomark _ | rfl | with_unfolding_all rfl))))))) (dss_nil)) (dss_one (ds_ret (de_call F_l_way G (hr.mono (by omega)) (da_cons (de_var 0) (da_cons (de_int) (da_nil))))))) p_l_long_way
theorem sc_l_copy_call : FnScope ["_law_call_here", "_law_arguments", "_law_argument_here"] ["_law_call_here"] (defScope s_l_copy_call) := ⟨rfl, rfl, rfl, by decide +kernel, rfl, by decide +kernel, by decide +kernel⟩
theorem ok_l_copy_call {n k : Nat} {f : Addr} {fd : FuncData} (F : FunD K "_law_copy_call" "_law_copy_call" (defArgs s_l_copy_call) (defBody s_l_copy_call) (defScope s_l_copy_call) [] [] f fd) (B : Md w K mg) (F_l_copy_call : FnM P w K mg base k "_law_copy_call" (sp_l_copy_call n)) : FnOk P w K mg base (L2.CX P w) (k + 1) f fd ["_law_call_here"] (lsp K (sp_l_copy_call (n + 1))) :=
  def_ok (N := ["_law_call_here", "_law_arguments", "_law_argument_here"]) (k := k) (t := (w_l_copy_call n)) F sc_l_copy_call (by intro ds M Q E h; unfold sp_l_copy_call at h; first | (obtain ⟨rfl, _⟩ := h; rfl) | (obtain ⟨_, rfl, _⟩ := h; rfl) | (obtain ⟨_, _, rfl, _⟩ := h; rfl) | (obtain ⟨_, _, _, rfl, _⟩ := h; rfl) | (obtain ⟨_, _, _, _, rfl, _⟩ := h; rfl) | (obtain ⟨_, _, _, _, _, rfl, _⟩ := h; rfl) | (obtain ⟨_, _, _, _, _, _, rfl, _⟩ := h; rfl) | (obtain ⟨_, _, _, _, _, _, _, rfl, _⟩ := h; rfl) | (obtain ⟨_, _, _, _, _, _, _, _, rfl, _⟩ := h; rfl) | (obtain ⟨_, _, _, _, _, _, _, _, _, rfl, _⟩ := h; rfl) | (obtain ⟨_, _, _, _, _, _, _, _, _, _, rfl, _⟩ := h; rfl) | (obtain ⟨_, _, _, _, _, _, _, _, _, _, _, rfl, _⟩ := h; rfl) | (obtain ⟨_, _, _, _, _, _, _, _, _, _, _, _, rfl, _⟩ := h; rfl) | (obtain ⟨_, _, _, _, _, _, _, _, _, _, _, _, _, rfl, _⟩ := h; rfl))
    (fun cdv A outer s H E G hr => by exact dss_cons (ds_set 1 G (de_lstM (da_nil))) (dss_cons (ds_orS (ds_for G (di_any (de_ix G (de_var 0) (de_int))) (dg_name 2 G.nd) (dss_one (ds_if (dt_cmp (op_eqN G) od_eq (de_ix G (de_var 2) (de_int)) (de_str) (by first | exact nomark _ | rfl | with_unfolding_all rfl)) (dss_one (ds_expr (de_mt PySem.F.plainAttrs_list PySem.F.slot_list_append PySem.F.type_list_append md_append mt_append (de_var 1) (da_cons (de_frzT (de_call F_l_copy_call G (hr.mono (by omega)) (da_cons (de_var 2) (da_nil)))) (da_nil))))) (dss_one (ds_expr (de_mt PySem.F.plainAttrs_list PySem.F.slot_list_append PySem.F.type_list_append md_append mt_append (de_var 1) (da_cons (de_var 2) (da_nil)))))))) (ds_forR G (di_ref (de_ix G (de_var 0) (de_int))) (dg_name 2 G.nd) (dss_one (ds_if (dt_cmp (op_eqN G) od_eq (de_ix G (de_var 2) (de_int)) (de_str) (by first | exact nomark _ | rfl | with_unfolding_all rfl)) (dss_one (ds_expr (de_mt PySem.F.plainAttrs_list PySem.F.slot_list_append PySem.F.type_list_append md_append mt_append (de_var 1) (da_cons (de_frzT (de_call F_l_copy_call G (hr.mono (by omega)) (da_cons (de_var 2) (da_nil)))) (da_nil))))) (dss_one (ds_expr (de_mt PySem.F.plainAttrs_list PySem.F.slot_list_append PySem.F.type_list_append md_append mt_append (de_var 1) (da_cons (de_var 2) (da_nil))))))))) (dss_one (ds_ret (de_tup (da_cons (de_str) (da_cons (de_ix G (de_var 0) (de_int)) (da_cons (de_ix G (de_var 0) (de_int)) (da_cons (de_ix G (de_var 0) (de_int)) (da_cons (de_var 1) (da_nil))))))))))) (p_l_copy_call n)
theorem sc_l_copy : FnScope ["_law_block_here", "_law_rows", "_law_statement"] ["_law_block_here"] (defScope s_l_copy) := ⟨rfl, rfl, rfl, by decide +kernel, rfl, by decide +kernel, by decide +kernel⟩
theorem ok_l_copy {n k : Nat} {f : Addr} {fd : FuncData} (F : FunD K "_law_copy" "_law_copy" (defArgs s_l_copy) (defBody s_l_copy) (defScope s_l_copy) [] [] f fd) (B : Md w K mg) (F_l_copy_call : FnM P w K mg base k "_law_copy_call" (sp_l_copy_call 5)) (F_l_copy : FnM P w K mg base k "_law_copy" (sp_l_copy n)) : FnOk P w K mg base (L2.CX P w) (k + 1) f fd ["_law_block_here"] (lsp K (sp_l_copy (n + 1))) :=
  def_ok (N := ["_law_block_here", "_law_rows", "_law_statement"]) (k := k) (t := (w_l_copy n)) F sc_l_copy (by intro ds M Q E h; unfold sp_l_copy at h; first | (obtain ⟨rfl, _⟩ := h; rfl) | (obtain ⟨_, rfl, _⟩ := h; rfl) | (obtain ⟨_, _, rfl, _⟩ := h; rfl) | (obtain ⟨_, _, _, rfl, _⟩ := h; rfl) | (obtain ⟨_, _, _, _, rfl, _⟩ := h; rfl) | (obtain ⟨_, _, _, _, _, rfl, _⟩ := h; rfl) | (obtain ⟨_, _, _, _, _, _, rfl, _⟩ := h; rfl) | (obtain ⟨_, _, _, _, _, _, _, rfl, _⟩ := h; rfl) | (obtain ⟨_, _, _, _, _, _, _, _, rfl, _⟩ := h; rfl) | (obtain ⟨_, _, _, _, _, _, _, _, _, rfl, _⟩ := h; rfl) | (obtain ⟨_, _, _, _, _, _, _, _, _, _, rfl, _⟩ := h; rfl) | (obtain ⟨_, _, _, _, _, _, _, _, _, _, _, rfl, _⟩ := h; rfl) | (obtain ⟨_, _, _, _, _, _, _, _, _, _, _, _, rfl, _⟩ := h; rfl) | (obtain ⟨_, _, _, _, _, _, _, _, _, _, _, _, _, rfl, _⟩ := h; rfl))
    (fun cdv A outer s H E G hr => by exact dss_cons (ds_set 1 G (de_lstM (da_nil))) (dss_cons (ds_orS (ds_for G (di_any (de_var 0)) (dg_name 2 G.nd) (dss_one (ds_if (dt_cmp (op_eqN G) od_eq (de_ix G (de_var 2) (de_int)) (de_str) (by first | exact nomark _ | rfl | with_unfolding_all rfl)) (dss_one (ds_expr (de_mt PySem.F.plainAttrs_list PySem.F.slot_list_append PySem.F.type_list_append md_append mt_append (de_var 1) (da_cons (de_var 2) (da_nil))))) (dss_one (ds_if (dt_cmp (op_eqN G) od_eq (de_ix G (de_var 2) (de_int)) (de_strc (by decide +kernel)) (by first | exact nomark _ | rfl | with_unfolding_all rfl)) (dss_one (ds_expr (de_mt PySem.F.plainAttrs_list PySem.F.slot_list_append PySem.F.type_list_append md_append mt_append (de_var 1) (da_cons (de_tup (da_cons (de_strc (by decide +kernel)) (da_cons (de_frzT (de_call F_l_copy_call G (hr.mono (by omega)) (da_cons (de_ix G (de_var 2) (de_int)) (da_nil)))) (da_nil)))) (da_nil))))) (dss_one (ds_if (dt_cmp (op_eqN G) od_eq (de_ix G (de_var 2) (de_int)) (de_str) (by first | exact nomark _ | rfl | with_unfolding_all rfl)) (dss_one (ds_expr (de_mt PySem.F.plainAttrs_list PySem.F.slot_list_append PySem.F.type_list_append md_append mt_append (de_var 1) (da_cons (de_tup (da_cons (de_str) (da_cons (de_frz (de_call F_l_copy G (hr.mono (by omega)) (da_cons (de_ix G (de_var 2) (de_int)) (da_nil)))) (da_nil)))) (da_nil))))) (dss_one (ds_expr (de_mt PySem.F.plainAttrs_list PySem.F.slot_list_append PySem.F.type_list_append md_append mt_append (de_var 1) (da_cons (de_tup (da_cons (de_str) (da_cons (de_frz (de_call F_l_copy G (hr.mono (by omega)) (da_cons (de_ix G (de_var 2) (de_int)) (da_nil)))) (da_cons (de_frz (de_call F_l_copy G (hr.mono (by omega)) (da_cons (de_ix G (de_var 2) (de_int)) (da_nil)))) (da_nil))))) (da_nil)))))))))))) (ds_forR G (di_ref (de_var 0)) (dg_name 2 G.nd) (dss_one (ds_if (dt_cmp (op_eqN G) od_eq (de_ix G (de_var 2) (de_int)) (de_str) (by first | exact nomark _ | rfl | with_unfolding_all rfl)) (dss_one (ds_expr (de_mt PySem.F.plainAttrs_list PySem.F.slot_list_append PySem.F.type_list_append md_append mt_append (de_var 1) (da_cons (de_var 2) (da_nil))))) (dss_one (ds_if (dt_cmp (op_eqN G) od_eq (de_ix G (de_var 2) (de_int)) (de_strc (by decide +kernel)) (by first | exact nomark _ | rfl | with_unfolding_all rfl)) (dss_one (ds_expr (de_mt PySem.F.plainAttrs_list PySem.F.slot_list_append PySem.F.type_list_append md_append mt_append (de_var 1) (da_cons (de_tup (da_cons (de_strc (by decide +kernel)) (da_cons (de_frzT (de_call F_l_copy_call G (hr.mono (by omega)) (da_cons (de_ix G (de_var 2) (de_int)) (da_nil)))) (da_nil)))) (da_nil))))) (dss_one (ds_if (dt_cmp (op_eqN G) od_eq (de_ix G (de_var 2) (de_int)) (de_str) (by first | exact nomark _ | rfl | with_unfolding_all rfl)) (dss_one (ds_expr (de_mt PySem.F.plainAttrs_list PySem.F.slot_list_append PySem.F.type_list_append md_append mt_append (de_var 1) (da_cons (de_tup (da_cons (de_str) (da_cons (de_frz (de_call F_l_copy G (hr.mono (by omega)) (da_cons (de_ix G (de_var 2) (de_int)) (da_nil)))) (da_nil)))) (da_nil))))) (dss_one (ds_expr (de_mt PySem.F.plainAttrs_list PySem.F.slot_list_append PySem.F.type_list_append md_append mt_append (de_var 1) (da_cons (de_tup (da_cons (de_str) (da_cons (de_frz (de_call F_l_copy G (hr.mono (by omega)) (da_cons (de_ix G (de_var 2) (de_int)) (da_nil)))) (da_cons (de_frz (de_call F_l_copy G (hr.mono (by omega)) (da_cons (de_ix G (de_var 2) (de_int)) (da_nil)))) (da_nil))))) (da_nil))))))))))))) (dss_one (ds_ret (de_var 1))))) (p_l_copy n)
theorem sc_Walker_init : FnScope ["self", "way"] ["self", "way"] (defScope s_Walker_init) := ⟨rfl, rfl, rfl, by decide +kernel, rfl, by decide +kernel, by decide +kernel⟩
theorem ok_Walker_init {f : Addr} {fd : FuncData} (F : FunD K "__init__" "Walker.__init__" (defArgs s_Walker_init) (defBody s_Walker_init) (defScope s_Walker_init) [] [] f fd) (B : Md w K mg)  : FnOk P w K mg base (L2.CX P w) (1) f fd ["self", "way"] (lsp K sp_Walker_init) :=
  def_ok (N := ["self", "way"]) (k := 0) (t := w_Walker_init) F sc_Walker_init (by intro ds M Q E h; unfold sp_Walker_init at h; first | (obtain ⟨rfl, _⟩ := h; rfl) | (obtain ⟨_, rfl, _⟩ := h; rfl) | (obtain ⟨_, _, rfl, _⟩ := h; rfl) | (obtain ⟨_, _, _, rfl, _⟩ := h; rfl) | (obtain ⟨_, _, _, _, rfl, _⟩ := h; rfl) | (obtain ⟨_, _, _, _, _, rfl, _⟩ := h; rfl) | (obtain ⟨_, _, _, _, _, _, rfl, _⟩ := h; rfl) | (obtain ⟨_, _, _, _, _, _, _, rfl, _⟩ := h; rfl) | (obtain ⟨_, _, _, _, _, _, _, _, rfl, _⟩ := h; rfl) | (obtain ⟨_, _, _, _, _, _, _, _, _, rfl, _⟩ := h; rfl) | (obtain ⟨_, _, _, _, _, _, _, _, _, _, rfl, _⟩ := h; rfl) | (obtain ⟨_, _, _, _, _, _, _, _, _, _, _, rfl, _⟩ := h; rfl) | (obtain ⟨_, _, _, _, _, _, _, _, _, _, _, _, rfl, _⟩ := h; rfl) | (obtain ⟨_, _, _, _, _, _, _, _, _, _, _, _, _, rfl, _⟩ := h; rfl))
    (fun cdv A outer s H E G hr => by exact dss_cons (ds_setF B.cls_Walker B.na_Walkerway (de_var 0) (de_callTy cb_list call_list_of B.n_list PyProof.Rows.boot_list (da_cons (de_var 1) (da_nil)))) (dss_cons (ds_setF B.cls_Walker B.na_Walker_taken (de_var 0) (de_lstM (da_nil))) (dss_one (ds_setF B.cls_Walker B.na_Walker_passed (de_var 0) (de_lstM (da_nil)))))) p_Walker_init
theorem sc_Walker_choice : FnScope ["self", "chosen"] ["self"] (defScope s_Walker_choice) := ⟨rfl, rfl, rfl, by decide +kernel, rfl, by decide +kernel, by decide +kernel⟩
theorem ok_Walker_choice {f : Addr} {fd : FuncData} (F : FunD K "choice" "Walker.choice" (defArgs s_Walker_choice) (defBody s_Walker_choice) (defScope s_Walker_choice) [] [] f fd) (B : Md w K mg)  : FnOk P w K mg base (L2.CX P w) (1) f fd ["self"] (lsp K sp_Walker_choice) :=
  def_ok (N := ["self", "chosen"]) (k := 0) (t := w_Walker_choice) F sc_Walker_choice (by intro ds M Q E h; unfold sp_Walker_choice at h; first | (obtain ⟨rfl, _⟩ := h; rfl) | (obtain ⟨_, rfl, _⟩ := h; rfl) | (obtain ⟨_, _, rfl, _⟩ := h; rfl) | (obtain ⟨_, _, _, rfl, _⟩ := h; rfl) | (obtain ⟨_, _, _, _, rfl, _⟩ := h; rfl) | (obtain ⟨_, _, _, _, _, rfl, _⟩ := h; rfl) | (obtain ⟨_, _, _, _, _, _, rfl, _⟩ := h; rfl) | (obtain ⟨_, _, _, _, _, _, _, rfl, _⟩ := h; rfl) | (obtain ⟨_, _, _, _, _, _, _, _, rfl, _⟩ := h; rfl) | (obtain ⟨_, _, _, _, _, _, _, _, _, rfl, _⟩ := h; rfl) | (obtain ⟨_, _, _, _, _, _, _, _, _, _, rfl, _⟩ := h; rfl) | (obtain ⟨_, _, _, _, _, _, _, _, _, _, _, rfl, _⟩ := h; rfl) | (obtain ⟨_, _, _, _, _, _, _, _, _, _, _, _, rfl, _⟩ := h; rfl) | (obtain ⟨_, _, _, _, _, _, _, _, _, _, _, _, _, rfl, _⟩ := h; rfl))
    (fun cdv A outer s H E G hr => by exact dss_cons (ds_set 1 G (de_bl)) (dss_cons (ds_if (dt_cmp op_lt od_b (de_callB cb_len call_lenA B.n_len PySem.boot_len (da_cons (de_fld B.cls_Walker B.na_Walker_taken (de_var 0)) (da_nil))) (de_callB cb_len call_lenA B.n_len PySem.boot_len (da_cons (de_fld B.cls_Walker B.na_Walkerway (de_var 0)) (da_nil))) (by first | exact nomark _ | rfl | with_unfolding_all rfl)) (dss_one (ds_set 1 G (de_ix G (de_fld B.cls_Walker B.na_Walkerway (de_var 0)) (de_callB cb_len call_lenA B.n_len PySem.boot_len (da_cons (de_fld B.cls_Walker B.na_Walker_taken (de_var 0)) (da_nil)))))) (dss_nil)) (dss_cons (ds_expr (de_mt PySem.F.plainAttrs_list PySem.F.slot_list_append PySem.F.type_list_append md_append mt_append (de_fld B.cls_Walker B.na_Walker_taken (de_var 0)) (da_cons (de_var 1) (da_nil)))) (dss_one (ds_ret (de_var 1)))))) p_Walker_choice
theorem sc_copied_argument : FnScope ["argument"] ["argument"] (defScope s_copied_argument) := ⟨rfl, rfl, rfl, by decide +kernel, rfl, by decide +kernel, by decide +kernel⟩
theorem ok_copied_argument {n k : Nat} {f : Addr} {fd : FuncData} (F : FunD K "copied_argument" "copied_argument" (defArgs s_copied_argument) (defBody s_copied_argument) (defScope s_copied_argument) [] [] f fd) (B : Md w K mg) (F_copied_call : FnM P w K mg base k "copied_call" (sp_copied_call n)) : FnOk P w K mg base (L2.CX P w) (k + 1) f fd ["argument"] (lsp K (sp_copied_argument n)) :=
  def_ok (N := ["argument"]) (k := k) (t := (w_copied_argument n)) F sc_copied_argument (by intro ds M Q E h; unfold sp_copied_argument at h; first | (obtain ⟨rfl, _⟩ := h; rfl) | (obtain ⟨_, rfl, _⟩ := h; rfl) | (obtain ⟨_, _, rfl, _⟩ := h; rfl) | (obtain ⟨_, _, _, rfl, _⟩ := h; rfl) | (obtain ⟨_, _, _, _, rfl, _⟩ := h; rfl) | (obtain ⟨_, _, _, _, _, rfl, _⟩ := h; rfl) | (obtain ⟨_, _, _, _, _, _, rfl, _⟩ := h; rfl) | (obtain ⟨_, _, _, _, _, _, _, rfl, _⟩ := h; rfl) | (obtain ⟨_, _, _, _, _, _, _, _, rfl, _⟩ := h; rfl) | (obtain ⟨_, _, _, _, _, _, _, _, _, rfl, _⟩ := h; rfl) | (obtain ⟨_, _, _, _, _, _, _, _, _, _, rfl, _⟩ := h; rfl) | (obtain ⟨_, _, _, _, _, _, _, _, _, _, _, rfl, _⟩ := h; rfl) | (obtain ⟨_, _, _, _, _, _, _, _, _, _, _, _, rfl, _⟩ := h; rfl) | (obtain ⟨_, _, _, _, _, _, _, _, _, _, _, _, _, rfl, _⟩ := h; rfl))
    (fun cdv A outer s H E G hr => by exact dss_cons (ds_if (dt_cmp (op_eqN G) od_eq (de_ix G (de_var 0) (de_int)) (de_str) (by first | exact nomark _ | rfl | with_unfolding_all rfl)) (dss_one (ds_ret (de_call F_copied_call G (hr.mono (by omega)) (da_cons (de_var 0) (da_nil))))) (dss_nil)) (dss_one (ds_ret (de_var 0)))) (p_copied_argument n)
theorem sc_copied_call : FnScope ["call", "_", "power", "name", "place", "arguments", "argument"] ["call"] (defScope s_copied_call) := ⟨rfl, rfl, rfl, by decide +kernel, rfl, by decide +kernel, by decide +kernel⟩
theorem ok_copied_call {n k : Nat} {f : Addr} {fd : FuncData} (F : FunD K "copied_call" "copied_call" (defArgs s_copied_call) (defBody s_copied_call) (defScope s_copied_call) [] [] f fd) (B : Md w K mg) (F_copied_argument : FnM P w K mg base k "copied_argument" (sp_copied_argument n)) : FnOk P w K mg base (L2.CX P w) (k + 1) f fd ["call"] (lsp K (sp_copied_call (n + 1))) :=
  def_ok (N := ["call", "_", "power", "name", "place", "arguments", "argument"]) (k := k) (t := (w_copied_call n)) F sc_copied_call (by intro ds M Q E h; unfold sp_copied_call at h; first | (obtain ⟨rfl, _⟩ := h; rfl) | (obtain ⟨_, rfl, _⟩ := h; rfl) | (obtain ⟨_, _, rfl, _⟩ := h; rfl) | (obtain ⟨_, _, _, rfl, _⟩ := h; rfl) | (obtain ⟨_, _, _, _, rfl, _⟩ := h; rfl) | (obtain ⟨_, _, _, _, _, rfl, _⟩ := h; rfl) | (obtain ⟨_, _, _, _, _, _, rfl, _⟩ := h; rfl) | (obtain ⟨_, _, _, _, _, _, _, rfl, _⟩ := h; rfl) | (obtain ⟨_, _, _, _, _, _, _, _, rfl, _⟩ := h; rfl) | (obtain ⟨_, _, _, _, _, _, _, _, _, rfl, _⟩ := h; rfl) | (obtain ⟨_, _, _, _, _, _, _, _, _, _, rfl, _⟩ := h; rfl) | (obtain ⟨_, _, _, _, _, _, _, _, _, _, _, rfl, _⟩ := h; rfl) | (obtain ⟨_, _, _, _, _, _, _, _, _, _, _, _, rfl, _⟩ := h; rfl) | (obtain ⟨_, _, _, _, _, _, _, _, _, _, _, _, _, rfl, _⟩ := h; rfl))
    (fun cdv A outer s H E G hr => by exact dss_cons (ds_asg (de_var 0) (dg_tup G (dgs_cons 1 G.nd (dgs_cons 2 G.nd (dgs_cons 3 G.nd (dgs_cons 4 G.nd (dgs_cons 5 G.nd (dgs_nil)))))))) (dss_one (ds_ret (de_tup (da_cons (de_str) (da_cons (de_var 2) (da_cons (de_var 3) (da_cons (de_var 4) (da_cons (de_lc1 [("argument", 6)] G (di_any (de_var 5)) (fun _ _ _ _ _ G => bk1 (dgw_name 6 G.nd) (dts_nil) (de_call F_copied_argument G (hr.mono (by omega)) (da_cons (de_var 6) (da_nil))))) (da_nil)))))))))) (p_copied_call n)
theorem sc_copied_block : FnScope ["block", "statement"] ["block"] (defScope s_copied_block) := ⟨rfl, rfl, rfl, by decide +kernel, rfl, by decide +kernel, by decide +kernel⟩
theorem ok_copied_block {n k : Nat} {f : Addr} {fd : FuncData} (F : FunD K "copied_block" "copied_block" (defArgs s_copied_block) (defBody s_copied_block) (defScope s_copied_block) [] [] f fd) (B : Md w K mg) (F_copied_statement : FnM P w K mg base k "copied_statement" (sp_copied_statement n)) : FnOk P w K mg base (L2.CX P w) (k + 1) f fd ["block"] (lsp K (sp_copied_block (n + 1))) :=
  def_ok (N := ["block", "statement"]) (k := k) (t := (w_copied_block n)) F sc_copied_block (by intro ds M Q E h; unfold sp_copied_block at h; first | (obtain ⟨rfl, _⟩ := h; rfl) | (obtain ⟨_, rfl, _⟩ := h; rfl) | (obtain ⟨_, _, rfl, _⟩ := h; rfl) | (obtain ⟨_, _, _, rfl, _⟩ := h; rfl) | (obtain ⟨_, _, _, _, rfl, _⟩ := h; rfl) | (obtain ⟨_, _, _, _, _, rfl, _⟩ := h; rfl) | (obtain ⟨_, _, _, _, _, _, rfl, _⟩ := h; rfl) | (obtain ⟨_, _, _, _, _, _, _, rfl, _⟩ := h; rfl) | (obtain ⟨_, _, _, _, _, _, _, _, rfl, _⟩ := h; rfl) | (obtain ⟨_, _, _, _, _, _, _, _, _, rfl, _⟩ := h; rfl) | (obtain ⟨_, _, _, _, _, _, _, _, _, _, rfl, _⟩ := h; rfl) | (obtain ⟨_, _, _, _, _, _, _, _, _, _, _, rfl, _⟩ := h; rfl) | (obtain ⟨_, _, _, _, _, _, _, _, _, _, _, _, rfl, _⟩ := h; rfl) | (obtain ⟨_, _, _, _, _, _, _, _, _, _, _, _, _, rfl, _⟩ := h; rfl))
    (fun cdv A outer s H E G hr => by exact dss_one (ds_ret (de_frz (de_lc1 [("statement", 1)] G (di_any (de_var 0)) (fun _ _ _ _ _ G => bk1 (dgw_name 1 G.nd) (dts_nil) (de_call F_copied_statement G (hr.mono (by omega)) (da_cons (de_var 1) (da_nil)))))))) (p_copied_block n)
theorem sc_copied_statement : FnScope ["statement"] ["statement"] (defScope s_copied_statement) := ⟨rfl, rfl, rfl, by decide +kernel, rfl, by decide +kernel, by decide +kernel⟩
theorem ok_copied_statement {n k : Nat} {f : Addr} {fd : FuncData} (F : FunD K "copied_statement" "copied_statement" (defArgs s_copied_statement) (defBody s_copied_statement) (defScope s_copied_statement) [] [] f fd) (B : Md w K mg) (F_copied_call : FnM P w K mg base k "copied_call" (sp_copied_call 5)) (F_copied_block : FnM P w K mg base k "copied_block" (sp_copied_block n)) : FnOk P w K mg base (L2.CX P w) (k + 1) f fd ["statement"] (lsp K (sp_copied_statement n)) :=
  def_ok (N := ["statement"]) (k := k) (t := (w_copied_statement n)) F sc_copied_statement (by intro ds M Q E h; unfold sp_copied_statement at h; first | (obtain ⟨rfl, _⟩ := h; rfl) | (obtain ⟨_, rfl, _⟩ := h; rfl) | (obtain ⟨_, _, rfl, _⟩ := h; rfl) | (obtain ⟨_, _, _, rfl, _⟩ := h; rfl) | (obtain ⟨_, _, _, _, rfl, _⟩ := h; rfl) | (obtain ⟨_, _, _, _, _, rfl, _⟩ := h; rfl) | (obtain ⟨_, _, _, _, _, _, rfl, _⟩ := h; rfl) | (obtain ⟨_, _, _, _, _, _, _, rfl, _⟩ := h; rfl) | (obtain ⟨_, _, _, _, _, _, _, _, rfl, _⟩ := h; rfl) | (obtain ⟨_, _, _, _, _, _, _, _, _, rfl, _⟩ := h; rfl) | (obtain ⟨_, _, _, _, _, _, _, _, _, _, rfl, _⟩ := h; rfl) | (obtain ⟨_, _, _, _, _, _, _, _, _, _, _, rfl, _⟩ := h; rfl) | (obtain ⟨_, _, _, _, _, _, _, _, _, _, _, _, rfl, _⟩ := h; rfl) | (obtain ⟨_, _, _, _, _, _, _, _, _, _, _, _, _, rfl, _⟩ := h; rfl))
    (fun cdv A outer s H E G hr => by exact dss_cons (ds_if (dt_cmp (op_eqN G) od_eq (de_ix G (de_var 0) (de_int)) (de_strc (by decide +kernel)) (by first | exact nomark _ | rfl | with_unfolding_all rfl)) (dss_one (ds_ret (de_tup (da_cons (de_strc (by decide +kernel)) (da_cons (de_call F_copied_call G (hr.mono (by omega)) (da_cons (de_ix G (de_var 0) (de_int)) (da_nil))) (da_nil)))))) (dss_nil)) (dss_cons (ds_if (dt_cmp (op_eqN G) od_eq (de_ix G (de_var 0) (de_int)) (de_str) (by first | exact nomark _ | rfl | with_unfolding_all rfl)) (dss_one (ds_ret (de_tup (da_cons (de_str) (da_cons (de_call F_copied_block G (hr.mono (by omega)) (da_cons (de_ix G (de_var 0) (de_int)) (da_nil))) (da_cons (de_call F_copied_block G (hr.mono (by omega)) (da_cons (de_ix G (de_var 0) (de_int)) (da_nil))) (da_nil))))))) (dss_nil)) (dss_cons (ds_if (dt_cmp (op_eqN G) od_eq (de_ix G (de_var 0) (de_int)) (de_str) (by first | exact nomark _ | rfl | with_unfolding_all rfl)) (dss_one (ds_ret (de_tup (da_cons (de_str) (da_cons (de_call F_copied_block G (hr.mono (by omega)) (da_cons (de_ix G (de_var 0) (de_int)) (da_nil))) (da_nil)))))) (dss_nil)) (dss_one (ds_ret (de_var 0)))))) (p_copied_statement n)
theorem sc_Walker_block : FnScope ["self", "block", "statement"] ["self", "block"] (defScope s_Walker_block) := ⟨rfl, rfl, rfl, by decide +kernel, rfl, by decide +kernel, by decide +kernel⟩
theorem ok_Walker_block {n k : Nat} {f : Addr} {fd : FuncData} (F : FunD K "block" "Walker.block" (defArgs s_Walker_block) (defBody s_Walker_block) (defScope s_Walker_block) [] [] f fd) (B : Md w K mg) (F_Walker_block : FnC P w K mg base k "Walker" "block" (sp_Walker_block n)) (F_Walker_choice : FnC P w K mg base k "Walker" "choice" sp_Walker_choice) (F_copied_statement : FnM P w K mg base k "copied_statement" (sp_copied_statement 3)) : FnOk P w K mg base (L2.CX P w) (k + 1) f fd ["self", "block"] (lsp K (sp_Walker_block (n + 1))) :=
  def_ok (N := ["self", "block", "statement"]) (k := k) (t := (w_Walker_block n)) F sc_Walker_block (by intro ds M Q E h; unfold sp_Walker_block at h; first | (obtain ⟨rfl, _⟩ := h; rfl) | (obtain ⟨_, rfl, _⟩ := h; rfl) | (obtain ⟨_, _, rfl, _⟩ := h; rfl) | (obtain ⟨_, _, _, rfl, _⟩ := h; rfl) | (obtain ⟨_, _, _, _, rfl, _⟩ := h; rfl) | (obtain ⟨_, _, _, _, _, rfl, _⟩ := h; rfl) | (obtain ⟨_, _, _, _, _, _, rfl, _⟩ := h; rfl) | (obtain ⟨_, _, _, _, _, _, _, rfl, _⟩ := h; rfl) | (obtain ⟨_, _, _, _, _, _, _, _, rfl, _⟩ := h; rfl) | (obtain ⟨_, _, _, _, _, _, _, _, _, rfl, _⟩ := h; rfl) | (obtain ⟨_, _, _, _, _, _, _, _, _, _, rfl, _⟩ := h; rfl) | (obtain ⟨_, _, _, _, _, _, _, _, _, _, _, rfl, _⟩ := h; rfl) | (obtain ⟨_, _, _, _, _, _, _, _, _, _, _, _, rfl, _⟩ := h; rfl) | (obtain ⟨_, _, _, _, _, _, _, _, _, _, _, _, _, rfl, _⟩ := h; rfl))
    (fun cdv A outer s H E G hr => by exact dss_one (ds_orS (ds_for G (di_any (de_var 1)) (dg_name 2 G.nd) (dss_one (ds_if (dt_cmp (op_eqN G) od_eq (de_ix G (de_var 2) (de_int)) (de_str) (by first | exact nomark _ | rfl | with_unfolding_all rfl)) (dss_one (ds_expr (de_meth F_Walker_block B.cls_Walker G (hr.mono (by omega)) (de_var 0) (da_cons (de_if (dt_tru (de_meth0 F_Walker_choice B.cls_Walker G (hr.mono (by omega)) (de_var 0))) (de_ix G (de_var 2) (de_int)) (de_ix G (de_var 2) (de_int))) (da_nil))))) (dss_one (ds_if (dt_cmp (op_eqN G) od_eq (de_ix G (de_var 2) (de_int)) (de_str) (by first | exact nomark _ | rfl | with_unfolding_all rfl)) (dss_one (ds_while G (dt_tru (de_meth0 F_Walker_choice B.cls_Walker G (hr.mono (by omega)) (de_var 0))) (dss_one (ds_expr (de_meth F_Walker_block B.cls_Walker G (hr.mono (by omega)) (de_var 0) (da_cons (de_ix G (de_var 2) (de_int)) (da_nil))))))) (dss_one (ds_expr (de_mt PySem.F.plainAttrs_list PySem.F.slot_list_append PySem.F.type_list_append md_append mt_append (de_fld B.cls_Walker B.na_Walker_passed (de_var 0)) (da_cons (de_call F_copied_statement G (hr.mono (by omega)) (da_cons (de_var 2) (da_nil))) (da_nil)))))))))) (ds_forR G (di_ref (de_var 1)) (dg_name 2 G.nd) (dss_one (ds_if (dt_cmp (op_eqN G) od_eq (de_ix G (de_var 2) (de_int)) (de_str) (by first | exact nomark _ | rfl | with_unfolding_all rfl)) (dss_one (ds_expr (de_meth F_Walker_block B.cls_Walker G (hr.mono (by omega)) (de_var 0) (da_cons (de_if (dt_tru (de_meth0 F_Walker_choice B.cls_Walker G (hr.mono (by omega)) (de_var 0))) (de_ix G (de_var 2) (de_int)) (de_ix G (de_var 2) (de_int))) (da_nil))))) (dss_one (ds_if (dt_cmp (op_eqN G) od_eq (de_ix G (de_var 2) (de_int)) (de_str) (by first | exact nomark _ | rfl | with_unfolding_all rfl)) (dss_one (ds_while G (dt_tru (de_meth0 F_Walker_choice B.cls_Walker G (hr.mono (by omega)) (de_var 0))) (dss_one (ds_expr (de_meth F_Walker_block B.cls_Walker G (hr.mono (by omega)) (de_var 0) (da_cons (de_ix G (de_var 2) (de_int)) (da_nil))))))) (dss_one (ds_expr (de_mt PySem.F.plainAttrs_list PySem.F.slot_list_append PySem.F.type_list_append md_append mt_append (de_fld B.cls_Walker B.na_Walker_passed (de_var 0)) (da_cons (de_call F_copied_statement G (hr.mono (by omega)) (da_cons (de_var 2) (da_nil))) (da_nil)))))))))))) (p_Walker_block n)
theorem sc_walked_along : FnScope ["program", "way", "walker"] ["program", "way"] (defScope s_walked_along) := ⟨rfl, rfl, rfl, by decide +kernel, rfl, by decide +kernel, by decide +kernel⟩
theorem ok_walked_along {f : Addr} {fd : FuncData} (F : FunD K "walked_along" "walked_along" (defArgs s_walked_along) (defBody s_walked_along) (defScope s_walked_along) [] [] f fd) (B : Md w K mg) (F_Walker_init : FnC P w K mg base 1 "Walker" "__init__" sp_Walker_init) (F_Walker_block : FnC P w K mg base 120 "Walker" "block" (sp_Walker_block 4)) : FnOk P w K mg base (L2.CX P w) (121) f fd ["program", "way"] (lsp K sp_walked_along) :=
  def_ok (N := ["program", "way", "walker"]) (k := 120) (t := w_walked_along) F sc_walked_along (by intro ds M Q E h; unfold sp_walked_along at h; first | (obtain ⟨rfl, _⟩ := h; rfl) | (obtain ⟨_, rfl, _⟩ := h; rfl) | (obtain ⟨_, _, rfl, _⟩ := h; rfl) | (obtain ⟨_, _, _, rfl, _⟩ := h; rfl) | (obtain ⟨_, _, _, _, rfl, _⟩ := h; rfl) | (obtain ⟨_, _, _, _, _, rfl, _⟩ := h; rfl) | (obtain ⟨_, _, _, _, _, _, rfl, _⟩ := h; rfl) | (obtain ⟨_, _, _, _, _, _, _, rfl, _⟩ := h; rfl) | (obtain ⟨_, _, _, _, _, _, _, _, rfl, _⟩ := h; rfl) | (obtain ⟨_, _, _, _, _, _, _, _, _, rfl, _⟩ := h; rfl) | (obtain ⟨_, _, _, _, _, _, _, _, _, _, rfl, _⟩ := h; rfl) | (obtain ⟨_, _, _, _, _, _, _, _, _, _, _, rfl, _⟩ := h; rfl) | (obtain ⟨_, _, _, _, _, _, _, _, _, _, _, _, rfl, _⟩ := h; rfl) | (obtain ⟨_, _, _, _, _, _, _, _, _, _, _, _, _, rfl, _⟩ := h; rfl))
    (fun cdv A outer s H E G hr => by exact dss_cons (ds_set 2 G (de_make F_Walker_init B.mk_Walker G B.k_Walker (hr.mono (by omega)) (da_cons (de_var 1) (da_nil)))) (dss_cons (ds_expr (de_meth F_Walker_block B.cls_Walker G (hr.mono (by omega)) (de_var 2) (da_cons (de_var 0) (da_nil)))) (dss_one (ds_ret (de_var 2))))) p_walked_along
theorem sc_straight : FnScope ["program", "way"] ["program", "way"] (defScope s_straight) := ⟨rfl, rfl, rfl, by decide +kernel, rfl, by decide +kernel, by decide +kernel⟩
theorem ok_straight {f : Addr} {fd : FuncData} (F : FunD K "straight" "straight" (defArgs s_straight) (defBody s_straight) (defScope s_straight) [] [] f fd) (B : Md w K mg) (F_walked_along : FnM P w K mg base 121 "walked_along" sp_walked_along) : FnOk P w K mg base (L2.CX P w) (122) f fd ["program", "way"] (lsp K sp_straight) :=
  def_ok (N := ["program", "way"]) (k := 121) (t := w_straight) F sc_straight (by intro ds M Q E h; unfold sp_straight at h; first | (obtain ⟨rfl, _⟩ := h; rfl) | (obtain ⟨_, rfl, _⟩ := h; rfl) | (obtain ⟨_, _, rfl, _⟩ := h; rfl) | (obtain ⟨_, _, _, rfl, _⟩ := h; rfl) | (obtain ⟨_, _, _, _, rfl, _⟩ := h; rfl) | (obtain ⟨_, _, _, _, _, rfl, _⟩ := h; rfl) | (obtain ⟨_, _, _, _, _, _, rfl, _⟩ := h; rfl) | (obtain ⟨_, _, _, _, _, _, _, rfl, _⟩ := h; rfl) | (obtain ⟨_, _, _, _, _, _, _, _, rfl, _⟩ := h; rfl) | (obtain ⟨_, _, _, _, _, _, _, _, _, rfl, _⟩ := h; rfl) | (obtain ⟨_, _, _, _, _, _, _, _, _, _, rfl, _⟩ := h; rfl) | (obtain ⟨_, _, _, _, _, _, _, _, _, _, _, rfl, _⟩ := h; rfl) | (obtain ⟨_, _, _, _, _, _, _, _, _, _, _, _, rfl, _⟩ := h; rfl) | (obtain ⟨_, _, _, _, _, _, _, _, _, _, _, _, _, rfl, _⟩ := h; rfl))
    (fun cdv A outer s H E G hr => by exact dss_one (ds_ret (de_fld B.cls_Walker B.na_Walker_passed (de_call F_walked_along G (hr.mono (by omega)) (da_cons (de_var 0) (da_cons (de_var 1) (da_nil))))))) p_straight
theorem sc_l_same_row : FnScope ["_law_actual", "_law_expected", "_law_k"] ["_law_actual", "_law_expected"] (defScope s_l_same_row) := ⟨rfl, rfl, rfl, by decide +kernel, rfl, by decide +kernel, by decide +kernel⟩
theorem ok_l_same_row {n k : Nat} {f : Addr} {fd : FuncData} (F : FunD K "_law_same_row" "_law_same_row" (defArgs s_l_same_row) (defBody s_l_same_row) (defScope s_l_same_row) [] [] f fd) (B : Md w K mg) (F_l_same : FnM P w K mg base k "_law_same" (sp_l_same n)) : FnOk P w K mg base (L2.CX P w) (k + 1) f fd ["_law_actual", "_law_expected"] (lsp K (sp_l_same_row (n + 1))) :=
  def_ok (N := ["_law_actual", "_law_expected", "_law_k"]) (k := k) (t := (w_l_same_row n)) F sc_l_same_row (by intro ds M Q E h; unfold sp_l_same_row at h; first | (obtain ⟨rfl, _⟩ := h; rfl) | (obtain ⟨_, rfl, _⟩ := h; rfl) | (obtain ⟨_, _, rfl, _⟩ := h; rfl) | (obtain ⟨_, _, _, rfl, _⟩ := h; rfl) | (obtain ⟨_, _, _, _, rfl, _⟩ := h; rfl) | (obtain ⟨_, _, _, _, _, rfl, _⟩ := h; rfl) | (obtain ⟨_, _, _, _, _, _, rfl, _⟩ := h; rfl) | (obtain ⟨_, _, _, _, _, _, _, rfl, _⟩ := h; rfl) | (obtain ⟨_, _, _, _, _, _, _, _, rfl, _⟩ := h; rfl) | (obtain ⟨_, _, _, _, _, _, _, _, _, rfl, _⟩ := h; rfl) | (obtain ⟨_, _, _, _, _, _, _, _, _, _, rfl, _⟩ := h; rfl) | (obtain ⟨_, _, _, _, _, _, _, _, _, _, _, rfl, _⟩ := h; rfl) | (obtain ⟨_, _, _, _, _, _, _, _, _, _, _, _, rfl, _⟩ := h; rfl) | (obtain ⟨_, _, _, _, _, _, _, _, _, _, _, _, _, rfl, _⟩ := h; rfl))
    (fun cdv A outer s H E G hr => by exact dss_cons (ds_if (dt_cmp (op_neN G) od_eq (de_callB cb_len call_lenA B.n_len PySem.boot_len (da_cons (de_var 0) (da_nil))) (de_callB cb_len call_lenA B.n_len PySem.boot_len (da_cons (de_var 1) (da_nil))) (by first | exact nomark _ | rfl | with_unfolding_all rfl)) (dss_one (ds_ret (de_bl))) (dss_nil)) (dss_cons (ds_for G (di_rng1 B.n_range (da_cons (de_callB cb_len call_lenA B.n_len PySem.boot_len (da_cons (de_var 1) (da_nil))) (da_nil))) (dg_name 2 G.nd) (dss_one (ds_if (dt_not (dt_tru (de_call F_l_same G (hr.mono (by omega)) (da_cons (de_ix G (de_var 0) (de_var 2)) (da_cons (de_ix G (de_var 1) (de_var 2)) (da_nil)))))) (dss_one (ds_ret (de_bl))) (dss_nil)))) (dss_one (ds_ret (de_bl))))) (p_l_same_row n)
theorem sc_l_same : FnScope ["_law_actual", "_law_expected"] ["_law_actual", "_law_expected"] (defScope s_l_same) := ⟨rfl, rfl, rfl, by decide +kernel, rfl, by decide +kernel, by decide +kernel⟩
theorem ok_l_same {n k : Nat} {f : Addr} {fd : FuncData} (F : FunD K "_law_same" "_law_same" (defArgs s_l_same) (defBody s_l_same) (defScope s_l_same) [] [] f fd) (B : Md w K mg) (F_l_same_row : FnM P w K mg base k "_law_same_row" (sp_l_same_row n)) : FnOk P w K mg base (L2.CX P w) (k + 1) f fd ["_law_actual", "_law_expected"] (lsp K (sp_l_same n)) :=
  def_ok (N := ["_law_actual", "_law_expected"]) (k := k) (t := (w_l_same n)) F sc_l_same (by intro ds M Q E h; unfold sp_l_same at h; first | (obtain ⟨rfl, _⟩ := h; rfl) | (obtain ⟨_, rfl, _⟩ := h; rfl) | (obtain ⟨_, _, rfl, _⟩ := h; rfl) | (obtain ⟨_, _, _, rfl, _⟩ := h; rfl) | (obtain ⟨_, _, _, _, rfl, _⟩ := h; rfl) | (obtain ⟨_, _, _, _, _, rfl, _⟩ := h; rfl) | (obtain ⟨_, _, _, _, _, _, rfl, _⟩ := h; rfl) | (obtain ⟨_, _, _, _, _, _, _, rfl, _⟩ := h; rfl) | (obtain ⟨_, _, _, _, _, _, _, _, rfl, _⟩ := h; rfl) | (obtain ⟨_, _, _, _, _, _, _, _, _, rfl, _⟩ := h; rfl) | (obtain ⟨_, _, _, _, _, _, _, _, _, _, rfl, _⟩ := h; rfl) | (obtain ⟨_, _, _, _, _, _, _, _, _, _, _, rfl, _⟩ := h; rfl) | (obtain ⟨_, _, _, _, _, _, _, _, _, _, _, _, rfl, _⟩ := h; rfl) | (obtain ⟨_, _, _, _, _, _, _, _, _, _, _, _, _, rfl, _⟩ := h; rfl))
    (fun cdv A outer s H E G hr => by exact dss_cons (ds_if (dt_cmp op_isN od_isN (de_var 1) (de_non) (by first | exact nomark _ | rfl | with_unfolding_all rfl)) (dss_one (ds_ret (de_cmp op_isN od_isN (de_var 0) (de_non) (by first | exact nomark _ | rfl | with_unfolding_all rfl)))) (dss_nil)) (dss_cons (ds_if (dt_tru (de_callB cb_isi call_isi B.n_isinstance PyProof.Rows.boot_isinstance (da_cons (de_var 1) (da_cons (de_ty B.n_bool PyProof.Rows.boot_bool) (da_nil))))) (dss_one (ds_ret (de_and (de_callB cb_isi call_isi B.n_isinstance PyProof.Rows.boot_isinstance (da_cons (de_var 0) (da_cons (de_ty B.n_bool PyProof.Rows.boot_bool) (da_nil)))) (de_one (de_cmp (op_eqN G) od_eq (de_var 0) (de_var 1) (by first | exact nomark _ | rfl | with_unfolding_all rfl)))))) (dss_nil)) (dss_cons (ds_if (dt_tru (de_callB cb_isi call_isi B.n_isinstance PyProof.Rows.boot_isinstance (da_cons (de_var 1) (da_cons (de_ty B.n_int PyProof.Rows.boot_int) (da_nil))))) (dss_one (ds_ret (de_and (de_callB cb_isi call_isi B.n_isinstance PyProof.Rows.boot_isinstance (da_cons (de_var 0) (da_cons (de_ty B.n_int PyProof.Rows.boot_int) (da_nil)))) (de_and (de_not (de_callB cb_isi call_isi B.n_isinstance PyProof.Rows.boot_isinstance (da_cons (de_var 0) (da_cons (de_ty B.n_bool PyProof.Rows.boot_bool) (da_nil))))) (de_one (de_cmp (op_eqN G) od_eq (de_var 0) (de_var 1) (by first | exact nomark _ | rfl | with_unfolding_all rfl))))))) (dss_nil)) (dss_cons (ds_if (dt_tru (de_callB cb_isi call_isi B.n_isinstance PyProof.Rows.boot_isinstance (da_cons (de_var 1) (da_cons (de_ty B.n_str PyProof.Rows.boot_str) (da_nil))))) (dss_one (ds_ret (de_and (de_callB cb_isi call_isi B.n_isinstance PyProof.Rows.boot_isinstance (da_cons (de_var 0) (da_cons (de_ty B.n_str PyProof.Rows.boot_str) (da_nil)))) (de_one (de_cmp (op_eqN G) od_eq (de_var 0) (de_var 1) (by first | exact nomark _ | rfl | with_unfolding_all rfl)))))) (dss_nil)) (dss_cons (ds_if (dt_tru (de_callB cb_isi call_isi B.n_isinstance PyProof.Rows.boot_isinstance (da_cons (de_var 1) (da_cons (de_ty B.n_list PyProof.Rows.boot_list) (da_nil))))) (dss_one (ds_ret (de_and (de_callB cb_isi call_isi B.n_isinstance PyProof.Rows.boot_isinstance (da_cons (de_var 0) (da_cons (de_ty B.n_list PyProof.Rows.boot_list) (da_nil)))) (de_one (de_call F_l_same_row G (hr.mono (by omega)) (da_cons (de_var 0) (da_cons (de_var 1) (da_nil)))))))) (dss_nil)) (dss_one (ds_ret (de_and (de_callB cb_isi call_isi B.n_isinstance PyProof.Rows.boot_isinstance (da_cons (de_var 0) (da_cons (de_ty B.n_tuple PyProof.Rows.boot_tuple) (da_nil)))) (de_one (de_call F_l_same_row G (hr.mono (by omega)) (da_cons (de_var 0) (da_cons (de_var 1) (da_nil))))))))))))) (p_l_same n)
theorem sc_l_follow : FnScope ["_law_block_here", "_law_way_here", "_law_taken", "_law_passed", "_law_statement", "_law_k"] ["_law_block_here", "_law_way_here", "_law_taken", "_law_passed"] (defScope s_l_follow) := ⟨rfl, rfl, rfl, by decide +kernel, rfl, by decide +kernel, by decide +kernel⟩
theorem ok_l_follow {n k : Nat} {f : Addr} {fd : FuncData} (F : FunD K "_law_follow" "_law_follow" (defArgs s_l_follow) (defBody s_l_follow) (defScope s_l_follow) [] [] f fd) (B : Md w K mg) (F_l_follow : FnM P w K mg base k "_law_follow" (sp_l_follow n)) : FnOk P w K mg base (L2.CX P w) (k + 1) f fd ["_law_block_here", "_law_way_here", "_law_taken", "_law_passed"] (lsp K (sp_l_follow (n + 1))) :=
  def_ok (N := ["_law_block_here", "_law_way_here", "_law_taken", "_law_passed", "_law_statement", "_law_k"]) (k := k) (t := (w_l_follow n)) F sc_l_follow (by intro ds M Q E h; unfold sp_l_follow at h; first | (obtain ⟨rfl, _⟩ := h; rfl) | (obtain ⟨_, rfl, _⟩ := h; rfl) | (obtain ⟨_, _, rfl, _⟩ := h; rfl) | (obtain ⟨_, _, _, rfl, _⟩ := h; rfl) | (obtain ⟨_, _, _, _, rfl, _⟩ := h; rfl) | (obtain ⟨_, _, _, _, _, rfl, _⟩ := h; rfl) | (obtain ⟨_, _, _, _, _, _, rfl, _⟩ := h; rfl) | (obtain ⟨_, _, _, _, _, _, _, rfl, _⟩ := h; rfl) | (obtain ⟨_, _, _, _, _, _, _, _, rfl, _⟩ := h; rfl) | (obtain ⟨_, _, _, _, _, _, _, _, _, rfl, _⟩ := h; rfl) | (obtain ⟨_, _, _, _, _, _, _, _, _, _, rfl, _⟩ := h; rfl) | (obtain ⟨_, _, _, _, _, _, _, _, _, _, _, rfl, _⟩ := h; rfl) | (obtain ⟨_, _, _, _, _, _, _, _, _, _, _, _, rfl, _⟩ := h; rfl) | (obtain ⟨_, _, _, _, _, _, _, _, _, _, _, _, _, rfl, _⟩ := h; rfl))
    (fun cdv A outer s H E G hr => by exact dss_one (ds_orS (ds_for G (di_any (de_var 0)) (dg_name 4 G.nd) (dss_one (ds_if (dt_cmp (op_eqN G) od_eq (de_ix G (de_var 4) (de_int)) (de_str) (by first | exact nomark _ | rfl | with_unfolding_all rfl)) (dss_cons (ds_expr (de_mt PySem.F.plainAttrs_list PySem.F.slot_list_append PySem.F.type_list_append md_append mt_append (de_var 2) (da_cons (de_and (de_cmp op_lt od_b (de_callB cb_len call_lenA B.n_len PySem.boot_len (da_cons (de_var 2) (da_nil))) (de_callB cb_len call_lenA B.n_len PySem.boot_len (da_cons (de_var 1) (da_nil))) (by first | exact nomark _ | rfl | with_unfolding_all rfl)) (de_one (de_ix G (de_var 1) (de_callB cb_len call_lenA B.n_len PySem.boot_len (da_cons (de_var 2) (da_nil)))))) (da_nil)))) (dss_one (ds_if (dt_tru (de_ix G (de_var 2) (de_un un_neg ud_neg (de_int)))) (dss_one (ds_expr (de_call F_l_follow G (hr.mono (by omega)) (da_cons (de_ix G (de_var 4) (de_int)) (da_cons (de_var 1) (da_cons (de_var 2) (da_cons (de_var 3) (da_nil)))))))) (dss_one (ds_expr (de_call F_l_follow G (hr.mono (by omega)) (da_cons (de_ix G (de_var 4) (de_int)) (da_cons (de_var 1) (da_cons (de_var 2) (da_cons (de_var 3) (da_nil))))))))))) (dss_one (ds_if (dt_cmp (op_eqN G) od_eq (de_ix G (de_var 4) (de_int)) (de_str) (by first | exact nomark _ | rfl | with_unfolding_all rfl)) (dss_one (ds_for G (di_rng1 B.n_range (da_cons (de_op op_addA od_add (de_callB cb_len call_lenA B.n_len PySem.boot_len (da_cons (de_var 1) (da_nil))) (de_int)) (da_nil))) (dg_name 5 G.nd) (dss_cons (ds_expr (de_mt PySem.F.plainAttrs_list PySem.F.slot_list_append PySem.F.type_list_append md_append mt_append (de_var 2) (da_cons (de_and (de_cmp op_lt od_b (de_callB cb_len call_lenA B.n_len PySem.boot_len (da_cons (de_var 2) (da_nil))) (de_callB cb_len call_lenA B.n_len PySem.boot_len (da_cons (de_var 1) (da_nil))) (by first | exact nomark _ | rfl | with_unfolding_all rfl)) (de_one (de_ix G (de_var 1) (de_callB cb_len call_lenA B.n_len PySem.boot_len (da_cons (de_var 2) (da_nil)))))) (da_nil)))) (dss_cons (ds_if (dt_not (dt_tru (de_ix G (de_var 2) (de_un un_neg ud_neg (de_int))))) (dss_one (ds_break)) (dss_nil)) (dss_one (ds_expr (de_call F_l_follow G (hr.mono (by omega)) (da_cons (de_ix G (de_var 4) (de_int)) (da_cons (de_var 1) (da_cons (de_var 2) (da_cons (de_var 3) (da_nil)))))))))))) (dss_one (ds_expr (de_mt PySem.F.plainAttrs_list PySem.F.slot_list_append PySem.F.type_list_append md_append mt_append (de_var 3) (da_cons (de_var 4) (da_nil)))))))))) (ds_forR G (di_ref (de_var 0)) (dg_name 4 G.nd) (dss_one (ds_if (dt_cmp (op_eqN G) od_eq (de_ix G (de_var 4) (de_int)) (de_str) (by first | exact nomark _ | rfl | with_unfolding_all rfl)) (dss_cons (ds_expr (de_mt PySem.F.plainAttrs_list PySem.F.slot_list_append PySem.F.type_list_append md_append mt_append (de_var 2) (da_cons (de_and (de_cmp op_lt od_b (de_callB cb_len call_lenA B.n_len PySem.boot_len (da_cons (de_var 2) (da_nil))) (de_callB cb_len call_lenA B.n_len PySem.boot_len (da_cons (de_var 1) (da_nil))) (by first | exact nomark _ | rfl | with_unfolding_all rfl)) (de_one (de_ix G (de_var 1) (de_callB cb_len call_lenA B.n_len PySem.boot_len (da_cons (de_var 2) (da_nil)))))) (da_nil)))) (dss_one (ds_if (dt_tru (de_ix G (de_var 2) (de_un un_neg ud_neg (de_int)))) (dss_one (ds_expr (de_call F_l_follow G (hr.mono (by omega)) (da_cons (de_ix G (de_var 4) (de_int)) (da_cons (de_var 1) (da_cons (de_var 2) (da_cons (de_var 3) (da_nil)))))))) (dss_one (ds_expr (de_call F_l_follow G (hr.mono (by omega)) (da_cons (de_ix G (de_var 4) (de_int)) (da_cons (de_var 1) (da_cons (de_var 2) (da_cons (de_var 3) (da_nil))))))))))) (dss_one (ds_if (dt_cmp (op_eqN G) od_eq (de_ix G (de_var 4) (de_int)) (de_str) (by first | exact nomark _ | rfl | with_unfolding_all rfl)) (dss_one (ds_for G (di_rng1 B.n_range (da_cons (de_op op_addA od_add (de_callB cb_len call_lenA B.n_len PySem.boot_len (da_cons (de_var 1) (da_nil))) (de_int)) (da_nil))) (dg_name 5 G.nd) (dss_cons (ds_expr (de_mt PySem.F.plainAttrs_list PySem.F.slot_list_append PySem.F.type_list_append md_append mt_append (de_var 2) (da_cons (de_and (de_cmp op_lt od_b (de_callB cb_len call_lenA B.n_len PySem.boot_len (da_cons (de_var 2) (da_nil))) (de_callB cb_len call_lenA B.n_len PySem.boot_len (da_cons (de_var 1) (da_nil))) (by first | exact nomark _ | rfl | with_unfolding_all rfl)) (de_one (de_ix G (de_var 1) (de_callB cb_len call_lenA B.n_len PySem.boot_len (da_cons (de_var 2) (da_nil)))))) (da_nil)))) (dss_cons (ds_if (dt_not (dt_tru (de_ix G (de_var 2) (de_un un_neg ud_neg (de_int))))) (dss_one (ds_break)) (dss_nil)) (dss_one (ds_expr (de_call F_l_follow G (hr.mono (by omega)) (da_cons (de_ix G (de_var 4) (de_int)) (da_cons (de_var 1) (da_cons (de_var 2) (da_cons (de_var 3) (da_nil)))))))))))) (dss_one (ds_expr (de_mt PySem.F.plainAttrs_list PySem.F.slot_list_append PySem.F.type_list_append md_append mt_append (de_var 3) (da_cons (de_var 4) (da_nil)))))))))))) (p_l_follow n)
theorem sc_l_due : FnScope ["_law_program", "_law_way_here", "_law_passed"] ["_law_program", "_law_way_here"] (defScope s_l_due) := ⟨rfl, rfl, rfl, by decide +kernel, rfl, by decide +kernel, by decide +kernel⟩
theorem ok_l_due {f : Addr} {fd : FuncData} (F : FunD K "_law_due" "_law_due" (defArgs s_l_due) (defBody s_l_due) (defScope s_l_due) [] [] f fd) (B : Md w K mg) (F_l_follow : FnM P w K mg base 120 "_law_follow" (sp_l_follow 4)) : FnOk P w K mg base (L2.CX P w) (121) f fd ["_law_program", "_law_way_here"] (lsp K sp_l_due) :=
  def_ok (N := ["_law_program", "_law_way_here", "_law_passed"]) (k := 120) (t := w_l_due) F sc_l_due (by intro ds M Q E h; unfold sp_l_due at h; first | (obtain ⟨rfl, _⟩ := h; rfl) | (obtain ⟨_, rfl, _⟩ := h; rfl) | (obtain ⟨_, _, rfl, _⟩ := h; rfl) | (obtain ⟨_, _, _, rfl, _⟩ := h; rfl) | (obtain ⟨_, _, _, _, rfl, _⟩ := h; rfl) | (obtain ⟨_, _, _, _, _, rfl, _⟩ := h; rfl) | (obtain ⟨_, _, _, _, _, _, rfl, _⟩ := h; rfl) | (obtain ⟨_, _, _, _, _, _, _, rfl, _⟩ := h; rfl) | (obtain ⟨_, _, _, _, _, _, _, _, rfl, _⟩ := h; rfl) | (obtain ⟨_, _, _, _, _, _, _, _, _, rfl, _⟩ := h; rfl) | (obtain ⟨_, _, _, _, _, _, _, _, _, _, rfl, _⟩ := h; rfl) | (obtain ⟨_, _, _, _, _, _, _, _, _, _, _, rfl, _⟩ := h; rfl) | (obtain ⟨_, _, _, _, _, _, _, _, _, _, _, _, rfl, _⟩ := h; rfl) | (obtain ⟨_, _, _, _, _, _, _, _, _, _, _, _, _, rfl, _⟩ := h; rfl))
    (fun cdv A outer s H E G hr => by exact dss_cons (ds_set 2 G (de_lstM (da_nil))) (dss_cons (ds_expr (de_call F_l_follow G (hr.mono (by omega)) (da_cons (de_var 0) (da_cons (de_var 1) (da_cons (de_lstM (da_nil)) (da_cons (de_var 2) (da_nil))))))) (dss_one (ds_ret (de_frz (de_var 2)))))) p_l_due
theorem sc_l_change_call : FnScope ["_law_call_here", "_law_argument_here"] ["_law_call_here"] (defScope s_l_change_call) := ⟨rfl, rfl, rfl, by decide +kernel, rfl, by decide +kernel, by decide +kernel⟩
theorem ok_l_change_call {n k : Nat} {f : Addr} {fd : FuncData} (F : FunD K "_law_change_call" "_law_change_call" (defArgs s_l_change_call) (defBody s_l_change_call) (defScope s_l_change_call) [] [] f fd) (B : Md w K mg) (F_l_change_call : FnM P w K mg base k "_law_change_call" (sp_l_change_call n)) : FnOk P w K mg base (L2.CX P w) (k + 1) f fd ["_law_call_here"] (lsp K (sp_l_change_call (n + 1))) :=
  def_ok (N := ["_law_call_here", "_law_argument_here"]) (k := k) (t := (w_l_change_call n)) F sc_l_change_call (by intro ds M Q E h; unfold sp_l_change_call at h; first | (obtain ⟨rfl, _⟩ := h; rfl) | (obtain ⟨_, rfl, _⟩ := h; rfl) | (obtain ⟨_, _, rfl, _⟩ := h; rfl) | (obtain ⟨_, _, _, rfl, _⟩ := h; rfl) | (obtain ⟨_, _, _, _, rfl, _⟩ := h; rfl) | (obtain ⟨_, _, _, _, _, rfl, _⟩ := h; rfl) | (obtain ⟨_, _, _, _, _, _, rfl, _⟩ := h; rfl) | (obtain ⟨_, _, _, _, _, _, _, rfl, _⟩ := h; rfl) | (obtain ⟨_, _, _, _, _, _, _, _, rfl, _⟩ := h; rfl) | (obtain ⟨_, _, _, _, _, _, _, _, _, rfl, _⟩ := h; rfl) | (obtain ⟨_, _, _, _, _, _, _, _, _, _, rfl, _⟩ := h; rfl) | (obtain ⟨_, _, _, _, _, _, _, _, _, _, _, rfl, _⟩ := h; rfl) | (obtain ⟨_, _, _, _, _, _, _, _, _, _, _, _, rfl, _⟩ := h; rfl) | (obtain ⟨_, _, _, _, _, _, _, _, _, _, _, _, _, rfl, _⟩ := h; rfl))
    (fun cdv A outer s H E G hr => by exact dss_cons (ds_for G (di_any (de_callTy cb_list call_list_of B.n_list PyProof.Rows.boot_list (da_cons (de_ix G (de_var 0) (de_int)) (da_nil)))) (dg_name 1 G.nd) (dss_one (ds_if (dt_cmp (op_eqN G) od_eq (de_ix G (de_var 1) (de_int)) (de_str) (by first | exact nomark _ | rfl | with_unfolding_all rfl)) (dss_one (ds_expr (de_call F_l_change_call G (hr.mono (by omega)) (da_cons (de_var 1) (da_nil))))) (dss_nil)))) (dss_one (ds_expr (de_mt PySem.F.plainAttrs_list PySem.F.slot_list_insert PySem.F.type_list_insert md_insert mt_insert (de_ix G (de_var 0) (de_int)) (da_cons (de_int) (da_cons (de_tup (da_cons (de_str) (da_cons (de_int) (da_nil)))) (da_nil))))))) (p_l_change_call n)
theorem sc_law : FnScope ["_law_script", "_law_source", "_law_places_here", "_law_program", "_law_ways", "_law_handed", "_law_k", "_law_way_here", "_law_actual", "_law_statement", "_law_at"] ["_law_script"] (defScope s_law) := ⟨rfl, rfl, rfl, by decide +kernel, rfl, by decide +kernel, by decide +kernel⟩
theorem ok_law {f : Addr} {fd : FuncData} (F : FunD K "law" "law" (defArgs s_law) (defBody s_law) (defScope s_law) [] [] f fd) (B : Md w K mg) (F_l_begin : FnM P w K mg base 1 "_law_begin" sp_l_begin) (F_l_places : FnM P w K mg base 8 "_law_places" sp_l_places) (F_l_branched : FnM P w K mg base 92 "_law_branched" sp_l_branched) (F_l_long_way : FnM P w K mg base 3 "_law_long_way" sp_l_long_way) (F_l_copy : FnM P w K mg base 90 "_law_copy" (sp_l_copy 4)) (F_straight : FnM P w K mg base 122 "straight" sp_straight) (F_l_same : FnM P w K mg base 41 "_law_same" (sp_l_same 20)) (F_l_due : FnM P w K mg base 121 "_law_due" sp_l_due) (F_l_change_call : FnM P w K mg base 60 "_law_change_call" (sp_l_change_call 5)) (F_l_simple : FnM P w K mg base 61 "_law_simple" sp_l_simple) (F_l_draw : FnM P w K mg base 1 "_law_draw" sp_l_draw) : FnOk P w K mg base (L2.CX P w) (123) f fd ["_law_script"] (lsp K sp_law) :=
  def_ok (N := ["_law_script", "_law_source", "_law_places_here", "_law_program", "_law_ways", "_law_handed", "_law_k", "_law_way_here", "_law_actual", "_law_statement", "_law_at"]) (k := 122) (t := w_law) F sc_law (by intro ds M Q E h; unfold sp_law at h; first | (obtain ⟨rfl, _⟩ := h; rfl) | (obtain ⟨_, rfl, _⟩ := h; rfl) | (obtain ⟨_, _, rfl, _⟩ := h; rfl) | (obtain ⟨_, _, _, rfl, _⟩ := h; rfl) | (obtain ⟨_, _, _, _, rfl, _⟩ := h; rfl) | (obtain ⟨_, _, _, _, _, rfl, _⟩ := h; rfl) | (obtain ⟨_, _, _, _, _, _, rfl, _⟩ := h; rfl) | (obtain ⟨_, _, _, _, _, _, _, rfl, _⟩ := h; rfl) | (obtain ⟨_, _, _, _, _, _, _, _, rfl, _⟩ := h; rfl) | (obtain ⟨_, _, _, _, _, _, _, _, _, rfl, _⟩ := h; rfl) | (obtain ⟨_, _, _, _, _, _, _, _, _, _, rfl, _⟩ := h; rfl) | (obtain ⟨_, _, _, _, _, _, _, _, _, _, _, rfl, _⟩ := h; rfl) | (obtain ⟨_, _, _, _, _, _, _, _, _, _, _, _, rfl, _⟩ := h; rfl) | (obtain ⟨_, _, _, _, _, _, _, _, _, _, _, _, _, rfl, _⟩ := h; rfl))
    (fun cdv A outer s H E G hr => by exact dss_cons (ds_set 1 G (de_call F_l_begin G (hr.mono (by omega)) (da_cons (de_var 0) (da_nil)))) (dss_cons (ds_set 2 G (de_call F_l_places G (hr.mono (by omega)) (da_cons (de_var 1) (da_cons (de_int) (da_nil))))) (dss_cons (ds_set 3 G (de_call F_l_branched G (hr.mono (by omega)) (da_cons (de_var 1) (da_cons (de_var 2) (da_cons (de_int) (da_nil)))))) (dss_cons (ds_set 4 G (de_lst (da_cons (de_call F_l_long_way G (hr.mono (by omega)) (da_cons (de_var 1) (da_nil))) (da_cons (de_call F_l_long_way G (hr.mono (by omega)) (da_cons (de_var 1) (da_nil))) (da_cons (de_lst (da_nil)) (da_nil)))))) (dss_cons (ds_set 5 G (de_call F_l_copy G (hr.mono (by omega)) (da_cons (de_var 3) (da_nil)))) (dss_cons (ds_for G (di_any (de_lst (da_cons (de_int) (da_cons (de_int) (da_cons (de_int) (da_cons (de_int) (da_nil))))))) (dg_name 6 G.nd) (dss_cons (ds_set 7 G (de_callTy cb_list call_list_of B.n_list PyProof.Rows.boot_list (da_cons (de_ix G (de_var 4) (de_var 6)) (da_nil)))) (dss_cons (ds_set 8 G (de_call F_straight G (hr.mono (by omega)) (da_cons (de_var 5) (da_cons (de_var 7) (da_nil))))) (dss_cons (ds_if (dt_w (dw_or (dt_not (dt_tru (de_call F_l_same G (hr.mono (by omega)) (da_cons (de_var 8) (da_cons (de_call F_l_due G (hr.mono (by omega)) (da_cons (de_var 3) (da_cons (de_ix G (de_var 4) (de_var 6)) (da_nil)))) (da_nil)))))) (dw_or1 (dt_not (dt_tru (de_call F_l_same G (hr.mono (by omega)) (da_cons (de_var 7) (da_cons (de_ix G (de_var 4) (de_var 6)) (da_nil))))))))) (dss_one (ds_ret (de_bl))) (dss_nil)) (dss_cons (ds_forR G (di_ref (de_var 8)) (dg_name 9 G.nd) (dss_one (ds_if (dt_cmp (op_eqN G) od_eq (de_ix G (de_var 9) (de_int)) (de_strc (by decide +kernel)) (by first | exact nomark _ | rfl | with_unfolding_all rfl)) (dss_one (ds_expr (de_call F_l_change_call G (hr.mono (by omega)) (da_cons (de_ix G (de_var 9) (de_int)) (da_nil))))) (dss_nil)))) (dss_cons (ds_expr (de_mt PySem.F.plainAttrs_list PySem.F.slot_list_append PySem.F.type_list_append md_append mt_append (de_var 8) (da_cons (de_tup (da_cons (de_str) (da_cons (de_strc (by decide +kernel)) (da_cons (de_str) (da_cons (de_strc (by decide +kernel)) (da_nil)))))) (da_nil)))) (dss_one (ds_if (dt_not (dt_tru (de_call F_l_same G (hr.mono (by omega)) (da_cons (de_var 5) (da_cons (de_var 3) (da_nil)))))) (dss_one (ds_ret (de_bl))) (dss_nil))))))))) (dss_cons (ds_set 9 G (de_call F_l_simple G (hr.mono (by omega)) (da_cons (de_var 1) (da_cons (de_var 2) (da_cons (de_lstM (da_cons (de_int) (da_nil))) (da_nil)))))) (dss_cons (ds_set 10 G (de_call F_l_draw G (hr.mono (by omega)) (da_cons (de_var 1) (da_cons (de_op op_addA od_add (de_callB cb_len call_lenA B.n_len PySem.boot_len (da_cons (de_var 3) (da_nil))) (de_int)) (da_nil))))) (dss_cons (ds_expr (de_mt PySem.F.plainAttrs_list PySem.F.slot_list_insert PySem.F.type_list_insert md_insert mt_insert (de_var 3) (da_cons (de_var 10) (da_cons (de_var 9) (da_nil))))) (dss_cons (ds_expr (de_mt PySem.F.plainAttrs_list PySem.F.slot_list_insert PySem.F.type_list_insert md_insert mt_insert (de_var 5) (da_cons (de_var 10) (da_cons (de_ix G (de_call F_l_copy G (hr.mono (by omega)) (da_cons (de_lst (da_cons (de_var 9) (da_nil))) (da_nil))) (de_int)) (da_nil))))) (dss_one (ds_ret (de_call F_l_same G (hr.mono (by omega)) (da_cons (de_call F_straight G (hr.mono (by omega)) (da_cons (de_var 5) (da_cons (de_callTy cb_list call_list_of B.n_list PyProof.Rows.boot_list (da_cons (de_ix G (de_var 4) (de_int)) (da_nil))) (da_nil)))) (da_cons (de_call F_l_due G (hr.mono (by omega)) (da_cons (de_var 3) (da_cons (de_ix G (de_var 4) (de_int)) (da_nil)))) (da_nil)))))))))))))))) p_law
end
theorem facts {P : Program} {w : World} {K : PySem.W.Frag} {h : Heap} {mg : Str → Option Value} {f : Addr} (X : K.In h) (G : h.Ns mainGlobals mg) (hfa : mg ("law" : Str) = some (.ref f)) (c : DL.SaysE fa fn gb ts fx fe w K) :
    ∃ fd : FuncData, (∀ (s : Shared) (v : Value), BindsTo s fd ⟨[v], []⟩ [("_law_script", v)]) ∧ ∀ base : Heap, K.In base → base.Ns mainGlobals mg → FnOk P w K mg base (L2.CX P w) 123 f fd ["_law_script"] (lsp K sp_law) := by
  have B : Md w K mg := ⟨(He.free_ok X G (c.z.y.x.d.fact 35 (f := .free "bool") rfl)), (He.free_ok X G (c.z.y.x.d.fact 36 (f := .free "int") rfl)), (He.free_ok X G (c.z.y.x.d.fact 37 (f := .free "isinstance") rfl)), (He.free_ok X G (c.z.y.x.d.fact 38 (f := .free "len") rfl)), (He.free_ok X G (c.z.y.x.d.fact 39 (f := .free "list") rfl)), (He.free_ok X G (c.z.y.x.d.fact 40 (f := .free "range") rfl)), (He.free_ok X G (c.z.y.x.d.fact 41 (f := .free "str") rfl)), (He.free_ok X G (c.z.y.x.d.fact 42 (f := .free "tuple") rfl)), (He.cls_ok (c.z.y.x.d.fact 43 (f := .cls "Walker") rfl)), (He.noat_ok (c.z.y.x.d.fact 44 (f := .noat "Walker" "passed") rfl)), (He.mkr_ok (c.z.y.x.d.fact 45 (f := .mkr "Walker") rfl)), (He.glo_ok X G (c.z.y.x.d.fact 46 (f := .glo "Walker") rfl)), (He.noat_ok (c.z.y.x.d.fact 47 (f := .noat "Walker" "_way") rfl)), (He.noat_ok (c.z.y.x.d.fact 48 (f := .noat "Walker" "taken") rfl))⟩
  obtain ⟨fd_l_begin, D_l_begin⟩ := c.z.y.x.d.def_ 0 (d := ⟨("_law_begin", none), "_law_begin", "_law_begin", defArgs (top 10), defBody (top 10), defScope (top 10), [], []⟩) rfl
  have g_l_begin : mg "_law_begin" = some (.ref (He.ga K "_law_begin")) := He.glo_ok X G (c.z.y.x.d.fact 0 (f := .glo "_law_begin") rfl)
  have b_l_begin : Binds K fd_l_begin ["_law_script"] [] := D_l_begin.bindsN (ps := ["_law_script"]) fun _ _ _ _ _ _ us hl => match us, hl with | [_], _ => rfl
  obtain ⟨fd_l_draw, D_l_draw⟩ := c.z.y.x.d.def_ 1 (d := ⟨("_law_draw", none), "_law_draw", "_law_draw", defArgs (top 11), defBody (top 11), defScope (top 11), [], []⟩) rfl
  have g_l_draw : mg "_law_draw" = some (.ref (He.ga K "_law_draw")) := He.glo_ok X G (c.z.y.x.d.fact 1 (f := .glo "_law_draw") rfl)
  have b_l_draw : Binds K fd_l_draw ["_law_source", "_law_size"] [] := D_l_draw.bindsN (ps := ["_law_source", "_law_size"]) fun _ _ _ _ _ _ us hl => match us, hl with | [_, _], _ => rfl
  obtain ⟨fd_l_pick, D_l_pick⟩ := c.z.y.x.d.def_ 2 (d := ⟨("_law_pick", none), "_law_pick", "_law_pick", defArgs (top 12), defBody (top 12), defScope (top 12), [], []⟩) rfl
  have g_l_pick : mg "_law_pick" = some (.ref (He.ga K "_law_pick")) := He.glo_ok X G (c.z.y.x.d.fact 2 (f := .glo "_law_pick") rfl)
  have b_l_pick : Binds K fd_l_pick ["_law_source", "_law_row"] [] := D_l_pick.bindsN (ps := ["_law_source", "_law_row"]) fun _ _ _ _ _ _ us hl => match us, hl with | [_, _], _ => rfl
  obtain ⟨fd_l_name, D_l_name⟩ := c.z.y.x.d.def_ 3 (d := ⟨("_law_name", none), "_law_name", "_law_name", defArgs (top 15), defBody (top 15), defScope (top 15), [], []⟩) rfl
  have g_l_name : mg "_law_name" = some (.ref (He.ga K "_law_name")) := He.glo_ok X G (c.z.y.x.d.fact 3 (f := .glo "_law_name") rfl)
  have b_l_name : Binds K fd_l_name ["_law_source"] [] := D_l_name.bindsN (ps := ["_law_source"]) fun _ _ _ _ _ _ us hl => match us, hl with | [_], _ => rfl
  obtain ⟨fd_l_step, D_l_step⟩ := c.z.y.x.d.def_ 4 (d := ⟨("_law_step", none), "_law_step", "_law_step", defArgs (top 16), defBody (top 16), defScope (top 16), [], []⟩) rfl
  have g_l_step : mg "_law_step" = some (.ref (He.ga K "_law_step")) := He.glo_ok X G (c.z.y.x.d.fact 4 (f := .glo "_law_step") rfl)
  have b_l_step : Binds K fd_l_step ["_law_source"] [] := D_l_step.bindsN (ps := ["_law_source"]) fun _ _ _ _ _ _ us hl => match us, hl with | [_], _ => rfl
  obtain ⟨fd_l_tail, D_l_tail⟩ := c.z.y.x.d.def_ 5 (d := ⟨("_law_tail", none), "_law_tail", "_law_tail", defArgs (top 17), defBody (top 17), defScope (top 17), [], []⟩) rfl
  have g_l_tail : mg "_law_tail" = some (.ref (He.ga K "_law_tail")) := He.glo_ok X G (c.z.y.x.d.fact 5 (f := .glo "_law_tail") rfl)
  have b_l_tail : Binds K fd_l_tail ["_law_source", "_law_most"] [] := D_l_tail.bindsN (ps := ["_law_source", "_law_most"]) fun _ _ _ _ _ _ us hl => match us, hl with | [_, _], _ => rfl
  obtain ⟨fd_l_place, D_l_place⟩ := c.z.y.x.d.def_ 6 (d := ⟨("_law_place", none), "_law_place", "_law_place", defArgs (top 18), defBody (top 18), defScope (top 18), [], []⟩) rfl
  have g_l_place : mg "_law_place" = some (.ref (He.ga K "_law_place")) := He.glo_ok X G (c.z.y.x.d.fact 6 (f := .glo "_law_place") rfl)
  have b_l_place : Binds K fd_l_place ["_law_source"] [] := D_l_place.bindsN (ps := ["_law_source"]) fun _ _ _ _ _ _ us hl => match us, hl with | [_], _ => rfl
  obtain ⟨fd_l_parts, D_l_parts⟩ := c.z.y.x.d.def_ 7 (d := ⟨("_law_parts", none), "_law_parts", "_law_parts", defArgs (top 19), defBody (top 19), defScope (top 19), [], []⟩) rfl
  have g_l_parts : mg "_law_parts" = some (.ref (He.ga K "_law_parts")) := He.glo_ok X G (c.z.y.x.d.fact 7 (f := .glo "_law_parts") rfl)
  have b_l_parts : Binds K fd_l_parts ["_law_node"] [] := D_l_parts.bindsN (ps := ["_law_node"]) fun _ _ _ _ _ _ us hl => match us, hl with | [_], _ => rfl
  obtain ⟨fd_l_near, D_l_near⟩ := c.z.y.x.d.def_ 8 (d := ⟨("_law_near", none), "_law_near", "_law_near", defArgs (top 20), defBody (top 20), defScope (top 20), [], []⟩) rfl
  have g_l_near : mg "_law_near" = some (.ref (He.ga K "_law_near")) := He.glo_ok X G (c.z.y.x.d.fact 8 (f := .glo "_law_near") rfl)
  have b_l_near : Binds K fd_l_near ["_law_source", "_law_place_here"] [] := D_l_near.bindsN (ps := ["_law_source", "_law_place_here"]) fun _ _ _ _ _ _ us hl => match us, hl with | [_, _], _ => rfl
  obtain ⟨fd_l_places, D_l_places⟩ := c.z.y.x.d.def_ 9 (d := ⟨("_law_places", none), "_law_places", "_law_places", defArgs (top 21), defBody (top 21), defScope (top 21), [], []⟩) rfl
  have g_l_places : mg "_law_places" = some (.ref (He.ga K "_law_places")) := He.glo_ok X G (c.z.y.x.d.fact 9 (f := .glo "_law_places") rfl)
  have b_l_places : Binds K fd_l_places ["_law_source", "_law_count"] [] := D_l_places.bindsN (ps := ["_law_source", "_law_count"]) fun _ _ _ _ _ _ us hl => match us, hl with | [_, _], _ => rfl
  obtain ⟨fd_l_argument, D_l_argument⟩ := c.z.y.x.d.def_ 10 (d := ⟨("_law_argument", none), "_law_argument", "_law_argument", defArgs (top 22), defBody (top 22), defScope (top 22), [], []⟩) rfl
  have g_l_argument : mg "_law_argument" = some (.ref (He.ga K "_law_argument")) := He.glo_ok X G (c.z.y.x.d.fact 10 (f := .glo "_law_argument") rfl)
  have b_l_argument : Binds K fd_l_argument ["_law_source", "_law_places_here", "_law_depth", "_law_room"] [] := D_l_argument.bindsN (ps := ["_law_source", "_law_places_here", "_law_depth", "_law_room"]) fun _ _ _ _ _ _ us hl => match us, hl with | [_, _, _, _], _ => rfl
  obtain ⟨fd_l_call, D_l_call⟩ := c.z.y.x.d.def_ 11 (d := ⟨("_law_call", none), "_law_call", "_law_call", defArgs (top 23), defBody (top 23), defScope (top 23), [], []⟩) rfl
  have g_l_call : mg "_law_call" = some (.ref (He.ga K "_law_call")) := He.glo_ok X G (c.z.y.x.d.fact 11 (f := .glo "_law_call") rfl)
  have b_l_call : Binds K fd_l_call ["_law_source", "_law_places_here", "_law_depth", "_law_room"] [] := D_l_call.bindsN (ps := ["_law_source", "_law_places_here", "_law_depth", "_law_room"]) fun _ _ _ _ _ _ us hl => match us, hl with | [_, _, _, _], _ => rfl
  obtain ⟨fd_l_simple, D_l_simple⟩ := c.z.y.x.d.def_ 12 (d := ⟨("_law_simple", none), "_law_simple", "_law_simple", defArgs (top 24), defBody (top 24), defScope (top 24), [], []⟩) rfl
  have g_l_simple : mg "_law_simple" = some (.ref (He.ga K "_law_simple")) := He.glo_ok X G (c.z.y.x.d.fact 12 (f := .glo "_law_simple") rfl)
  have b_l_simple : Binds K fd_l_simple ["_law_source", "_law_places_here", "_law_room"] [] := D_l_simple.bindsN (ps := ["_law_source", "_law_places_here", "_law_room"]) fun _ _ _ _ _ _ us hl => match us, hl with | [_, _, _], _ => rfl
  obtain ⟨fd_l_block, D_l_block⟩ := c.z.y.x.d.def_ 13 (d := ⟨("_law_block", none), "_law_block", "_law_block", defArgs (top 25), defBody (top 25), defScope (top 25), [], []⟩) rfl
  have g_l_block : mg "_law_block" = some (.ref (He.ga K "_law_block")) := He.glo_ok X G (c.z.y.x.d.fact 13 (f := .glo "_law_block") rfl)
  have b_l_block : Binds K fd_l_block ["_law_source", "_law_places_here", "_law_most", "_law_depth", "_law_room"] [] := D_l_block.bindsN (ps := ["_law_source", "_law_places_here", "_law_most", "_law_depth", "_law_room"]) fun _ _ _ _ _ _ us hl => match us, hl with | [_, _, _, _, _], _ => rfl
  obtain ⟨fd_l_wrapped, D_l_wrapped⟩ := c.z.y.x.d.def_ 14 (d := ⟨("_law_wrapped", none), "_law_wrapped", "_law_wrapped", defArgs (top 30), defBody (top 30), defScope (top 30), [], []⟩) rfl
  have g_l_wrapped : mg "_law_wrapped" = some (.ref (He.ga K "_law_wrapped")) := He.glo_ok X G (c.z.y.x.d.fact 14 (f := .glo "_law_wrapped") rfl)
  have b_l_wrapped : Binds K fd_l_wrapped ["_law_source", "_law_places_here", "_law_deep", "_law_room"] [] := D_l_wrapped.bindsN (ps := ["_law_source", "_law_places_here", "_law_deep", "_law_room"]) fun _ _ _ _ _ _ us hl => match us, hl with | [_, _, _, _], _ => rfl
  obtain ⟨fd_l_branched, D_l_branched⟩ := c.z.y.x.d.def_ 15 (d := ⟨("_law_branched", none), "_law_branched", "_law_branched", defArgs (top 31), defBody (top 31), defScope (top 31), [], []⟩) rfl
  have g_l_branched : mg "_law_branched" = some (.ref (He.ga K "_law_branched")) := He.glo_ok X G (c.z.y.x.d.fact 15 (f := .glo "_law_branched") rfl)
  have b_l_branched : Binds K fd_l_branched ["_law_source", "_law_places_here", "_law_most"] [] := D_l_branched.bindsN (ps := ["_law_source", "_law_places_here", "_law_most"]) fun _ _ _ _ _ _ us hl => match us, hl with | [_, _, _], _ => rfl
  obtain ⟨fd_l_way, D_l_way⟩ := c.z.y.x.d.def_ 16 (d := ⟨("_law_way", none), "_law_way", "_law_way", defArgs (top 26), defBody (top 26), defScope (top 26), [], []⟩) rfl
  have g_l_way : mg "_law_way" = some (.ref (He.ga K "_law_way")) := He.glo_ok X G (c.z.y.x.d.fact 16 (f := .glo "_law_way") rfl)
  have b_l_way : Binds K fd_l_way ["_law_source", "_law_most"] [] := D_l_way.bindsN (ps := ["_law_source", "_law_most"]) fun _ _ _ _ _ _ us hl => match us, hl with | [_, _], _ => rfl
  obtain ⟨fd_l_long_way, D_l_long_way⟩ := c.z.y.x.d.def_ 17 (d := ⟨("_law_long_way", none), "_law_long_way", "_law_long_way", defArgs (top 32), defBody (top 32), defScope (top 32), [], []⟩) rfl
  have g_l_long_way : mg "_law_long_way" = some (.ref (He.ga K "_law_long_way")) := He.glo_ok X G (c.z.y.x.d.fact 17 (f := .glo "_law_long_way") rfl)
  have b_l_long_way : Binds K fd_l_long_way ["_law_source"] [] := D_l_long_way.bindsN (ps := ["_law_source"]) fun _ _ _ _ _ _ us hl => match us, hl with | [_], _ => rfl
  obtain ⟨fd_l_copy_call, D_l_copy_call⟩ := c.z.y.x.d.def_ 18 (d := ⟨("_law_copy_call", none), "_law_copy_call", "_law_copy_call", defArgs (top 27), defBody (top 27), defScope (top 27), [], []⟩) rfl
  have g_l_copy_call : mg "_law_copy_call" = some (.ref (He.ga K "_law_copy_call")) := He.glo_ok X G (c.z.y.x.d.fact 18 (f := .glo "_law_copy_call") rfl)
  have b_l_copy_call : Binds K fd_l_copy_call ["_law_call_here"] [] := D_l_copy_call.bindsN (ps := ["_law_call_here"]) fun _ _ _ _ _ _ us hl => match us, hl with | [_], _ => rfl
  obtain ⟨fd_l_copy, D_l_copy⟩ := c.z.y.x.d.def_ 19 (d := ⟨("_law_copy", none), "_law_copy", "_law_copy", defArgs (top 28), defBody (top 28), defScope (top 28), [], []⟩) rfl
  have g_l_copy : mg "_law_copy" = some (.ref (He.ga K "_law_copy")) := He.glo_ok X G (c.z.y.x.d.fact 19 (f := .glo "_law_copy") rfl)
  have b_l_copy : Binds K fd_l_copy ["_law_block_here"] [] := D_l_copy.bindsN (ps := ["_law_block_here"]) fun _ _ _ _ _ _ us hl => match us, hl with | [_], _ => rfl
  obtain ⟨fd_Walker_init, D_Walker_init⟩ := c.z.y.x.d.def_ 20 (d := ⟨("Walker", some "__init__"), "__init__", "Walker.__init__", defArgs (mth 6 0), defBody (mth 6 0), defScope (mth 6 0), [], []⟩) rfl
  have M_Walker_init := He.meth_ok (c.z.y.x.d.fact 20 (f := .meth "Walker" "__init__") rfl)
  have b_Walker_init : Binds K fd_Walker_init ["self", "way"] [] := D_Walker_init.bindsN (ps := ["self", "way"]) fun _ _ _ _ _ _ us hl => match us, hl with | [_, _], _ => rfl
  obtain ⟨fd_Walker_choice, D_Walker_choice⟩ := c.z.y.x.d.def_ 21 (d := ⟨("Walker", some "choice"), "choice", "Walker.choice", defArgs (mth 6 1), defBody (mth 6 1), defScope (mth 6 1), [], []⟩) rfl
  have M_Walker_choice := He.meth_ok (c.z.y.x.d.fact 21 (f := .meth "Walker" "choice") rfl)
  have b_Walker_choice : Binds K fd_Walker_choice ["self"] [] := D_Walker_choice.bindsN (ps := ["self"]) fun _ _ _ _ _ _ us hl => match us, hl with | [_], _ => rfl
  obtain ⟨fd_copied_argument, D_copied_argument⟩ := c.z.y.x.d.def_ 22 (d := ⟨("copied_argument", none), "copied_argument", "copied_argument", defArgs (top 1), defBody (top 1), defScope (top 1), [], []⟩) rfl
  have g_copied_argument : mg "copied_argument" = some (.ref (He.ga K "copied_argument")) := He.glo_ok X G (c.z.y.x.d.fact 22 (f := .glo "copied_argument") rfl)
  have b_copied_argument : Binds K fd_copied_argument ["argument"] [] := D_copied_argument.bindsN (ps := ["argument"]) fun _ _ _ _ _ _ us hl => match us, hl with | [_], _ => rfl
  obtain ⟨fd_copied_call, D_copied_call⟩ := c.z.y.x.d.def_ 23 (d := ⟨("copied_call", none), "copied_call", "copied_call", defArgs (top 2), defBody (top 2), defScope (top 2), [], []⟩) rfl
  have g_copied_call : mg "copied_call" = some (.ref (He.ga K "copied_call")) := He.glo_ok X G (c.z.y.x.d.fact 23 (f := .glo "copied_call") rfl)
  have b_copied_call : Binds K fd_copied_call ["call"] [] := D_copied_call.bindsN (ps := ["call"]) fun _ _ _ _ _ _ us hl => match us, hl with | [_], _ => rfl
  obtain ⟨fd_copied_block, D_copied_block⟩ := c.z.y.x.d.def_ 24 (d := ⟨("copied_block", none), "copied_block", "copied_block", defArgs (top 4), defBody (top 4), defScope (top 4), [], []⟩) rfl
  have g_copied_block : mg "copied_block" = some (.ref (He.ga K "copied_block")) := He.glo_ok X G (c.z.y.x.d.fact 24 (f := .glo "copied_block") rfl)
  have b_copied_block : Binds K fd_copied_block ["block"] [] := D_copied_block.bindsN (ps := ["block"]) fun _ _ _ _ _ _ us hl => match us, hl with | [_], _ => rfl
  obtain ⟨fd_copied_statement, D_copied_statement⟩ := c.z.y.x.d.def_ 25 (d := ⟨("copied_statement", none), "copied_statement", "copied_statement", defArgs (top 3), defBody (top 3), defScope (top 3), [], []⟩) rfl
  have g_copied_statement : mg "copied_statement" = some (.ref (He.ga K "copied_statement")) := He.glo_ok X G (c.z.y.x.d.fact 25 (f := .glo "copied_statement") rfl)
  have b_copied_statement : Binds K fd_copied_statement ["statement"] [] := D_copied_statement.bindsN (ps := ["statement"]) fun _ _ _ _ _ _ us hl => match us, hl with | [_], _ => rfl
  obtain ⟨fd_Walker_block, D_Walker_block⟩ := c.z.y.x.d.def_ 26 (d := ⟨("Walker", some "block"), "block", "Walker.block", defArgs (mth 6 2), defBody (mth 6 2), defScope (mth 6 2), [], []⟩) rfl
  have M_Walker_block := He.meth_ok (c.z.y.x.d.fact 26 (f := .meth "Walker" "block") rfl)
  have b_Walker_block : Binds K fd_Walker_block ["self", "block"] [] := D_Walker_block.bindsN (ps := ["self", "block"]) fun _ _ _ _ _ _ us hl => match us, hl with | [_, _], _ => rfl
  obtain ⟨fd_walked_along, D_walked_along⟩ := c.z.y.x.d.def_ 27 (d := ⟨("walked_along", none), "walked_along", "walked_along", defArgs (top 7), defBody (top 7), defScope (top 7), [], []⟩) rfl
  have g_walked_along : mg "walked_along" = some (.ref (He.ga K "walked_along")) := He.glo_ok X G (c.z.y.x.d.fact 27 (f := .glo "walked_along") rfl)
  have b_walked_along : Binds K fd_walked_along ["program", "way"] [] := D_walked_along.bindsN (ps := ["program", "way"]) fun _ _ _ _ _ _ us hl => match us, hl with | [_, _], _ => rfl
  obtain ⟨fd_straight, D_straight⟩ := c.z.y.x.d.def_ 28 (d := ⟨("straight", none), "straight", "straight", defArgs (top 8), defBody (top 8), defScope (top 8), [], []⟩) rfl
  have g_straight : mg "straight" = some (.ref (He.ga K "straight")) := He.glo_ok X G (c.z.y.x.d.fact 28 (f := .glo "straight") rfl)
  have b_straight : Binds K fd_straight ["program", "way"] [] := D_straight.bindsN (ps := ["program", "way"]) fun _ _ _ _ _ _ us hl => match us, hl with | [_, _], _ => rfl
  obtain ⟨fd_l_same_row, D_l_same_row⟩ := c.z.y.x.d.def_ 29 (d := ⟨("_law_same_row", none), "_law_same_row", "_law_same_row", defArgs (top 13), defBody (top 13), defScope (top 13), [], []⟩) rfl
  have g_l_same_row : mg "_law_same_row" = some (.ref (He.ga K "_law_same_row")) := He.glo_ok X G (c.z.y.x.d.fact 29 (f := .glo "_law_same_row") rfl)
  have b_l_same_row : Binds K fd_l_same_row ["_law_actual", "_law_expected"] [] := D_l_same_row.bindsN (ps := ["_law_actual", "_law_expected"]) fun _ _ _ _ _ _ us hl => match us, hl with | [_, _], _ => rfl
  obtain ⟨fd_l_same, D_l_same⟩ := c.z.y.x.d.def_ 30 (d := ⟨("_law_same", none), "_law_same", "_law_same", defArgs (top 14), defBody (top 14), defScope (top 14), [], []⟩) rfl
  have g_l_same : mg "_law_same" = some (.ref (He.ga K "_law_same")) := He.glo_ok X G (c.z.y.x.d.fact 30 (f := .glo "_law_same") rfl)
  have b_l_same : Binds K fd_l_same ["_law_actual", "_law_expected"] [] := D_l_same.bindsN (ps := ["_law_actual", "_law_expected"]) fun _ _ _ _ _ _ us hl => match us, hl with | [_, _], _ => rfl
  obtain ⟨fd_l_follow, D_l_follow⟩ := c.z.y.x.d.def_ 31 (d := ⟨("_law_follow", none), "_law_follow", "_law_follow", defArgs (top 29), defBody (top 29), defScope (top 29), [], []⟩) rfl
  have g_l_follow : mg "_law_follow" = some (.ref (He.ga K "_law_follow")) := He.glo_ok X G (c.z.y.x.d.fact 31 (f := .glo "_law_follow") rfl)
  have b_l_follow : Binds K fd_l_follow ["_law_block_here", "_law_way_here", "_law_taken", "_law_passed"] [] := D_l_follow.bindsN (ps := ["_law_block_here", "_law_way_here", "_law_taken", "_law_passed"]) fun _ _ _ _ _ _ us hl => match us, hl with | [_, _, _, _], _ => rfl
  obtain ⟨fd_l_due, D_l_due⟩ := c.z.y.x.d.def_ 32 (d := ⟨("_law_due", none), "_law_due", "_law_due", defArgs (top 34), defBody (top 34), defScope (top 34), [], []⟩) rfl
  have g_l_due : mg "_law_due" = some (.ref (He.ga K "_law_due")) := He.glo_ok X G (c.z.y.x.d.fact 32 (f := .glo "_law_due") rfl)
  have b_l_due : Binds K fd_l_due ["_law_program", "_law_way_here"] [] := D_l_due.bindsN (ps := ["_law_program", "_law_way_here"]) fun _ _ _ _ _ _ us hl => match us, hl with | [_, _], _ => rfl
  obtain ⟨fd_l_change_call, D_l_change_call⟩ := c.z.y.x.d.def_ 33 (d := ⟨("_law_change_call", none), "_law_change_call", "_law_change_call", defArgs (top 33), defBody (top 33), defScope (top 33), [], []⟩) rfl
  have g_l_change_call : mg "_law_change_call" = some (.ref (He.ga K "_law_change_call")) := He.glo_ok X G (c.z.y.x.d.fact 33 (f := .glo "_law_change_call") rfl)
  have b_l_change_call : Binds K fd_l_change_call ["_law_call_here"] [] := D_l_change_call.bindsN (ps := ["_law_call_here"]) fun _ _ _ _ _ _ us hl => match us, hl with | [_], _ => rfl
  obtain ⟨fd_law, D_law⟩ := c.z.y.x.d.def_ 34 (d := ⟨("law", none), "law", "law", defArgs (top 35), defBody (top 35), defScope (top 35), [], []⟩) rfl
  have e := hfa.symm.trans (He.glo_ok X G (c.z.y.x.d.fact 34 (f := .glo "law") rfl))
  cases e
  refine ⟨fd_law, fun s v => FunD.bindsA (ps := ["_law_script"]) D_law (fun _ _ _ _ _ _ us hl => match us, hl with | [_], _ => rfl) s [v] rfl, fun base _ _ => ?_⟩
  have F_l_begin : FnM P w K mg base 1 "_law_begin" sp_l_begin := FnM.of (ok_l_begin D_l_begin B ) g_l_begin D_l_begin.kp b_l_begin
  have F_l_draw : FnM P w K mg base 1 "_law_draw" sp_l_draw := FnM.of (ok_l_draw D_l_draw B ) g_l_draw D_l_draw.kp b_l_draw
  have F_l_pick : FnM P w K mg base 2 "_law_pick" sp_l_pick := FnM.of (ok_l_pick D_l_pick B F_l_draw) g_l_pick D_l_pick.kp b_l_pick
  have F_l_name : FnM P w K mg base 3 "_law_name" sp_l_name := FnM.of (ok_l_name D_l_name B F_l_draw F_l_pick) g_l_name D_l_name.kp b_l_name
  have F_l_step : FnM P w K mg base 4 "_law_step" sp_l_step := FnM.of (ok_l_step D_l_step B F_l_pick F_l_name) g_l_step D_l_step.kp b_l_step
  have F_l_tail : FnM P w K mg base 5 "_law_tail" sp_l_tail := FnM.of (ok_l_tail D_l_tail B F_l_draw F_l_step) g_l_tail D_l_tail.kp b_l_tail
  have F_l_place : FnM P w K mg base 6 "_law_place" sp_l_place := FnM.of (ok_l_place D_l_place B F_l_draw F_l_name F_l_tail) g_l_place D_l_place.kp b_l_place
  have F_l_parts : FnM P w K mg base 1 "_law_parts" sp_l_parts := FnM.of (ok_l_parts D_l_parts B ) g_l_parts D_l_parts.kp b_l_parts
  have F_l_near : FnM P w K mg base 7 "_law_near" sp_l_near := FnM.of (ok_l_near D_l_near B F_l_parts F_l_draw F_l_step F_l_pick F_l_place) g_l_near D_l_near.kp b_l_near
  have F_l_places : FnM P w K mg base 8 "_law_places" sp_l_places := FnM.of (ok_l_places D_l_places B F_l_place F_l_near F_l_pick) g_l_places D_l_places.kp b_l_places
  have F_l_argument_all : ∀ n, FnM P w K mg base (2 * n + 30) "_law_argument" (sp_l_argument n) := by
    intro n
    induction n with
    | zero => exact (FnM.of (ok_l_argument (n := 0) (k := 30 - 1) D_l_argument B (F_l_draw.mono (by omega)) (F_l_pick.mono (by omega)) (FnM.never no_dcall0 g_l_call D_l_call.kp b_l_call)) g_l_argument D_l_argument.kp b_l_argument).mono (by omega)
    | succ n ih => exact (FnM.of (ok_l_argument (n := n + 1) (k := 2 * n + 30 + 1) D_l_argument B (F_l_draw.mono (by omega)) (F_l_pick.mono (by omega)) ((FnM.of (ok_l_call (n := n) (k := 2 * n + 30) D_l_call B (F_l_pick.mono (by omega)) (F_l_draw.mono (by omega)) ih) g_l_call D_l_call.kp b_l_call).mono (by omega))) g_l_argument D_l_argument.kp b_l_argument).mono (by omega)
  have F_l_argument : FnM P w K mg base 60 "_law_argument" (sp_l_argument 3) := (F_l_argument_all 3).mono (by omega)
  have F_l_call : FnM P w K mg base 60 "_law_call" (sp_l_call 4) := (FnM.of (ok_l_call (n := 3) (k := 36) D_l_call B (F_l_pick.mono (by omega)) (F_l_draw.mono (by omega)) (F_l_argument_all 3)) g_l_call D_l_call.kp b_l_call).mono (by omega)
  have F_l_simple : FnM P w K mg base 61 "_law_simple" sp_l_simple := FnM.of (ok_l_simple D_l_simple B F_l_draw F_l_pick F_l_call) g_l_simple D_l_simple.kp b_l_simple
  have F_l_block_all : ∀ n, FnM P w K mg base (n + 66) "_law_block" (sp_l_block n) := by
    intro n
    induction n with
    | zero => exact FnM.never no_dblock0 g_l_block D_l_block.kp b_l_block
    | succ n ih => exact (FnM.of (ok_l_block (n := n) (k := n + 66) D_l_block B (F_l_draw.mono (by omega)) ih (F_l_simple.mono (by omega))) g_l_block D_l_block.kp b_l_block).mono (by omega)
  have F_l_block : FnM P w K mg base 90 "_law_block" (sp_l_block 4) := (F_l_block_all 4).mono (by omega)
  have F_l_wrapped : FnM P w K mg base 91 "_law_wrapped" sp_l_wrapped := FnM.of (ok_l_wrapped D_l_wrapped B F_l_block F_l_draw) g_l_wrapped D_l_wrapped.kp b_l_wrapped
  have F_l_branched : FnM P w K mg base 92 "_law_branched" sp_l_branched := FnM.of (ok_l_branched D_l_branched B F_l_block F_l_draw F_l_wrapped) g_l_branched D_l_branched.kp b_l_branched
  have F_l_way : FnM P w K mg base 2 "_law_way" sp_l_way := FnM.of (ok_l_way D_l_way B F_l_draw) g_l_way D_l_way.kp b_l_way
  have F_l_long_way : FnM P w K mg base 3 "_law_long_way" sp_l_long_way := FnM.of (ok_l_long_way D_l_long_way B F_l_draw F_l_way) g_l_long_way D_l_long_way.kp b_l_long_way
  have F_l_copy_call_all : ∀ n, FnM P w K mg base (n + 30) "_law_copy_call" (sp_l_copy_call n) := by
    intro n
    induction n with
    | zero => exact FnM.never no_copy0 g_l_copy_call D_l_copy_call.kp b_l_copy_call
    | succ n ih => exact (FnM.of (ok_l_copy_call (n := n) (k := n + 30) D_l_copy_call B ih) g_l_copy_call D_l_copy_call.kp b_l_copy_call).mono (by omega)
  have F_l_copy_call : FnM P w K mg base 60 "_law_copy_call" (sp_l_copy_call 5) := (F_l_copy_call_all 5).mono (by omega)
  have F_l_copy_all : ∀ n, FnM P w K mg base (n + 65) "_law_copy" (sp_l_copy n) := by
    intro n
    induction n with
    | zero => exact FnM.never no_lcopy0 g_l_copy D_l_copy.kp b_l_copy
    | succ n ih => exact (FnM.of (ok_l_copy (n := n) (k := n + 65) D_l_copy B (F_l_copy_call.mono (by omega)) ih) g_l_copy D_l_copy.kp b_l_copy).mono (by omega)
  have F_l_copy : FnM P w K mg base 90 "_law_copy" (sp_l_copy 4) := (F_l_copy_all 4).mono (by omega)
  have F_Walker_init : FnC P w K mg base 1 "Walker" "__init__" sp_Walker_init := FnC.of (ok_Walker_init D_Walker_init B ) M_Walker_init b_Walker_init
  have F_Walker_choice : FnC P w K mg base 1 "Walker" "choice" sp_Walker_choice := FnC.of (ok_Walker_choice D_Walker_choice B ) M_Walker_choice b_Walker_choice
  have F_copied_argument_all : ∀ n, FnM P w K mg base (2 * n + 30) "copied_argument" (sp_copied_argument n) := by
    intro n
    induction n with
    | zero => exact (FnM.of (ok_copied_argument (n := 0) (k := 30 - 1) D_copied_argument B (FnM.never no_cpcall0 g_copied_call D_copied_call.kp b_copied_call)) g_copied_argument D_copied_argument.kp b_copied_argument).mono (by omega)
    | succ n ih => exact (FnM.of (ok_copied_argument (n := n + 1) (k := 2 * n + 30 + 1) D_copied_argument B ((FnM.of (ok_copied_call (n := n) (k := 2 * n + 30) D_copied_call B ih) g_copied_call D_copied_call.kp b_copied_call).mono (by omega))) g_copied_argument D_copied_argument.kp b_copied_argument).mono (by omega)
  have F_copied_argument : FnM P w K mg base 60 "copied_argument" (sp_copied_argument 4) := (F_copied_argument_all 4).mono (by omega)
  have F_copied_call : FnM P w K mg base 60 "copied_call" (sp_copied_call 5) := (FnM.of (ok_copied_call (n := 4) (k := 38) D_copied_call B (F_copied_argument_all 4)) g_copied_call D_copied_call.kp b_copied_call).mono (by omega)
  have F_copied_statement_all : ∀ n, FnM P w K mg base (2 * n + 65) "copied_statement" (sp_copied_statement n) := by
    intro n
    induction n with
    | zero => exact (FnM.of (ok_copied_statement (n := 0) (k := 65 - 1) D_copied_statement B (F_copied_call.mono (by omega)) (FnM.never no_cpblock0 g_copied_block D_copied_block.kp b_copied_block)) g_copied_statement D_copied_statement.kp b_copied_statement).mono (by omega)
    | succ n ih => exact (FnM.of (ok_copied_statement (n := n + 1) (k := 2 * n + 65 + 1) D_copied_statement B (F_copied_call.mono (by omega)) ((FnM.of (ok_copied_block (n := n) (k := 2 * n + 65) D_copied_block B ih) g_copied_block D_copied_block.kp b_copied_block).mono (by omega))) g_copied_statement D_copied_statement.kp b_copied_statement).mono (by omega)
  have F_copied_statement : FnM P w K mg base 90 "copied_statement" (sp_copied_statement 3) := (F_copied_statement_all 3).mono (by omega)
  have F_copied_block : FnM P w K mg base 90 "copied_block" (sp_copied_block 4) := (FnM.of (ok_copied_block (n := 3) (k := 71) D_copied_block B (F_copied_statement_all 3)) g_copied_block D_copied_block.kp b_copied_block).mono (by omega)
  have F_Walker_block_all : ∀ n, FnC P w K mg base (n + 95) "Walker" "block" (sp_Walker_block n) := by
    intro n
    induction n with
    | zero => exact FnC.never no_wkblock0 M_Walker_block
    | succ n ih => exact (FnC.of (ok_Walker_block (n := n) (k := n + 95) D_Walker_block B ih (F_Walker_choice.mono (by omega)) (F_copied_statement.mono (by omega))) M_Walker_block b_Walker_block).mono (by omega)
  have F_Walker_block : FnC P w K mg base 120 "Walker" "block" (sp_Walker_block 4) := (F_Walker_block_all 4).mono (by omega)
  have F_walked_along : FnM P w K mg base 121 "walked_along" sp_walked_along := FnM.of (ok_walked_along D_walked_along B F_Walker_init F_Walker_block) g_walked_along D_walked_along.kp b_walked_along
  have F_straight : FnM P w K mg base 122 "straight" sp_straight := FnM.of (ok_straight D_straight B F_walked_along) g_straight D_straight.kp b_straight
  have F_l_same_all : ∀ n, FnM P w K mg base (2 * n + 1) "_law_same" (sp_l_same n) := by
    intro n
    induction n with
    | zero => exact FnM.of (ok_l_same (n := 0) (k := 0) D_l_same B (FnM.never no_row0 g_l_same_row D_l_same_row.kp b_l_same_row)) g_l_same D_l_same.kp b_l_same
    | succ n ih => exact FnM.of (ok_l_same (n := n + 1) (k := 2 * n + 2) D_l_same B (FnM.of (ok_l_same_row (n := n) (k := 2 * n + 1) D_l_same_row B ih) g_l_same_row D_l_same_row.kp b_l_same_row)) g_l_same D_l_same.kp b_l_same
  have F_l_same : FnM P w K mg base 41 "_law_same" (sp_l_same 20) := F_l_same_all 20
  have F_l_follow_all : ∀ n, FnM P w K mg base (n + 30) "_law_follow" (sp_l_follow n) := by
    intro n
    induction n with
    | zero => exact FnM.never no_follow0 g_l_follow D_l_follow.kp b_l_follow
    | succ n ih => exact (FnM.of (ok_l_follow (n := n) (k := n + 30) D_l_follow B ih) g_l_follow D_l_follow.kp b_l_follow).mono (by omega)
  have F_l_follow : FnM P w K mg base 120 "_law_follow" (sp_l_follow 4) := (F_l_follow_all 4).mono (by omega)
  have F_l_due : FnM P w K mg base 121 "_law_due" sp_l_due := FnM.of (ok_l_due D_l_due B F_l_follow) g_l_due D_l_due.kp b_l_due
  have F_l_change_call_all : ∀ n, FnM P w K mg base (n + 30) "_law_change_call" (sp_l_change_call n) := by
    intro n
    induction n with
    | zero => exact FnM.never no_chcall0 g_l_change_call D_l_change_call.kp b_l_change_call
    | succ n ih => exact (FnM.of (ok_l_change_call (n := n) (k := n + 30) D_l_change_call B ih) g_l_change_call D_l_change_call.kp b_l_change_call).mono (by omega)
  have F_l_change_call : FnM P w K mg base 60 "_law_change_call" (sp_l_change_call 5) := (F_l_change_call_all 5).mono (by omega)
  exact ok_law D_law B F_l_begin F_l_places F_l_branched F_l_long_way F_l_copy F_straight F_l_same F_l_due F_l_change_call F_l_simple F_l_draw
end Lw
open PySem PySem.W PySem.Calls PyProof.Rows
set_option maxRecDepth 100000 in
set_option maxHeartbeats 0 in
theorem PySem.Challenge.cw_lentahead_k30_straight_programs_holds : PySem.Challenge.rw_lentahead_k30_straight_programs.Holds := by
  w_on; o_law
  refine HandSHeadRun.head_any (r := OpenLaw.row PySem.Challenge.rw_lentahead_k30_straight_programs) (q := view (OpenLaw.row PySem.Challenge.rw_lentahead_k30_straight_programs).prog [35]) (H := Lw.hk) (ob := Lw.ob) (M := 30000) (loose := Lw.names) (d := HandSHeadRun.topDef (OpenLaw.row PySem.Challenge.rw_lentahead_k30_straight_programs).prog 35) (kwd := []) Lw.ob_eq
    (by kernel_rfl) (fun s => by kernel_rfl) Lw.run (by kernel_rfl) (by kernel_rfl) (by kernel_rfl) (by rfl) (by first | assumption | decide +kernel) (by decide +kernel) ⟨rfl, rfl, rfl, rfl, rfl, by decide +kernel⟩ ?hw ?hc
  case hw => w_witness2
  case hc =>
    refine DL.law_walk (l := PySem.Challenge.rw_lentahead_k30_straight_programs) (sp := DL.sp_law) (k := 123) (x := "_law_script") rfl (by kernel_rfl) ⟨rfl, by decide, by decide⟩ (fun ns hl => by first | exact ⟨ns, rfl, fun _ => rfl⟩ | exact ⟨ns, rfl, hl, fun _ => rfl⟩) ?F
    intro w mg fa h Y G hmg0
    obtain ⟨K, KX, c⟩ := Y
    have hmg : mg ("law" : PySem.Str) = some (.ref fa) := by
      have e : (HandSHeadRun.topDef (OpenLaw.row PySem.Challenge.rw_lentahead_k30_straight_programs).prog 35).name = ("law" : PySem.Str) := by kernel_rfl
      rw [← e]
      exact hmg0
    obtain ⟨fd, hb, hF⟩ := Lw.facts (P := (PySem.Challenge.rw_lentahead_k30_straight_programs).prog) (w := w) KX G hmg c
    exact ⟨K, fd, KX, hb, hF⟩
