import PyProof.Rows.All
import Wide.All
import OpenK.AllK
import Wide.FinOn
import KE.KStateDown
import Lean
import HandS.ForMost
import HandS.ForExc
import HandS.Defaults
import HandS.Steps
import HandS.IsInst
import HandS.Head0
import HandS.Head1
import HandS.Head2
import HandS.HeadEnd
import HandS.HeadHook1
import HandS.HeadHook2
import HandS.HeadHook3
import HandS.Small
import HandS.FStr
import PySem.Challenge.RW_lentahead_k01_whole_relations_turn_and_c
set_option Elab.async false
set_option linter.all false
set_option maxRecDepth 100000
set_option maxHeartbeats 4000000
/-! A layer of values over the abstract heap: data as trees, what may change at its address (Mu). -/
namespace DL
open PySem L2

abbrev Tx := List Nat
def sx (t : Tx) : Str := ⟨t.toArray⟩
def T (s : Str) : Tx := s.cps.toList
theorem sx_T (s : Str) : sx (T s) = s := by cases s; simp [sx, T]
theorem T_sx (t : Tx) : T (sx t) = t := by simp [sx, T]
theorem sx_inj {a b : Tx} (h : sx a = sx b) : a = b := by rw [← T_sx a, ← T_sx b, h]
theorem sx_len (t : Tx) : (sx t).length = t.length := by simp [sx, PySem.Str.length]
theorem sx_add (a b : Tx) : sx a ++ sx b = sx (a ++ b) := by
  show Str.mk _ = Str.mk _
  simp [sx]

/-- data -/
inductive D where
  | non | bl (b : Bool) | int (i : Int) | str (x : Tx) | ref (a : Addr) | ty (n : String)
  | lst (ds : List D) | tup (ds : List D) | scr (ns : List Int)

/-- a key: an int or a text -/
abbrev DKey := Sum Int Tx
def kO : DKey → Key
  | .inl i => .inl i
  | .inr x => .inr (sx x)
theorem kO_inj {a b : DKey} (h : kO a = kO b) : a = b := by
  cases a <;> cases b <;> simp only [kO, Sum.inl.injEq, Sum.inr.injEq, reduceCtorEq] at h
  · rw [h]
  · rw [sx_inj h]
def kD : DKey → D
  | .inl i => .int i
  | .inr x => .str x

/-- what may change -/
inductive MO where
  | lst (ds : List D)
  | dK (kvs : List (DKey × D))
  /-- a dict that is walked: read only -/
  | fK (kvs : List (DKey × D)) (u : HO)
  | ins (C : Addr) (fs : List (Str × D))
abbrev Mu := Addr → Option MO
/-- the pairs of a dict -/
def dOf : MO → Option (List (DKey × D))
  | .dK kvs => some kvs
  | .fK kvs _ => some kvs
  | _ => none
def put (M : Mu) (a : Addr) (o : MO) : Mu := fun b => if b = a then some o else M b
def del (M : Mu) (a : Addr) : Mu := fun b => if b = a then none else M b
theorem put_same {M : Mu} {a : Addr} {o : MO} : put M a o a = some o := if_pos rfl
theorem put_ne {M : Mu} {a b : Addr} {o : MO} (h : b ≠ a) : put M a o b = M b := if_neg h
theorem del_same {M : Mu} {a : Addr} : del M a a = none := if_pos rfl
theorem del_ne {M : Mu} {a b : Addr} (h : b ≠ a) : del M a b = M b := if_neg h
theorem put_put {M : Mu} {a : Addr} {o p : MO} : put (put M a o) a p = put M a p := by
  funext b
  by_cases e : b = a
  · rw [e, put_same, put_same]
  · rw [put_ne e, put_ne e, put_ne e]
theorem del_put {M : Mu} {a : Addr} {o : MO} : del (put M a o) a = del M a := by
  funext b
  by_cases e : b = a
  · rw [e, del_same, del_same]
  · rw [del_ne e, del_ne e, put_ne e]
theorem del_new {M : Mu} {a : Addr} (h : M a = none) : del M a = M := by
  funext b
  by_cases e : b = a
  · rw [e, del_same, h]
  · rw [del_ne e]
theorem del_put_new {M : Mu} {a : Addr} {o : MO} (h : M a = none) : del (put M a o) a = M := by rw [del_put, del_new h]
theorem put_eq {M : Mu} {a : Addr} {o : MO} (h : M a = some o) : put M a o = M := by
  funext b
  by_cases e : b = a
  · rw [e, put_same, h]
  · rw [put_ne e]

section
variable (K : PySem.W.Frag) (M : Mu) (H : Hp)
/-- a tuple of the written part -/
def WrT (a : Addr) (vs : List V) : Prop := ∃ (o : Obj) (its : Array Value) (n : Nat), K.lookup a = some o ∧ o.cls = .type "tuple" ∧ o.data = .seq its n ∧ its.size ≤ sizeLine ∧ Vals vs its.toList
def WrL (a : Addr) (vs : List V) : Prop := ∃ (o : Obj) (its : Array Value) (n : Nat), K.lookup a = some o ∧ o.cls = .type "list" ∧ o.dict = none ∧ o.data = .seq its n ∧ its.size ≤ sizeLine ∧ Vals vs its.toList
mutual
/-- the value v is the data d -/
def Rep : D → V → Prop
  | .non, v => v = .non
  | .bl b, v => v = .bl b
  | .int i, v => v = .int i
  | .str x, v => v = .str (sx x)
  | .ref a, v => v = .ref a
  | .ty n, v => v = .ty n
  | .scr ns, v => ∃ a, v = .ref a ∧ (((∃ o, H a = some (.frz o (.lst (ns.map V.int)))) ∧ M a = none) ∨ WrL K a (ns.map V.int))
  | .lst ds, v => ∃ a vs, v = .ref a ∧ H a = some (.lst vs) ∧ M a = none ∧ Reps ds vs
  | .tup ds, v => ∃ a vs, v = .ref a ∧ ((H a = some (.tup vs) ∧ M a = none) ∨ WrT K a vs) ∧ Reps ds vs
def Reps : List D → List V → Prop
  | [], vs => vs = []
  | d :: ds, vs => ∃ v r, vs = v :: r ∧ Rep d v ∧ Reps ds r
end
def RepO : MO → HO → Prop
  | .lst ds, o => ∃ vs, o = .lst vs ∧ Reps K M H ds vs
  | .dK kvs, o => ∃ ks, o = .dK ks ∧ ks.map (·.1) = kvs.map (fun q => kO q.1) ∧ Reps K M H (kvs.map (·.2)) (ks.map (·.2))
  | .fK kvs u, o => o = u ∧ ∃ od ks, u = .frz od (.dK ks) ∧ ks.map (·.1) = kvs.map (fun q => kO q.1) ∧ Reps K M H (kvs.map (·.2)) (ks.map (·.2))
  | .ins C fs, o => ∃ dx gs, o = .ins C dx gs ∧ gs.map (·.1) = fs.map (·.1) ∧ Reps K M H (fs.map (·.2)) (gs.map (·.2))
def Cor : Prop := ∀ a mo, M a = some mo → ∃ o, H a = some o ∧ RepO K M H mo o
def RepS : List (Option D) → List (Option V) → Prop
  | [], vs => vs = []
  | none :: ds, vs => ∃ v r, vs = v :: r ∧ RepS ds r
  | some d :: ds, vs => ∃ v r, vs = some v :: r ∧ Rep K M H d v ∧ RepS ds r
end
/-- a step: what is not to change stays -/
def Stp (M : Mu) (H : Hp) (M' : Mu) (H' : Hp) : Prop := ∀ b o, H b = some o → M b = none → H' b = some o ∧ M' b = none
theorem Stp.refl (M : Mu) (H : Hp) : Stp M H M H := fun _ _ h m => ⟨h, m⟩
theorem Stp.trans {M M1 M2 : Mu} {H H1 H2 : Hp} (a : Stp M H M1 H1) (b : Stp M1 H1 M2 H2) : Stp M H M2 H2 := fun c o h m => b c o (a c o h m).1 (a c o h m).2

section
variable {K : PySem.W.Frag} {M M' : Mu} {H H' : Hp}
mutual
theorem Rep.stp (s : Stp M H M' H') : ∀ {d : D} {v : V}, Rep K M H d v → Rep K M' H' d v
  | .non, _, h => h
  | .bl _, _, h => h
  | .int _, _, h => h
  | .str _, _, h => h
  | .ref _, _, h => h
  | .ty _, _, h => h
  | .scr ns, v, h => by
    unfold Rep at h ⊢
    obtain ⟨a, e, h⟩ := h
    refine ⟨a, e, ?_⟩
    rcases h with ⟨⟨o, h1⟩, h2⟩ | h
    · obtain ⟨h1, h2⟩ := s a _ h1 h2
      exact .inl ⟨⟨o, h1⟩, h2⟩
    · exact .inr h
  | .lst ds, v, h => by
    unfold Rep at h ⊢
    obtain ⟨a, vs, e, h1, h2, h3⟩ := h
    obtain ⟨h1, h2⟩ := s a _ h1 h2
    exact ⟨a, vs, e, h1, h2, Reps.stp s h3⟩
  | .tup ds, v, h => by
    unfold Rep at h ⊢
    obtain ⟨a, vs, e, h1, h3⟩ := h
    refine ⟨a, vs, e, ?_, Reps.stp s h3⟩
    rcases h1 with ⟨h1, h2⟩ | h1
    · exact .inl (s a _ h1 h2)
    · exact .inr h1
theorem Reps.stp (s : Stp M H M' H') : ∀ {ds : List D} {vs : List V}, Reps K M H ds vs → Reps K M' H' ds vs
  | [], _, h => h
  | d :: ds, vs, h => by
    unfold Reps at h ⊢
    obtain ⟨v, r, e, h1, h2⟩ := h
    exact ⟨v, r, e, Rep.stp s h1, Reps.stp s h2⟩
end
theorem RepO.stp (s : Stp M H M' H') : ∀ {m : MO} {o : HO}, RepO K M H m o → RepO K M' H' m o
  | .lst _, _, ⟨vs, e, r⟩ => ⟨vs, e, r.stp s⟩
  | .dK _, _, ⟨ks, e, e2, r⟩ => ⟨ks, e, e2, r.stp s⟩
  | .fK _ _, _, ⟨e0, od, ks, e, e2, r⟩ => ⟨e0, od, ks, e, e2, r.stp s⟩
  | .ins _ _, _, ⟨dx, gs, e, e2, r⟩ => ⟨dx, gs, e, e2, r.stp s⟩
theorem RepS.stp (s : Stp M H M' H') : ∀ {ds : List (Option D)} {vs : List (Option V)}, RepS K M H ds vs → RepS K M' H' ds vs
  | [], _, h => h
  | none :: ds, _, ⟨v, r, e, h⟩ => ⟨v, r, e, RepS.stp s h⟩
  | some d :: ds, _, ⟨v, r, e, h1, h⟩ => ⟨v, r, e, h1.stp s, RepS.stp s h⟩

/-! lists of data -/
theorem Reps.nil : Reps K M H [] [] := rfl
theorem Reps.cons {d : D} {v : V} {ds : List D} {vs : List V} (h : Rep K M H d v) (t : Reps K M H ds vs) : Reps K M H (d :: ds) (v :: vs) := ⟨v, vs, rfl, h, t⟩
theorem Reps.length : ∀ {ds : List D} {vs : List V}, Reps K M H ds vs → vs.length = ds.length
  | [], _, h => by cases (show _ = [] from h); rfl
  | d :: ds, _, h => by
    obtain ⟨v, r, rfl, _, h⟩ := (show ∃ v r, _ = v :: r ∧ Rep K M H d v ∧ Reps K M H ds r from h)
    rw [List.length_cons, List.length_cons, h.length]
theorem Reps.uncons {d : D} {ds : List D} {vs : List V} (h : Reps K M H (d :: ds) vs) : ∃ v r, vs = v :: r ∧ Rep K M H d v ∧ Reps K M H ds r := h
theorem Reps.unnil {vs : List V} (h : Reps K M H [] vs) : vs = [] := h
theorem Reps.get : ∀ {ds : List D} {vs : List V} {i : Nat} {d : D}, Reps K M H ds vs → ds[i]? = some d → ∃ v, vs[i]? = some v ∧ Rep K M H d v
  | [], _, _, _, _, e => by simp at e
  | d :: ds, _, 0, x, h, e => by
    obtain ⟨v, r, rfl, h1, _⟩ := h.uncons
    simp at e; subst e
    exact ⟨v, rfl, h1⟩
  | d :: ds, _, i + 1, x, h, e => by
    obtain ⟨v, r, rfl, _, h⟩ := h.uncons
    obtain ⟨u, h1, h2⟩ := Reps.get (i := i) h (by simpa using e)
    exact ⟨u, by simpa using h1, h2⟩
theorem Reps.get_none {ds : List D} {vs : List V} {i : Nat} (h : Reps K M H ds vs) (e : ds[i]? = none) : vs[i]? = none := by
  rw [List.getElem?_eq_none_iff] at e ⊢
  rw [h.length]; exact e
theorem Reps.set {d : D} {v : V} (r : Rep K M H d v) : ∀ {ds : List D} {vs : List V} (i : Nat), Reps K M H ds vs → Reps K M H (ds.set i d) (vs.set i v)
  | [], _, _, h => by cases h.unnil; exact .nil
  | x :: ds, _, 0, h => by
    obtain ⟨u, s, rfl, h1, h2⟩ := h.uncons
    exact .cons r h2
  | x :: ds, _, i + 1, h => by
    obtain ⟨u, s, rfl, h1, h2⟩ := h.uncons
    exact .cons h1 (Reps.set r i h2)
theorem Reps.append : ∀ {ds es : List D} {vs us : List V}, Reps K M H ds vs → Reps K M H es us → Reps K M H (ds ++ es) (vs ++ us)
  | [], _, _, _, h, h2 => by cases h.unnil; exact h2
  | d :: ds, _, _, _, h, h2 => by
    obtain ⟨v, r, rfl, h1, h⟩ := h.uncons
    exact .cons h1 (h.append h2)
theorem Reps.snoc {ds : List D} {vs : List V} {d : D} {v : V} (h : Reps K M H ds vs) (h1 : Rep K M H d v) : Reps K M H (ds ++ [d]) (vs ++ [v]) := h.append (.cons h1 .nil)
theorem Reps.take : ∀ {ds : List D} {vs : List V} (n : Nat), Reps K M H ds vs → Reps K M H (ds.take n) (vs.take n)
  | _, _, 0, _ => by simp only [List.take_zero]; exact .nil
  | [], _, _ + 1, h => by cases h.unnil; exact .nil
  | d :: ds, _, n + 1, h => by
    obtain ⟨v, r, rfl, h1, h⟩ := h.uncons
    exact .cons h1 (Reps.take n h)
theorem Reps.drop : ∀ {ds : List D} {vs : List V} (n : Nat), Reps K M H ds vs → Reps K M H (ds.drop n) (vs.drop n)
  | _, _, 0, h => h
  | [], _, _ + 1, h => by cases h.unnil; exact .nil
  | d :: ds, _, n + 1, h => by
    obtain ⟨v, r, rfl, h1, h⟩ := h.uncons
    exact Reps.drop n h
theorem Reps.erase : ∀ {ds : List D} {vs : List V} (n : Nat), Reps K M H ds vs → Reps K M H (ds.eraseIdx n) (vs.eraseIdx n)
  | [], _, _, h => by cases h.unnil; exact .nil
  | d :: ds, _, 0, h => by
    obtain ⟨v, r, rfl, h1, h⟩ := h.uncons
    exact h
  | d :: ds, _, n + 1, h => by
    obtain ⟨v, r, rfl, h1, h⟩ := h.uncons
    exact .cons h1 (Reps.erase n h)
theorem Reps.dropLast {ds : List D} {vs : List V} (h : Reps K M H ds vs) : Reps K M H ds.dropLast vs.dropLast := by
  rw [List.dropLast_eq_take, List.dropLast_eq_take, h.length]
  exact h.take _
theorem Reps.reverse : ∀ {ds : List D} {vs : List V}, Reps K M H ds vs → Reps K M H ds.reverse vs.reverse
  | [], _, h => by cases h.unnil; exact .nil
  | d :: ds, _, h => by
    obtain ⟨v, r, rfl, h1, h⟩ := h.uncons
    rw [List.reverse_cons, List.reverse_cons]
    exact h.reverse.snoc h1
theorem Reps.strs : ∀ {xs : List Tx} {vs : List V}, Reps K M H (xs.map D.str) vs → vs = (xs.map sx).map V.str
  | [], _, h => h.unnil
  | x :: xs, _, h => by
    obtain ⟨v, r, rfl, h1, h⟩ := h.uncons
    rw [(show v = _ from h1), h.strs]; rfl
theorem Reps.of_strs : ∀ (xs : List Tx), Reps K M H (xs.map D.str) ((xs.map sx).map V.str)
  | [] => .nil
  | _ :: xs => .cons rfl (Reps.of_strs xs)
theorem Reps.ints : ∀ {xs : List Int} {vs : List V}, Reps K M H (xs.map D.int) vs → vs = xs.map V.int
  | [], _, h => h.unnil
  | x :: xs, _, h => by
    obtain ⟨v, r, rfl, h1, h⟩ := h.uncons
    rw [(show v = _ from h1), h.ints]; rfl
theorem Reps.of_ints : ∀ (xs : List Int), Reps K M H (xs.map D.int) (xs.map V.int)
  | [] => .nil
  | _ :: xs => .cons rfl (Reps.of_ints xs)
theorem Reps.bls : ∀ {xs : List Bool} {vs : List V}, Reps K M H (xs.map D.bl) vs → vs = xs.map V.bl
  | [], _, h => h.unnil
  | x :: xs, _, h => by
    obtain ⟨v, r, rfl, h1, h⟩ := h.uncons
    rw [(show v = _ from h1), h.bls]; rfl

/-! slots -/
theorem RepS.get : ∀ {ds : List (Option D)} {vs : List (Option V)} {i : Nat} {d : D}, RepS K M H ds vs → ds[i]? = some (some d) → ∃ v, vs[i]? = some (some v) ∧ Rep K M H d v
  | [], _, _, _, _, e => by simp at e
  | none :: ds, _, 0, _, _, e => by simp at e
  | some d :: ds, _, 0, _, ⟨v, r, e1, h1, _⟩, e => by
    subst e1; simp at e; subst e
    exact ⟨v, rfl, h1⟩
  | none :: ds, _, i + 1, d, ⟨v, r, e1, h⟩, e => by
    subst e1
    obtain ⟨u, h1, h2⟩ := RepS.get (i := i) (d := d) h (by simpa using e)
    exact ⟨u, by simpa using h1, h2⟩
  | some _ :: ds, _, i + 1, d, ⟨v, r, e1, _, h⟩, e => by
    subst e1
    obtain ⟨u, h1, h2⟩ := RepS.get (i := i) (d := d) h (by simpa using e)
    exact ⟨u, by simpa using h1, h2⟩
theorem RepS.set {d : D} {v : V} (rp : Rep K M H d v) : ∀ {ds : List (Option D)} {vs : List (Option V)} (i : Nat), RepS K M H ds vs → RepS K M H (ds.set i (some d)) (vs.set i (some v))
  | [], _, _, h => by cases (show _ = [] from h); exact rfl
  | none :: ds, _, 0, ⟨u, r, e, h⟩ => by subst e; exact ⟨v, r, rfl, rp, h⟩
  | some _ :: ds, _, 0, ⟨u, r, e, _, h⟩ => by subst e; exact ⟨v, r, rfl, rp, h⟩
  | none :: ds, _, i + 1, ⟨u, r, e, h⟩ => by subst e; exact ⟨u, r.set i (some v), rfl, RepS.set rp i h⟩
  | some x :: ds, _, i + 1, ⟨u, r, e, h1, h⟩ => by subst e; exact ⟨u, r.set i (some v), rfl, h1, RepS.set rp i h⟩
theorem RepS.none : ∀ {ds : List (Option D)} {vs : List (Option V)} (i : Nat) (x : Option V), RepS K M H ds vs → RepS K M H (ds.set i none) (vs.set i x)
  | [], _, _, _, h => by cases (show _ = [] from h); exact rfl
  | .none :: ds, _, 0, x, ⟨u, r, e, h⟩ => by subst e; exact ⟨x, r, rfl, h⟩
  | some _ :: ds, _, 0, x, ⟨u, r, e, _, h⟩ => by subst e; exact ⟨x, r, rfl, h⟩
  | .none :: ds, _, i + 1, x, ⟨u, r, e, h⟩ => by subst e; exact ⟨u, r.set i x, rfl, RepS.none i x h⟩
  | some y :: ds, _, i + 1, x, ⟨u, r, e, h1, h⟩ => by subst e; exact ⟨u, r.set i x, rfl, h1, RepS.none i x h⟩
theorem RepS.start : ∀ {ds : List D} {vs : List V} (n : Nat), Reps K M H ds vs → RepS K M H (ds.map some ++ List.replicate n Option.none) (vs.map some ++ List.replicate n Option.none)
  | [], _, n, h => by
    cases h.unnil
    show RepS K M H (List.replicate n Option.none) (List.replicate n Option.none)
    induction n with
    | zero => exact rfl
    | succ n ih => exact ⟨.none, _, rfl, ih⟩
  | d :: ds, _, n, h => by
    obtain ⟨v, r, rfl, h1, h⟩ := h.uncons
    exact ⟨v, _, rfl, h1, RepS.start n h⟩

/-! steps -/
theorem Cor.free (c : Cor K M H) {p : Addr} (h : H p = none) : M p = none := by
  cases e : M p with
  | none => rfl
  | some mo => obtain ⟨o, h2, _⟩ := c p mo e; rw [h] at h2; cases h2
theorem Stp.new {p : Addr} {o : HO} (h : H p = none) : Stp M H M (upd H p o) := fun b u e m => ⟨by rw [upd_ne (ne_of_none e h)]; exact e, m⟩
theorem Stp.newM {p : Addr} {o : HO} {mo : MO} (h : H p = none) : Stp M H (put M p mo) (upd H p o) := fun b u e m =>
  have n := ne_of_none e h
  ⟨by rw [upd_ne n]; exact e, by rw [put_ne n]; exact m⟩
theorem Stp.write {a : Addr} {o : HO} {mo mo' : MO} (h : M a = some mo) : Stp M H (put M a mo') (upd H a o) := fun b u e m => by
  have n : b ≠ a := fun z => by rw [z, h] at m; cases m
  exact ⟨by rw [upd_ne n]; exact e, by rw [put_ne n]; exact m⟩
theorem Stp.frz {a : Addr} : Stp M H (del M a) H := fun b u e m => ⟨e, by
  by_cases z : b = a
  · rw [z, del_same]
  · rw [del_ne z]; exact m⟩
theorem Cor.new (c : Cor K M H) {p : Addr} {o : HO} (h : H p = none) : Cor K M (upd H p o) := fun a mo e => by
  obtain ⟨u, h1, r⟩ := c a mo e
  exact ⟨u, by rw [upd_ne (ne_of_none h1 h)]; exact h1, r.stp (Stp.new h)⟩
theorem Cor.newM (c : Cor K M H) {p : Addr} {o : HO} {mo : MO} (h : H p = none) (r0 : RepO K M H mo o) : Cor K (put M p mo) (upd H p o) := fun a m e => by
  by_cases z : a = p
  · subst z
    rw [put_same] at e; cases e
    exact ⟨o, upd_same, r0.stp (Stp.newM h)⟩
  · rw [put_ne z] at e
    obtain ⟨u, h1, r⟩ := c a m e
    exact ⟨u, by rw [upd_ne z]; exact h1, r.stp (Stp.newM h)⟩
theorem Cor.write (c : Cor K M H) {a : Addr} {o : HO} {mo mo' : MO} (h : M a = some mo) (r0 : RepO K M H mo' o) : Cor K (put M a mo') (upd H a o) := fun b m e => by
  by_cases z : b = a
  · subst z
    rw [put_same] at e; cases e
    exact ⟨o, upd_same, r0.stp (Stp.write h)⟩
  · rw [put_ne z] at e
    obtain ⟨u, h1, r⟩ := c b m e
    exact ⟨u, by rw [upd_ne z]; exact h1, r.stp (Stp.write h)⟩
theorem Cor.frz (c : Cor K M H) {a : Addr} : Cor K (del M a) H := fun b m e => by
  have z : b ≠ a := fun z => by rw [z, del_same] at e; cases e
  rw [del_ne z] at e
  obtain ⟨u, h1, r⟩ := c b m e
  exact ⟨u, h1, r.stp Stp.frz⟩
end
end DL

namespace DL
open PySem L2

abbrev DSt := List (Option D)
abbrev DK := D → Mu → Prop
/-- an exception: its class, its fields -/
structure XD where
  cls : Value
  fs : List (Str × D)
abbrev DX := XD → Mu → Prop
abbrev DR (α : Type) := DSt → Mu → (α → Mu → Prop) → DX → Prop
abbrev DTE := DR D
abbrev DTT := DR Bool
abbrev DTA := DR (List D)
def RepX (K : PySem.W.Frag) (M : Mu) (H : Hp) (x : XD) (c : Value) (d : Option Addr) : Prop :=
  c = x.cls ∧ match d with
    | none => x.fs = []
    | some a => ∃ gs, H a = some (.xd gs) ∧ M a = none ∧ gs.map (·.1) = x.fs.map (·.1) ∧ Reps K M H (x.fs.map (·.2)) (gs.map (·.2))
theorem RepX.stp {K : PySem.W.Frag} {M M' : Mu} {H H' : Hp} {x : XD} {c : Value} {d : Option Addr} (h : RepX K M H x c d) (s : Stp M H M' H') : RepX K M' H' x c d := by
  obtain ⟨e, h⟩ := h
  refine ⟨e, ?_⟩
  cases d with
  | none => exact h
  | some a =>
    obtain ⟨gs, h1, h2, h3, h4⟩ := h
    obtain ⟨h1, h2⟩ := s a _ h1 h2
    exact ⟨gs, h1, h2, h3, h4.stp s⟩

/-- where a reading stands: the values by trees, what is wanted behind it -/
structure Sit (K : PySem.W.Frag) (W : WX) {α β : Type} (R : Mu → Hp → α → β → Prop) (τ : DSt) (M : Mu) (σ : L2.St) (H : Hp) (Q0 : α → Mu → Prop) (E0 : DX) (Q : β → Hp → Prop) : Prop where
  rs : RepS K M H τ σ
  co : Cor K M H
  q : ∀ d M' v H', Q0 d M' → R M' H' d v → Cor K M' H' → Stp M H M' H' → Q v H'
  e : ∀ x M' c d H', E0 x M' → RepX K M' H' x c d → Cor K M' H' → Stp M H M' H' → W c d σ H'
/-- a reading over data, as a reading over the heap -/
def lif (K : PySem.W.Frag) (W : WX) {α β : Type} (R : Mu → Hp → α → β → Prop) (t : DR α) (σ : L2.St) (H : Hp) (Q : β → Hp → Prop) : Prop :=
  ∃ τ M Q0 E0, Sit K W R τ M σ H Q0 E0 Q ∧ t τ M Q0 E0
abbrev RD (K : PySem.W.Frag) : Mu → Hp → D → V → Prop := fun M H d v => Rep K M H d v
abbrev RB : Mu → Hp → Bool → Bool → Prop := fun _ _ a b => b = a
abbrev RA (K : PySem.W.Frag) : Mu → Hp → List D → List V → Prop := fun M H d v => Reps K M H d v
section
variable {K : PySem.W.Frag} {W : WX} {α β γ δ : Type} {R : Mu → Hp → α → β → Prop} {R1 : Mu → Hp → γ → δ → Prop} {τ : DSt} {M M1 : Mu} {σ : L2.St} {H H1 : Hp} {Q0 : α → Mu → Prop} {E0 : DX} {Q : β → Hp → Prop}
theorem Sit.go (S : Sit K W R τ M σ H Q0 E0 Q) (c : Cor K M1 H1) (s : Stp M H M1 H1) : Sit K W R τ M1 σ H1 Q0 E0 Q :=
  ⟨S.rs.stp s, c, fun d M' v H' h r c' s' => S.q d M' v H' h r c' (s.trans s'), fun x M' c d H' h r c' s' => S.e x M' c d H' h r c' (s.trans s')⟩
/-- a part is read, then the rest -/
theorem Sit.sub (S : Sit K W R τ M σ H Q0 E0 Q) {t : DR γ} {G : γ → Mu → Prop} {Q1 : δ → Hp → Prop} (h : t τ M G E0)
    (k : ∀ d M1 v H1, G d M1 → R1 M1 H1 d v → Sit K W R τ M1 σ H1 Q0 E0 Q → Stp M H M1 H1 → Q1 v H1) : lif K W R1 t σ H Q1 :=
  ⟨τ, M, G, E0, ⟨S.rs, S.co, fun d M' v H' g r c s => k d M' v H' g r (S.go c s) s, S.e⟩, h⟩
/-- the value is there -/
theorem Sit.end_ (S : Sit K W R τ M σ H Q0 E0 Q) {d : α} {v : β} (h : Q0 d M) (r : R M H d v) : Q v H := S.q d M v H h r S.co (Stp.refl _ _)
end

theorem PE.of {X : Cx} {e : Expr} {t t0 : TE} (h : PE X e t0) (k : ∀ σ H Q, t σ H Q → t0 σ H Q) : PE X e t := ⟨fun pins s σ H Q I q => h.run pins s σ H Q I (k σ H Q q)⟩
theorem PT.of {X : Cx} {e : Expr} {t t0 : TT} (h : PT X e t0) (k : ∀ σ H Q, t σ H Q → t0 σ H Q) : PT X e t := ⟨fun pins s σ H Q I q => h.run pins s σ H Q I (k σ H Q q)⟩
theorem PA.of {X : Cx} {e : List Expr} {t t0 : TA} (h : PA X e t0) (k : ∀ σ H Q, t σ H Q → t0 σ H Q) : PA X e t := ⟨fun pos pins s σ H Q I q => h.run pos pins s σ H Q I (k σ H Q q)⟩
theorem PS.of {X : Cx} {e : Stmt} {t t0 : TS} (h : PS X e t0) (k : ∀ D σ H, t D σ H → t0 D σ H) : PS X e t := ⟨fun pins s σ H D I q => h.run pins s σ H D I (k D σ H q)⟩
theorem PSs.of {X : Cx} {e : List Stmt} {t t0 : TS} (h : PSs X e t0) (k : ∀ D σ H, t D σ H → t0 D σ H) : PSs X e t := ⟨fun pins s σ H D I q => h.run pins s σ H D I (k D σ H q)⟩

/-- a context that is fit for us: W takes what is raised -/
structure Gd (X : Cx) (W : WX) : Prop where
  calm : X.calm = true
  tk : Takes X W
  hu : X.A.units + 64 < cLine
  own : PassesOwn (model X.prog X.w) X.A X.env X.xe
  nd : X.N.Nodup
theorem Gd.hu1 {X : Cx} {W : WX} (G : Gd X W) : X.A.units + 1 < cLine := Nat.lt_of_le_of_lt (Nat.add_le_add_left (by decide) _) G.hu

/-- an expression, a test, arguments over data -/
abbrev DE (X : Cx) (W : WX) (e : Expr) (t : DTE) : Prop := PE X e (lif X.K W (RD X.K) t)
abbrev DT (X : Cx) (W : WX) (e : Expr) (t : DTT) : Prop := PT X e (lif X.K W RB t)
abbrev DA (X : Cx) (W : WX) (es : List Expr) (t : DTA) : Prop := PA X es (lif X.K W (RA X.K) t)

/-! ### readings over data -/
def dVar (i : Nat) : DTE := fun τ M Q _ => match τ[i]? with
  | some (some d) => Q d M
  | _ => False
def dC (d : D) : DTE := fun _ M Q _ => Q d M
abbrev DOp := D → D → Mu → DK → Prop
def dOp (g : DOp) (ta tb : DTE) : DTE := fun τ M Q E => ta τ M (fun x M1 => tb τ M1 (fun y M2 => g x y M2 Q) E) E
abbrev DUn := D → Mu → DK → Prop
def dUn (g : DUn) (ta : DTE) : DTE := fun τ M Q E => ta τ M (fun x M1 => g x M1 Q) E

section
variable {X : Cx} {W : WX} {a b c e : Expr} {ta tb tc : DTE} {pos : Pos}
theorem de_var (i : Nat) {x : Str} (hN : X.N[i]? = some x := by rfl) (hv : Vis X.env.scope x := by first | exact Or.inl rfl | exact Or.inr (Or.inl rfl) | exact Or.inr (Or.inr rfl)) (hd : (x == ("__debug__" : Str)) = false := by decide)
    (hcd : (x == ("__classdict__" : Str)) = false := by decide) : DE X W (.Name x pos) (dVar i) := by
  refine PE.of (pe_var hN hv hd hcd) fun σ H Q ⟨τ, M, Q0, E0, S, h⟩ => ?_
  unfold dVar at h
  split at h
  · rename_i d e
    obtain ⟨v, e2, r⟩ := S.rs.get e
    exact ⟨v, e2, S.end_ h r⟩
  · exact h.elim
theorem de_c {t0 : TE} {d : D} {v : V} (h : PE X e (tC v)) (r : ∀ M H, Rep X.K M H d v) : DE X W e (dC d) := by
  refine PE.of h fun σ H Q ⟨τ, M, Q0, E0, S, h⟩ => ?_
  exact S.end_ h (r M H)
theorem de_int {i : Int} {j : Nat} : DE X W (.Constant (.int i) j pos) (dC (.int i)) := de_c (t0 := tC .non) pe_int fun _ _ => rfl
theorem de_bl {i : Bool} {j : Nat} : DE X W (.Constant (.bool i) j pos) (dC (.bl i)) := de_c (t0 := tC .non) pe_bl fun _ _ => rfl
theorem de_non {j : Nat} : DE X W (.Constant .none j pos) (dC .non) := de_c (t0 := tC .non) pe_non fun _ _ => rfl
theorem de_str {x : Str} {j : Nat} : DE X W (.Constant (.str x) j pos) (dC (.str (T x))) := de_c (t0 := tC .non) pe_str fun _ _ => by
  show V.str x = V.str (sx (T x))
  rw [sx_T]
/-- a module's constant -/
theorem de_glob {x : Str} {d : D} {v : V} {u : Value} (hg : Gl X x) (hm : X.mg x = some u) (r : RelV v u) (rd : ∀ M H, Rep X.K M H d v) (hd : (x == ("__debug__" : Str)) = false := by decide) : DE X W (.Name x pos) (dC d) :=
  de_c (t0 := tC .non) (pe_glob hg hm r hd) rd

/-- an operation over data against one over the heap -/
def OpD (K : PySem.W.Frag) (g : DOp) (r : R2) : Prop := ∀ (M : Mu) (H : Hp) (x y : D) (v u : V) (Q0 : DK) (Q : VK), Cor K M H → Rep K M H x v → Rep K M H y u → g x y M Q0 →
  (∀ d M' z H', Q0 d M' → Rep K M' H' d z → Cor K M' H' → Stp M H M' H' → Q z H') → r v u H Q
def UnD (K : PySem.W.Frag) (g : DUn) (r : V → Hp → VK → Prop) : Prop := ∀ (M : Mu) (H : Hp) (x : D) (v : V) (Q0 : DK) (Q : VK), Cor K M H → Rep K M H x v → g x M Q0 →
  (∀ d M' z H', Q0 d M' → Rep K M' H' d z → Cor K M' H' → Stp M H M' H' → Q z H') → r v H Q
theorem lif_op {g : DOp} {r : R2} (o : OpD X.K g r) {σ : L2.St} {H : Hp} {Q : VK} (h : lif X.K W (RD X.K) (dOp g ta tb) σ H Q) : tOp r (lif X.K W (RD X.K) ta) (lif X.K W (RD X.K) tb) σ H Q := by
  obtain ⟨τ, M, Q0, E0, S, h⟩ := h
  refine S.sub h fun d M1 v H1 h1 r1 S1 s1 => ?_
  refine S1.sub h1 fun d2 M2 v2 H2 h2 r2 S2 s2 => ?_
  exact o M2 H2 d d2 v v2 Q0 Q S2.co (r1.stp s2) r2 h2 S2.q
theorem de_op {op : Operator} {g : DOp} {r : R2} (ho : OpR X (binaryOp op) r) (o : OpD X.K g r) (ha : DE X W a ta) (hb : DE X W b tb) : DE X W (.BinOp a op b pos) (dOp g ta tb) :=
  PE.of (pe_op ho ha hb) fun _ _ _ h => lif_op o h
theorem de_un {op : UnaryOp} {g : DUn} {r : V → Hp → VK → Prop} (ho : UnR X (unaryOp op) r) (o : UnD X.K g r) (ha : DE X W a ta) : DE X W (.UnaryOp op a pos) (dUn g ta) := by
  refine PE.of (pe_un ho ha) fun σ H Q ⟨τ, M, Q0, E0, S, h⟩ => ?_
  refine S.sub h fun d M1 v H1 h1 r1 S1 s1 => ?_
  exact o M1 H1 d v Q0 Q S1.co r1 h1 S1.q
theorem de_cmp {op : CmpOp} {g : DOp} {r : R2} (ho : OpR X (compareOp op) r) (o : OpD X.K g r) (ha : DE X W a ta) (hb : DE X W b tb) (hm : behindInMarks op b = false) : DE X W (.Compare a [op] [b] pos) (dOp g ta tb) :=
  PE.of (pe_cmpR ho ha hb hm) fun _ _ _ h => lif_op o h
end
end DL

namespace DL
open PySem L2

theorem line24 : (sizeLine : Nat) = 16777216 := sizeLine_eq
/-! ### tests -/
def dTest (t : DTE) : DTT := fun τ M Q E => t τ M (fun d M1 => match d with
  | .bl b => Q b M1
  | _ => False) E
def dAnd (t u : DTT) : DTT := fun τ M Q E => t τ M (fun b M1 => if b = true then u τ M1 Q E else Q false M1) E
def dOr (t u : DTT) : DTT := fun τ M Q E => t τ M (fun b M1 => if b = true then Q true M1 else u τ M1 Q E) E
def dNot (t : DTT) : DTT := fun τ M Q E => t τ M (fun b M1 => Q (!b) M1) E
def dAndV (t u : DTE) : DTE := fun τ M Q E => t τ M (fun d M1 => match d with
  | .bl b => if b = true then u τ M1 Q E else Q (.bl false) M1
  | _ => False) E
def dOrV (t u : DTE) : DTE := fun τ M Q E => t τ M (fun d M1 => match d with
  | .bl b => if b = true then Q (.bl true) M1 else u τ M1 Q E
  | _ => False) E
def dNotV (t : DTE) : DTE := fun τ M Q E => t τ M (fun d M1 => match d with
  | .bl b => Q (.bl (!b)) M1
  | _ => False) E
def dIf (t : DTT) (ta tb : DTE) : DTE := fun τ M Q E => t τ M (fun b M1 => if b = true then ta τ M1 Q E else tb τ M1 Q E) E
/-- a value's truth -/
def truD (M : Mu) : D → Option Bool
  | .non => some false
  | .bl b => some b
  | .int i => some (i != 0)
  | .str x => some !x.isEmpty
  | .lst ds => some !ds.isEmpty
  | .tup ds => some !ds.isEmpty
  | .ref a => match M a with
    | some (.lst ds) => some !ds.isEmpty
    | some (.dK kvs) => some !kvs.isEmpty
    | _ => none
  | .ty _ => none
  | .scr _ => none
def dTru (t : DTE) : DTT := fun τ M Q E => t τ M (fun d M1 => match d with
  | .str x => x.length ≤ 16777216 ∧ Q (!x.isEmpty) M1
  | d => match truD M1 d with
    | some b => Q b M1
    | none => False) E
abbrev DW (X : Cx) (W : WX) (e : Expr) (t : DTT) : Prop := PW X e (lif X.K W RB t)
theorem PW.of {X : Cx} {e : Expr} {t t0 : TT} (h : PW X e t0) (k : ∀ σ H Q, t σ H Q → t0 σ H Q) : PW X e t := ⟨fun w pins s σ H Q I q => h.run w pins s σ H Q I (k σ H Q q)⟩
theorem isE_len {α β : Type} {a : List α} {b : List β} (h : a.length = b.length) : a.isEmpty = b.isEmpty := by
  cases a <;> cases b <;> simp at h ⊢
section
variable {X : Cx} {W : WX} {a b c e o : Expr} {rest es : List Expr} {ta tb tc te to : DTE} {t u v : DTT} {pos apos cpos : Pos}
theorem lif_test {σ : L2.St} {H : Hp} {Q : Bool → Hp → Prop} (h : lif X.K W RB (dTest ta) σ H Q) : lif X.K W (RD X.K) ta σ H (fun x H' => ∃ k, x = .bl k ∧ Q k H') := by
  obtain ⟨τ, M, Q0, E0, S, h⟩ := h
  refine S.sub h fun d M1 v H1 h1 r1 S1 s1 => ?_
  cases d with
  | bl b => exact ⟨b, r1, S1.end_ h1 rfl⟩
  | _ => exact h1.elim
theorem dt_cmp {op : CmpOp} {g : DOp} {r : R2} (ho : OpR X (compareOp op) r) (oo : OpD X.K g r) (ha : DE X W a ta) (hb : DE X W b tb) (hm : behindInMarks op b = false) : DT X W (.Compare a [op] [b] pos) (dTest (dOp g ta tb)) :=
  PT.of (pt_cmpR ho ha hb hm) fun _ _ _ h => lif_op oo (lif_test h)
theorem dt_bl (ha : DE X W a ta) (he : ∀ whole, isTrue a X.env whole = (do let v ← whole; standAt a.pos; holding [v] (truthy v)) := by intro _; rfl) : DT X W a (dTest ta) :=
  PT.of (pt_val ha he) fun _ _ _ h => lif_test h
theorem dt_tru (ha : DE X W a ta) (he : ∀ whole, isTrue a X.env whole = (do let v ← whole; standAt a.pos; holding [v] (truthy v)) := by intro _; rfl) : DT X W a (dTru ta) := by
  refine PT.of (pt_truth ha he) fun σ H Q ⟨τ, M, Q0, E0, S, h⟩ => ?_
  refine S.sub h fun d M1 v H1 h1 r1 S1 s1 => ?_
  have z : ∀ k, TruV X.K v H1 k → Q0 k M1 → ∃ k, TruV X.K v H1 k ∧ Q k H1 := fun k h q => ⟨k, h, S1.end_ q rfl⟩
  cases d with
  | non => cases r1; exact z false rfl h1
  | bl b => cases r1; exact z b rfl h1
  | int i => cases r1; exact z _ rfl h1
  | str x =>
    cases r1
    refine z (!x.isEmpty) ⟨by rw [sx_len, line24]; exact h1.1, ?_⟩ h1.2
    rw [sx_len]
    cases x with
    | nil => rfl
    | cons a l =>
      show true = _
      have : ((List.length (a :: l) : Int) != 0) = true := by
        rw [bne_iff_ne]
        simp only [List.length_cons]
        omega
      exact this.symm
  | ty n => exact h1.elim
  | scr n => exact h1.elim
  | lst ds =>
    obtain ⟨a, vs, e, hh, hm, hr⟩ := (show ∃ a vs, _ from r1)
    subst e
    exact z (!ds.isEmpty) (.inl ⟨vs, .inl (.inl hh), by rw [isE_len hr.length]⟩) h1
  | tup ds =>
    obtain ⟨a, vs, e, hh, hr⟩ := (show ∃ a vs, _ from r1)
    subst e
    exact z (!ds.isEmpty) (.inr (.inl ⟨vs, hh.elim (fun q => .inl (.inl q.1)) .inr, by rw [isE_len hr.length]⟩)) h1
  | ref a =>
    cases r1
    have h2 : (match (match M1 a with
      | some (.lst ds) => some !ds.isEmpty
      | some (.dK kvs) => some !kvs.isEmpty
      | _ => none) with
      | some b => Q0 b M1
      | none => False) := h1
    cases q : M1 a with
    | none => rw [q] at h2; exact h2.elim
    | some mo =>
      rw [q] at h2
      obtain ⟨ho, e1, e2⟩ := S1.co a mo q
      cases mo with
      | lst ds =>
        obtain ⟨vs, e, hr⟩ := e2
        subst e
        exact z (!ds.isEmpty) (.inl ⟨vs, .inl (.inl e1), by rw [isE_len hr.length]⟩) h2
      | dK kvs =>
        obtain ⟨ks, e, e3, hr⟩ := e2
        subst e
        refine z (!kvs.isEmpty) (.inr (.inr ⟨ks, e1, ?_⟩)) h2
        have := congrArg List.length e3
        rw [List.length_map, List.length_map] at this
        rw [isE_len this]
      | _ => exact h2.elim
theorem dt_not (h : DT X W a t) : DT X W (.UnaryOp .Not a pos) (dNot t) := PT.of (pt_not h) fun σ H Q ⟨τ, M, Q0, E0, S, h⟩ =>
  S.sub h fun d M1 v H1 h1 r1 S1 s1 => by cases r1; exact S1.end_ h1 rfl
theorem dw_and1 (h : DT X W a t) : DW X W (.BoolOp .And [a] pos) t := pw_and1 h
theorem dw_or1 (h : DT X W a t) : DW X W (.BoolOp .Or [a] pos) t := pw_or1 h
theorem dw_and (ha : DT X W a t) (hb : DW X W (.BoolOp .And (b :: rest) pos) u) : DW X W (.BoolOp .And (a :: b :: rest) pos) (dAnd t u) :=
  PW.of (pw_and ha hb) fun σ H Q ⟨τ, M, Q0, E0, S, h⟩ => S.sub h fun d M1 v H1 h1 r1 S1 s1 => by
    cases r1
    cases d with
    | true => exact S1.sub h1 fun d M2 v H2 h2 r2 S2 s2 => by cases r2; exact S2.end_ h2 rfl
    | false => exact S1.end_ h1 rfl
theorem dw_or (ha : DT X W a t) (hb : DW X W (.BoolOp .Or (b :: rest) pos) u) : DW X W (.BoolOp .Or (a :: b :: rest) pos) (dOr t u) :=
  PW.of (pw_or ha hb) fun σ H Q ⟨τ, M, Q0, E0, S, h⟩ => S.sub h fun d M1 v H1 h1 r1 S1 s1 => by
    cases r1
    cases d with
    | false => exact S1.sub h1 fun d M2 v H2 h2 r2 S2 s2 => by cases r2; exact S2.end_ h2 rfl
    | true => exact S1.end_ h1 rfl
theorem dt_w (h : DW X W a t) : DT X W a t := PW.pt h
theorem de_one {op : BoolOp} (h : DE X W a ta) : DE X W (.BoolOp op [a] pos) ta := pe_one h
theorem de_and (ha : DE X W a ta) (hb : DE X W (.BoolOp .And (b :: rest) pos) tb) : DE X W (.BoolOp .And (a :: b :: rest) pos) (dAndV ta tb) :=
  PE.of (pe_and ha hb) fun σ H Q ⟨τ, M, Q0, E0, S, h⟩ => S.sub h fun d M1 v H1 h1 r1 S1 s1 => by
    cases d with
    | bl c =>
      refine ⟨c, r1, ?_⟩
      cases c with
      | true => exact S1.sub h1 fun d M2 v H2 h2 r2 S2 s2 => S2.end_ h2 r2
      | false => exact S1.end_ h1 rfl
    | _ => exact h1.elim
theorem de_or (ha : DE X W a ta) (hb : DE X W (.BoolOp .Or (b :: rest) pos) tb) : DE X W (.BoolOp .Or (a :: b :: rest) pos) (dOrV ta tb) :=
  PE.of (pe_or ha hb) fun σ H Q ⟨τ, M, Q0, E0, S, h⟩ => S.sub h fun d M1 v H1 h1 r1 S1 s1 => by
    cases d with
    | bl c =>
      refine ⟨c, r1, ?_⟩
      cases c with
      | false => exact S1.sub h1 fun d M2 v H2 h2 r2 S2 s2 => S2.end_ h2 r2
      | true => exact S1.end_ h1 rfl
    | _ => exact h1.elim
theorem de_not (ha : DE X W a ta) : DE X W (.UnaryOp .Not a pos) (dNotV ta) :=
  PE.of (pe_not ha) fun σ H Q ⟨τ, M, Q0, E0, S, h⟩ => S.sub h fun d M1 v H1 h1 r1 S1 s1 => by
    cases d with
    | bl c => exact ⟨c, r1, S1.end_ h1 rfl⟩
    | _ => exact h1.elim
theorem de_if (hc : DT X W c t) (ha : DE X W a ta) (hb : DE X W b tb) : DE X W (.IfExp c a b pos) (dIf t ta tb) :=
  PE.of (pe_ifExp hc ha hb) fun σ H Q ⟨τ, M, Q0, E0, S, h⟩ => S.sub h fun d M1 v H1 h1 r1 S1 s1 => by
    cases r1
    cases d with
    | true => exact S1.sub h1 fun d M2 v H2 h2 r2 S2 s2 => S2.end_ h2 r2
    | false => exact S1.sub h1 fun d M2 v H2 h2 r2 S2 s2 => S2.end_ h2 r2

/-! ### arguments, displays -/
def daNil : DTA := fun _ M Q _ => Q [] M
def daCons (te : DTE) (ta : DTA) : DTA := fun τ M Q E => te τ M (fun d M1 => ta τ M1 (fun ds M2 => Q (d :: ds) M2) E) E
def dLst (ta : DTA) : DTE := fun τ M Q E => ta τ M (fun ds M1 => ds.length ≤ 16777216 ∧ Q (.lst ds) M1) E
def dLstM (ta : DTA) : DTE := fun τ M Q E => ta τ M (fun ds M1 => ds.length ≤ 16777216 ∧ ∀ p, M1 p = none → Q (.ref p) (put M1 p (.lst ds))) E
def dTup (ta : DTA) : DTE := fun τ M Q E => ta τ M (fun ds M1 => ds.length ≤ 16777216 ∧ Q (.tup ds) M1) E
variable {tl : DTA}
theorem da_nil : DA X W [] daNil := PA.of pa_nil fun σ H Q ⟨τ, M, Q0, E0, S, h⟩ => S.end_ h Reps.nil
theorem da_cons (ha : DE X W e te) (hr : DA X W es tl) (hs : starEach (e :: es) X.env = (false, eval e X.env) :: starEach es X.env := by rfl) : DA X W (e :: es) (daCons te tl) :=
  PA.of (pa_cons ha hr hs) fun σ H Q ⟨τ, M, Q0, E0, S, h⟩ => S.sub h fun d M1 v H1 h1 r1 S1 s1 => S1.sub h1 fun ds M2 vs H2 h2 r2 S2 s2 => S2.end_ h2 (.cons (r1.stp s2) r2)
theorem rep_lst {K : PySem.W.Frag} {M : Mu} {H : Hp} {p : Addr} {ds : List D} {vs : List V} (h : H p = some (.lst vs)) (m : M p = none) (r : Reps K M H ds vs) : Rep K M H (.lst ds) (.ref p) := by
  unfold Rep
  exact ⟨p, vs, rfl, h, m, r⟩
theorem rep_tup {K : PySem.W.Frag} {M : Mu} {H : Hp} {p : Addr} {ds : List D} {vs : List V} (h : H p = some (.tup vs)) (m : M p = none) (r : Reps K M H ds vs) : Rep K M H (.tup ds) (.ref p) := by
  unfold Rep
  exact ⟨p, vs, rfl, .inl ⟨h, m⟩, r⟩
/-- a new list, not to be changed -/
theorem new_lst {K : PySem.W.Frag} {M : Mu} {H : Hp} {ds : List D} {vs : List V} {Q0 : DK} {Q : VK} (c : Cor K M H) (r : Reps K M H ds vs) (h : Q0 (.lst ds) M)
    (q : ∀ d M' z H', Q0 d M' → Rep K M' H' d z → Cor K M' H' → Stp M H M' H' → Q z H') (p : Addr) (hp : H p = none) : Q (.ref p) (upd H p (.lst vs)) :=
  q _ M _ _ h (rep_lst upd_same (c.free hp) (r.stp (Stp.new hp))) (c.new hp) (Stp.new hp)
theorem new_tup {K : PySem.W.Frag} {M : Mu} {H : Hp} {ds : List D} {vs : List V} {Q0 : DK} {Q : VK} (c : Cor K M H) (r : Reps K M H ds vs) (h : Q0 (.tup ds) M)
    (q : ∀ d M' z H', Q0 d M' → Rep K M' H' d z → Cor K M' H' → Stp M H M' H' → Q z H') (p : Addr) (hp : H p = none) : Q (.ref p) (upd H p (.tup vs)) :=
  q _ M _ _ h (rep_tup upd_same (c.free hp) (r.stp (Stp.new hp))) (c.new hp) (Stp.new hp)
theorem new_lstM {K : PySem.W.Frag} {M : Mu} {H : Hp} {ds : List D} {vs : List V} {Q0 : DK} {Q : VK} (c : Cor K M H) (r : Reps K M H ds vs) (h : ∀ p, M p = none → Q0 (.ref p) (put M p (.lst ds)))
    (q : ∀ d M' z H', Q0 d M' → Rep K M' H' d z → Cor K M' H' → Stp M H M' H' → Q z H') (p : Addr) (hp : H p = none) : Q (.ref p) (upd H p (.lst vs)) :=
  q _ _ _ _ (h p (c.free hp)) rfl (c.newM hp ⟨vs, rfl, r⟩) (Stp.newM hp)
theorem de_lst (h : DA X W es tl) : DE X W (.List es pos) (dLst tl) := PE.of (pe_lst h) fun σ H Q ⟨τ, M, Q0, E0, S, h⟩ => S.sub h fun ds M1 vs H1 h1 r1 S1 s1 =>
  ⟨by rw [r1.length, line24]; exact h1.1, new_lst S1.co r1 h1.2 S1.q⟩
theorem de_lstM (h : DA X W es tl) : DE X W (.List es pos) (dLstM tl) := PE.of (pe_lst h) fun σ H Q ⟨τ, M, Q0, E0, S, h⟩ => S.sub h fun ds M1 vs H1 h1 r1 S1 s1 =>
  ⟨by rw [r1.length, line24]; exact h1.1, new_lstM S1.co r1 h1.2 S1.q⟩
theorem de_tup {x1 : Nat} (h : DA X W es tl) : DE X W (.Tuple es x1 pos) (dTup tl) := PE.of (pe_tup h) fun σ H Q ⟨τ, M, Q0, E0, S, h⟩ => S.sub h fun ds M1 vs H1 h1 r1 S1 s1 =>
  ⟨by rw [r1.length, line24]; exact h1.1, new_tup S1.co r1 h1.2 S1.q⟩
/-- what may change is to change no more (nothing is done) -/
def dFrz (te : DTE) : DTE := fun τ M Q E => te τ M (fun d M1 => match d with
  | .ref a => (match M1 a with
    | some (.lst ds) => Q (.lst ds) (del M1 a)
    | _ => False)
  | _ => False) E
theorem de_frz (h : DE X W e te) : DE X W e (dFrz te) := PE.of h fun σ H Q ⟨τ, M, Q0, E0, S, h⟩ => S.sub h fun d M1 v H1 h1 r1 S1 s1 => by
  cases d with
  | ref a =>
    cases r1
    have h2 : (match M1 a with
      | some (.lst ds) => Q0 (.lst ds) (del M1 a)
      | _ => False) := h1
    cases q : M1 a with
    | none => rw [q] at h2; exact h2.elim
    | some mo =>
      rw [q] at h2
      cases mo with
      | lst ds =>
        obtain ⟨o, e1, vs, e2, r⟩ := S1.co a _ q
        subst e2
        exact S1.q _ _ _ _ h2 (rep_lst e1 del_same (r.stp Stp.frz)) S1.co.frz Stp.frz
      | _ => exact h2.elim
  | _ => exact h1.elim

/-! ### calls -/
abbrev DSp := List D → Mu → DK → DX → Prop
def lsp (K : PySem.W.Frag) (sp : DSp) : Sp := fun vs H Q E => ∃ ds M Q0 E0, Reps K M H ds vs ∧ Cor K M H ∧ sp ds M Q0 E0 ∧ (∀ d M' v H', Q0 d M' → Rep K M' H' d v → Cor K M' H' → Stp M H M' H' → Q v H') ∧
  ∀ x M' c d H', E0 x M' → RepX K M' H' x c d → Cor K M' H' → Stp M H M' H' → E c d H'
/-- the module's name x is a def that keeps sp -/
structure FnM (P : Program) (w : World) (K : PySem.W.Frag) (mg : Str → Option Value) (base : Heap) (k : Nat) (x : Str) (sp : DSp) : Prop where
  ex : ∃ f fd ps, FnOk P w K mg base (L2.CX P w) k f fd ps (lsp K sp) ∧ mg x = some (.ref f) ∧ PySem.W.keepIn K (.ref f) = true ∧ Binds K fd ps []
def dCall (sp : DSp) (ta : DTA) : DTE := fun τ M Q E => ta τ M (fun ds M1 => sp ds M1 Q E) E
theorem de_call {k : Nat} {x : Str} {sp : DSp} {p : Pos} (F : FnM X.prog X.w X.K X.mg X.base k x sp) (G : Gd X W) (hr : Room k X.A) (ha : DA X W (e :: es) tl) (hg : Gl X x := by rfl) (hdb : (x == ("__debug__" : Str)) = false := by decide)
    (he : starEach (e :: es) X.env = (false, eval e X.env) :: starEach es X.env := by rfl) (hpl : (backTo pos (starEach es X.env)).any (·.1) = false := by rfl) : DE X W (.Call (.Name x p) (e :: es) [] pos) (dCall sp tl) := by
  obtain ⟨f, fd, ps, Fk, hm, hk, hb⟩ := F.ex
  exact PE.of (pe_callS Fk hr hg hm hk hb (E := WE W) (passAt G.tk) ha hdb he hpl) fun σ H Q ⟨τ, M, Q0, E0, S, h⟩ => S.sub h fun ds M1 vs H1 h1 r1 S1 s1 =>
    ⟨ds, M1, Q0, E0, r1, S1.co, h1, S1.q, S1.e⟩

/-! ### subscripts, slices -/
def cut {α : Type} (xs : List α) (lo hi : Option Int) : List α := (xs.drop (HT.sIx xs.length 0 lo)).take (HT.sIx xs.length xs.length hi - HT.sIx xs.length 0 lo)
abbrev DTO := DR (Option Int)
abbrev RO : Mu → Hp → Option Int → Option Int → Prop := fun _ _ a b => b = a
abbrev DO (X : Cx) (W : WX) (e : Option Expr) (t : DTO) : Prop := PO X e (lif X.K W RO t)
theorem PO.of {X : Cx} {e : Option Expr} {t t0 : TO} (h : PO X e t0) (k : ∀ σ H Q, t σ H Q → t0 σ H Q) : PO X e t := ⟨fun pins s σ H Q I q => h.run pins s σ H Q I (k σ H Q q)⟩
def doNone : DTO := fun _ M Q _ => Q none M
def doSome (te : DTE) : DTO := fun τ M Q E => te τ M (fun d M1 => match d with
  | .int i => Q (some i) M1
  | _ => False) E
theorem do_none : DO X W none doNone := PO.of po_none fun σ H Q ⟨τ, M, Q0, E0, S, h⟩ => S.end_ h rfl
theorem do_some (h : DE X W e te) : DO X W (some e) (doSome te) := PO.of (po_some h) fun σ H Q ⟨τ, M, Q0, E0, S, h⟩ => S.sub h fun d M1 v H1 h1 r1 S1 s1 => by
  cases d with
  | int i => exact ⟨i, r1, S1.end_ h1 rfl⟩
  | _ => exact h1.elim
def gSl (d : D) (lo hi : Option Int) (M : Mu) (Q : DK) : Prop := match d with
  | .str x => x.length ≤ 16777216 ∧ Q (.str (cut x lo hi)) M
  | .lst ds => Q (.lst (cut ds lo hi)) M
  | .tup ds => ¬ (HT.sIx ds.length 0 lo = 0 ∧ HT.sIx ds.length ds.length hi = ds.length) ∧ Q (.tup (cut ds lo hi)) M
  | .ref a => (match M a with
    | some (.lst ds) => Q (.lst (cut ds lo hi)) M
    | _ => False)
  | _ => False
def dSl (te : DTE) (tl th : DTO) : DTE := fun τ M Q E => te τ M (fun d M1 => tl τ M1 (fun lo M2 => th τ M2 (fun hi M3 => gSl d lo hi M3 Q) E) E) E
theorem cut_rep {K : PySem.W.Frag} {M : Mu} {H : Hp} {ds : List D} {vs : List V} (lo hi : Option Int) (r : Reps K M H ds vs) : Reps K M H (cut ds lo hi) (cutV vs lo hi) := by
  unfold cut cutV
  rw [r.length]
  exact (r.drop _).take _
theorem de_sl {lo hi : Option Expr} {tl th : DTO} {p2 : Pos} (he : DE X W e te) (hl : DO X W lo tl) (hu : DO X W hi th) : DE X W (.Subscript e (.Slice lo hi none p2) pos) (dSl te tl th) :=
  PE.of (pe_slice (sl_list.or (sl_str.or sl_tup)) he hl hu) fun σ H Q ⟨τ, M, Q0, E0, S, h⟩ => S.sub h fun d M1 v H1 h1 r1 S1 s1 => S1.sub h1 fun l M2 v2 H2 h2 r2 S2 s2 => S2.sub h2 fun u M3 v3 H3 h3 r3 S3 s3 => by
    cases r2
    cases r3
    have r := r1.stp (s2.trans s3)
    cases d with
    | str x =>
      cases r
      refine .inr (.inl ⟨sx x, rfl, by rw [sx_len, line24]; exact h3.1, S3.end_ h3.2 ?_⟩)
      show V.str (cutS (sx x) l u) = V.str (sx (cut x l u))
      unfold cutS cut
      rw [sx_len]
      rfl
    | lst ds =>
      obtain ⟨a, vs, e, hh, hm, hr⟩ := (show ∃ a vs, _ from r)
      exact .inl ⟨a, vs, e, .inl (.inl hh), new_lst S3.co (cut_rep l u hr) h3 S3.q⟩
    | tup ds =>
      obtain ⟨a, vs, e, hh, hr⟩ := (show ∃ a vs, _ from r)
      exact .inr (.inr ⟨a, vs, e, hh.elim (fun q => .inl (.inl q.1)) .inr, by rw [hr.length]; exact h3.1, new_tup S3.co (cut_rep l u hr) h3.2 S3.q⟩)
    | ref a =>
      cases r
      have h2 : (match M3 a with
        | some (.lst ds) => Q0 (.lst (cut ds l u)) M3
        | _ => False) := h3
      cases q : M3 a with
      | none => rw [q] at h2; exact h2.elim
      | some mo =>
        rw [q] at h2
        cases mo with
        | lst ds =>
          obtain ⟨o, e1, vs, e2, hr⟩ := S3.co a _ q
          subst e2
          exact .inl ⟨a, vs, rfl, .inl (.inl e1), new_lst S3.co (cut_rep l u hr) h2 S3.q⟩
        | _ => exact h2.elim
    | _ => exact h3.elim
end
end DL

namespace DL
open PySem L2

/-! ### operators -/
def gAdd : DOp := fun x y M Q => match x, y with
  | .int i, .int j => Q (.int (i + j)) M
  | .str a, .str b => a.length + b.length ≤ 16777216 ∧ Q (.str (a ++ b)) M
  | .lst a, .lst b => a.length + b.length ≤ 16777216 ∧ Q (.lst (a ++ b)) M
  | .tup a, .tup b => a ≠ [] ∧ a.length + b.length ≤ 16777216 ∧ Q (.tup (a ++ b)) M
  | .ref p, .lst b => (match M p with
    | some (.lst a) => a.length + b.length ≤ 16777216 ∧ Q (.lst (a ++ b)) M
    | _ => False)
  | .lst a, .ref p => (match M p with
    | some (.lst b) => a.length + b.length ≤ 16777216 ∧ Q (.lst (a ++ b)) M
    | _ => False)
  | _, _ => False
def gSub : DOp := fun x y M Q => match x, y with
  | .int i, .int j => Q (.int (i - j)) M
  | _, _ => False
def gMul : DOp := fun x y M Q => match x, y with
  | .int i, .int j => CMul i j ∧ Q (.int (i * j)) M
  | _, _ => False
def gDiv : DOp := fun x y M Q => match x, y with
  | .int i, .int j => CDiv i j ∧ Q (.int (i / j)) M
  | _, _ => False
def gMod : DOp := fun x y M Q => match x, y with
  | .int i, .int j => 0 < j ∧ Q (.int (i % j)) M
  | _, _ => False
def gPow : DOp := fun x y M Q => match x, y with
  | .int i, .int j => CPow i j ∧ Q (.int (i ^ j.toNat)) M
  | _, _ => False
def gNeg : DUn := fun x M Q => match x with
  | .int i => Q (.int (-i)) M
  | _ => False
def gInt (p : Int → Int → Bool) : DOp := fun x y M Q => match x, y with
  | .int i, .int j => Q (.bl (p i j)) M
  | _, _ => False
abbrev gLt : DOp := gInt fun i j => decide (i < j)
abbrev gLe : DOp := gInt fun i j => decide (i ≤ j)
abbrev gGt : DOp := gInt fun i j => decide (j < i)
abbrev gGe : DOp := gInt fun i j => decide (j ≤ i)
section
variable {K : PySem.W.Frag}
theorem od_int {g : Int → Int → V} {gd : Int → Int → D} (hg : ∀ i j M H, Rep K M H (gd i j) (g i j)) {f : DOp} (hf : ∀ x y M Q, f x y M Q → ∃ i j, x = .int i ∧ y = .int j ∧ Q (gd i j) M) : OpD K f (rI0 g) :=
  fun M H x y v u Q0 Q c rx ry h q => by
    obtain ⟨i, j, rfl, rfl, h'⟩ := hf x y M Q0 h
    cases rx; cases ry
    exact ⟨i, j, rfl, rfl, q _ M _ H h' (hg i j M H) c (Stp.refl M H)⟩
theorem od_intC {C : Int → Int → Prop} {g : Int → Int → V} {gd : Int → Int → D} (hg : ∀ i j M H, Rep K M H (gd i j) (g i j)) {f : DOp} (hf : ∀ x y M Q, f x y M Q → ∃ i j, x = .int i ∧ y = .int j ∧ C i j ∧ Q (gd i j) M) : OpD K f (rI C g) :=
  fun M H x y v u Q0 Q c rx ry h q => by
    obtain ⟨i, j, rfl, rfl, hc, h'⟩ := hf x y M Q0 h
    cases rx; cases ry
    exact ⟨i, j, rfl, rfl, hc, q _ M _ H h' (hg i j M H) c (Stp.refl M H)⟩
theorem od_sub : OpD K gSub (rI0 fun i j => .int (i - j)) := od_int (gd := fun i j => .int (i - j)) (fun _ _ _ _ => rfl) fun x y M Q h => by
  cases x <;> cases y <;> first | exact ⟨_, _, rfl, rfl, h⟩ | exact h.elim
theorem od_mul : OpD K gMul (rI CMul fun i j => .int (i * j)) := od_intC (gd := fun i j => .int (i * j)) (fun _ _ _ _ => rfl) fun x y M Q h => by
  cases x <;> cases y <;> first | exact ⟨_, _, rfl, rfl, h⟩ | exact h.elim
theorem od_div : OpD K gDiv (rI CDiv fun i j => .int (i / j)) := od_intC (gd := fun i j => .int (i / j)) (fun _ _ _ _ => rfl) fun x y M Q h => by
  cases x <;> cases y <;> first | exact ⟨_, _, rfl, rfl, h⟩ | exact h.elim
theorem od_mod : OpD K gMod (rI (fun _ j => 0 < j) fun i j => .int (i % j)) := od_intC (gd := fun i j => .int (i % j)) (fun _ _ _ _ => rfl) fun x y M Q h => by
  cases x <;> cases y <;> first | exact ⟨_, _, rfl, rfl, h⟩ | exact h.elim
theorem od_pow : OpD K gPow (rI CPow fun i j => .int (i ^ j.toNat)) := od_intC (gd := fun i j => .int (i ^ j.toNat)) (fun _ _ _ _ => rfl) fun x y M Q h => by
  cases x <;> cases y <;> first | exact ⟨_, _, rfl, rfl, h⟩ | exact h.elim
theorem od_b {p : Int → Int → Bool} : OpD K (gInt p) (rI0 fun i j => .bl (p i j)) := od_int (gd := fun i j => .bl (p i j)) (fun _ _ _ _ => rfl) fun x y M Q h => by
  cases x <;> cases y <;> first | exact ⟨_, _, rfl, rfl, h⟩ | exact h.elim
theorem ud_neg : UnD K gNeg (rU fun i => .int (-i)) := fun M H x v Q0 Q c r h q => by
  cases x with
  | int i => cases r; exact ⟨i, rfl, q _ M _ H h rfl c (Stp.refl M H)⟩
  | _ => exact h.elim
def rAddA (K : PySem.W.Frag) : R2 := fun x y H Q => (rI0 (fun i j => .int (i + j)) x y H Q ∨ (∃ i j, x = .str i ∧ y = .str j ∧ i.length + j.length ≤ sizeLine ∧ Q (.str (i ++ j)) H)) ∨ (rCat x y H Q ∨ rCatT K x y H Q)
theorem op_addA {X : Cx} : OpR X (binaryOp .Add) (rAddA X.K) := (op_add.or op_add_str).or (op_cat.or op_catT)
theorem rep_of_lst {M : Mu} {H : Hp} {ds : List D} {v : V} (r : Rep K M H (.lst ds) v) : ∃ a vs, v = .ref a ∧ H a = some (.lst vs) ∧ M a = none ∧ Reps K M H ds vs := r
theorem rep_of_tup {M : Mu} {H : Hp} {ds : List D} {v : V} (r : Rep K M H (.tup ds) v) : ∃ a vs, v = .ref a ∧ ((H a = some (.tup vs) ∧ M a = none) ∨ WrT K a vs) ∧ Reps K M H ds vs := r
theorem sqT_of {H : Hp} {M : Mu} {a : Addr} {vs : List V} (h : (H a = some (.tup vs) ∧ M a = none) ∨ WrT K a vs) : SqT K H a vs := h.elim (fun q => .inl (.inl q.1)) .inr
theorem mu_lst {M : Mu} {H : Hp} {a : Addr} {ds : List D} (c : Cor K M H) (h : M a = some (.lst ds)) : ∃ vs, H a = some (.lst vs) ∧ Reps K M H ds vs := by
  obtain ⟨o, e1, vs, e2, hr⟩ := c a _ h
  exact ⟨vs, by rw [e1, e2], hr⟩
theorem mu_dK {M : Mu} {H : Hp} {a : Addr} {kvs : List (DKey × D)} (c : Cor K M H) (h : M a = some (.dK kvs)) : ∃ ks, H a = some (.dK ks) ∧ ks.map (·.1) = kvs.map (fun q => kO q.1) ∧ Reps K M H (kvs.map (·.2)) (ks.map (·.2)) := by
  obtain ⟨o, e1, ks, e2, e3, hr⟩ := c a _ h
  exact ⟨ks, by rw [e1, e2], e3, hr⟩
theorem mu_fK {M : Mu} {H : Hp} {a : Addr} {kvs : List (DKey × D)} {u : HO} (c : Cor K M H) (h : M a = some (.fK kvs u)) : ∃ od ks, H a = some (.frz od (.dK ks)) ∧ u = .frz od (.dK ks) ∧ ks.map (·.1) = kvs.map (fun q => kO q.1) ∧ Reps K M H (kvs.map (·.2)) (ks.map (·.2)) := by
  obtain ⟨o, e1, e0, od, ks, e2, e3, hr⟩ := c a _ h
  exact ⟨od, ks, by rw [e1, e0, e2], e2, e3, hr⟩
/-- either of the two -/
theorem mu_dR {M : Mu} {H : Hp} {a : Addr} {mo : MO} {kvs : List (DKey × D)} (c : Cor K M H) (h : M a = some mo) (hk : dOf mo = some kvs) : ∃ ks, Rd H a (.dK ks) ∧ ks.map (·.1) = kvs.map (fun q => kO q.1) ∧ Reps K M H (kvs.map (·.2)) (ks.map (·.2)) := by
  cases mo with
  | dK l =>
    cases hk
    obtain ⟨ks, h1, h2, h3⟩ := mu_dK c h
    exact ⟨ks, .inl h1, h2, h3⟩
  | fK l u =>
    cases hk
    obtain ⟨od, ks, h1, _, h2, h3⟩ := mu_fK c h
    exact ⟨ks, .inr ⟨od, h1⟩, h2, h3⟩
  | _ => cases hk
theorem od_add : OpD K gAdd (rAddA K) := fun M H x y v u Q0 Q c rx ry h q => by
  cases x with
  | int i =>
    cases y with
    | int j =>
      cases rx; cases ry
      exact .inl (.inl ⟨i, j, rfl, rfl, q _ M _ H h rfl c (Stp.refl M H)⟩)
    | _ => exact h.elim
  | str i =>
    cases y with
    | str j =>
      cases rx; cases ry
      refine .inl (.inr ⟨sx i, sx j, rfl, rfl, by rw [sx_len, sx_len, line24]; exact h.1, ?_⟩)
      rw [sx_add]
      exact q _ M _ H h.2 rfl c (Stp.refl M H)
    | _ => exact h.elim
  | lst xs =>
    obtain ⟨a, vs, rfl, ha, ma, ra⟩ := rep_of_lst rx
    cases y with
    | lst ys =>
      obtain ⟨b, us, rfl, hb, mb, rb⟩ := rep_of_lst ry
      exact .inr (.inl ⟨a, b, vs, us, rfl, rfl, ha, hb, by rw [ra.length, rb.length, line24]; exact h.1, new_lst c (ra.append rb) h.2 q⟩)
    | ref b =>
      cases ry
      have h2 : (match M b with
        | some (.lst ys) => xs.length + ys.length ≤ 16777216 ∧ Q0 (.lst (xs ++ ys)) M
        | _ => False) := h
      cases e : M b with
      | none => rw [e] at h2; exact h2.elim
      | some mo =>
        rw [e] at h2
        cases mo with
        | lst ys =>
          obtain ⟨us, hb, rb⟩ := mu_lst c e
          exact .inr (.inl ⟨a, b, vs, us, rfl, rfl, ha, hb, by rw [ra.length, rb.length, line24]; exact h2.1, new_lst c (ra.append rb) h2.2 q⟩)
        | _ => exact h2.elim
    | _ => exact h.elim
  | tup xs =>
    obtain ⟨a, vs, rfl, ha, ra⟩ := rep_of_tup rx
    cases y with
    | tup ys =>
      obtain ⟨b, us, rfl, hb, rb⟩ := rep_of_tup ry
      refine .inr (.inr ⟨a, b, vs, us, rfl, rfl, sqT_of ha, sqT_of hb, ?_, by rw [ra.length, rb.length, line24]; exact h.2.1, fun z => ?_, fun _ => new_tup c (ra.append rb) h.2.2 q⟩)
      rotate_left
      · have l := rb.length
        rw [z] at l
        have e : ys = [] := List.eq_nil_of_length_eq_zero l.symm
        subst e
        have h3 := h.2.2
        rw [List.append_nil] at h3
        exact q _ M _ H h3 rx c (Stp.refl M H)
      intro z
      have := ra.length
      rw [z] at this
      exact h.1 (List.eq_nil_of_length_eq_zero this.symm)
    | _ => exact h.elim
  | ref a =>
    cases rx
    cases y with
    | lst ys =>
      obtain ⟨b, us, rfl, hb, mb, rb⟩ := rep_of_lst ry
      have h2 : (match M a with
        | some (.lst xs) => xs.length + ys.length ≤ 16777216 ∧ Q0 (.lst (xs ++ ys)) M
        | _ => False) := h
      cases e : M a with
      | none => rw [e] at h2; exact h2.elim
      | some mo =>
        rw [e] at h2
        cases mo with
        | lst xs =>
          obtain ⟨vs, ha, ra⟩ := mu_lst c e
          exact .inr (.inl ⟨a, b, vs, us, rfl, rfl, ha, hb, by rw [ra.length, rb.length, line24]; exact h2.1, new_lst c (ra.append rb) h2.2 q⟩)
        | _ => exact h2.elim
    | _ => exact h.elim
  | _ => exact h.elim

/-! ### == -/
mutual
def pd : D → PyData
  | .non => .none
  | .bl b => .bool b
  | .int i => .int i
  | .str x => .str (sx x)
  | .ref _ => .dict []
  | .ty _ => .dict []
  | .scr _ => .dict []
  | .lst ds => .list (pds ds)
  | .tup ds => .tuple (pds ds)
def pds : List D → List PyData
  | [] => []
  | d :: ds => pd d :: pds ds
end
mutual
/-- plain data: no object but lists and tuples -/
def plain : D → Bool
  | .ref _ => false
  | .ty _ => false
  | .scr _ => false
  | .lst ds => plains ds
  | .tup ds => plains ds
  | _ => true
def plains : List D → Bool
  | [] => true
  | d :: ds => plain d && plains ds
end
mutual
theorem dp_of {M : Mu} {H : Hp} : ∀ {d : D} {v : V}, plain d = true → Rep K M H d v → Dp K H v (pd d)
  | .non, v, _, r => by cases (show v = _ from r); exact .non
  | .bl _, v, _, r => by cases (show v = _ from r); exact .bl _
  | .int _, v, _, r => by cases (show v = _ from r); exact .int _
  | .str _, v, _, r => by cases (show v = _ from r); exact .str _
  | .ref _, _, h, _ => by cases h
  | .ty _, _, h, _ => by cases h
  | .scr _, _, h, _ => by cases h
  | .lst ds, v, h, r => by
    obtain ⟨a, vs, rfl, ha, _, ra⟩ := rep_of_lst r
    unfold pd
    exact .lst (.inl (.inl ha)) (dps_of h ra)
  | .tup ds, v, h, r => by
    obtain ⟨a, vs, rfl, ha, ra⟩ := rep_of_tup r
    unfold pd
    exact .tup (sqT_of ha) (dps_of h ra)
theorem dps_of {M : Mu} {H : Hp} : ∀ {ds : List D} {vs : List V}, plains ds = true → Reps K M H ds vs → DpAll K H vs (pds ds)
  | [], vs, _, r => by cases (show vs = [] from r); exact .nil
  | d :: ds, vs, h, r => by
    obtain ⟨v, u, rfl, r1, r2⟩ := r.uncons
    have h2 : plain d = true ∧ plains ds = true := by
      have : (plain d && plains ds) = true := h
      rwa [Bool.and_eq_true] at this
    exact .cons (dp_of h2.1 r1) (dps_of h2.2 r2)
end
/-- fit for == -/
def eqOk (d : D) : Bool := plain d && SeqAt.shaped (pd d)
/-- scalars of unlike kinds that are never equal -/
def unlike : D → D → Bool
  | .non, .int _ => true | .int _, .non => true | .non, .bl _ => true | .bl _, .non => true | .non, .str _ => true | .str _, .non => true
  | .int _, .str _ => true | .str _, .int _ => true | .bl _, .str _ => true | .str _, .bl _ => true
  | _, _ => false
def gEqN (nb : Bool → Bool) : DOp := fun x y M Q => match x, y with
  | .int i, .int j => Q (.bl (nb (decide (i = j)))) M
  | .str a, .str b => Q (.bl (nb (decide (a = b)))) M
  | .bl a, .bl b => Q (.bl (nb (decide (a = b)))) M
  | .non, .non => Q (.bl (nb true)) M
  | .lst a, .lst b => eqOk (.lst a) = true ∧ eqOk (.lst b) = true ∧ Q (.bl (nb (PyData.eqv (.list (pds a)) (.list (pds b))))) M
  | .tup a, .tup b => eqOk (.tup a) = true ∧ eqOk (.tup b) = true ∧ Q (.bl (nb (PyData.eqv (.tuple (pds a)) (.tuple (pds b))))) M
  | .ref p, .lst b => (match M p with
    | some (.lst a) => eqOk (.lst a) = true ∧ eqOk (.lst b) = true ∧ Q (.bl (nb (PyData.eqv (.list (pds a)) (.list (pds b))))) M
    | _ => False)
  | .lst a, .ref p => (match M p with
    | some (.lst b) => eqOk (.lst a) = true ∧ eqOk (.lst b) = true ∧ Q (.bl (nb (PyData.eqv (.list (pds a)) (.list (pds b))))) M
    | _ => False)
  | x, y => unlike x y = true ∧ Q (.bl (nb false)) M
abbrev gEq : DOp := gEqN id
abbrev gNe : DOp := gEqN not
def rEqN (nb : Bool → Bool) (K : PySem.W.Frag) : R2 := fun x y H Q => (scal x y = true ∧ Q (.bl (nb (decide (x = y)))) H) ∨ ∃ d e, Dp K H x d ∧ Dp K H y e ∧ SeqAt.shaped d = true ∧ SeqAt.shaped e = true ∧ Q (.bl (nb (PyData.eqv d e))) H
theorem op_eqN {X : Cx} {W : WX} (G : Gd X W) : OpR X (compareOp .Eq) (rEqN id X.K) := op_eq.or (op_eqD G.hu)
theorem op_neN {X : Cx} {W : WX} (G : Gd X W) : OpR X (compareOp .NotEq) (rEqN not X.K) := op_ne.or (op_neD G.hu)
theorem ba {a b : Bool} (h : (a && b) = true) : a = true ∧ b = true := Bool.and_eq_true_iff.mp h
theorem dp_mu {M : Mu} {H : Hp} {a : Addr} {ds : List D} (c : Cor K M H) (h : M a = some (.lst ds)) (p : plain (.lst ds) = true) : Dp K H (.ref a) (pd (.lst ds)) := by
  obtain ⟨vs, ha, ra⟩ := mu_lst c h
  unfold pd
  exact .lst (.inl (.inl ha)) (dps_of p ra)
theorem od_eq {nb : Bool → Bool} : OpD K (gEqN nb) (rEqN nb K) := fun M H x y v u Q0 Q c rx ry h q => by
  have fin : ∀ b, Q0 (.bl b) M → Q (.bl b) H := fun b z => q _ M _ H z rfl c (Stp.refl M H)
  have deep : ∀ {x y : D} {v u : V}, Dp K H v (pd x) → Dp K H u (pd y) → eqOk x = true → eqOk y = true → Q0 (.bl (nb (PyData.eqv (pd x) (pd y)))) M → rEqN nb K v u H Q := fun {x y v u} d1 d2 ex ey z =>
    .inr ⟨_, _, d1, d2, (ba ex).2, (ba ey).2, fin _ z⟩
  have un : ∀ b, unlike x y = true → b = false → Q0 (.bl (nb b)) M → scal v u = true → decide (v = u) = false → rEqN nb K v u H Q := fun b _ eb z s e => .inl ⟨s, by rw [e, ← eb]; exact fin _ z⟩
  cases x with
  | non => cases y <;> first
    | (cases rx; cases ry; exact .inl ⟨rfl, fin _ h⟩)
    | (cases rx; cases ry; exact .inl ⟨rfl, fin _ h.2⟩)
    | exact absurd h.1 Bool.false_ne_true
  | bl a => cases y <;> first
    | (cases rx; cases ry; refine .inl ⟨rfl, ?_⟩; rename_i b; rw [show decide (V.bl a = V.bl b) = decide (a = b) by simp]; exact fin _ h)
    | (cases rx; cases ry; exact .inl ⟨rfl, fin _ h.2⟩)
    | exact absurd h.1 Bool.false_ne_true
  | int a => cases y <;> first
    | (cases rx; cases ry; refine .inl ⟨rfl, ?_⟩; rename_i b; rw [show decide (V.int a = V.int b) = decide (a = b) by simp]; exact fin _ h)
    | (cases rx; cases ry; exact .inl ⟨rfl, fin _ h.2⟩)
    | exact absurd h.1 Bool.false_ne_true
  | str a => cases y <;> first
    | (cases rx; cases ry; refine .inl ⟨rfl, ?_⟩; rename_i b; rw [show decide (V.str (sx a) = V.str (sx b)) = decide (a = b) by
          rw [decide_eq_decide]; exact ⟨fun z => sx_inj (V.str.inj z), fun z => by rw [z]⟩]; exact fin _ h)
    | (cases rx; cases ry; exact .inl ⟨rfl, fin _ h.2⟩)
    | exact absurd h.1 Bool.false_ne_true
  | lst a => cases y with
    | lst b => exact deep (x := .lst a) (y := .lst b) (dp_of (ba h.1).1 rx) (dp_of (ba h.2.1).1 ry) h.1 h.2.1 (by unfold pd; exact h.2.2)
    | ref p =>
      cases ry
      have h2 : (match M p with
        | some (.lst b) => eqOk (.lst a) = true ∧ eqOk (.lst b) = true ∧ Q0 (.bl (nb (PyData.eqv (.list (pds a)) (.list (pds b))))) M
        | _ => False) := h
      cases e : M p with
      | none => rw [e] at h2; exact h2.elim
      | some mo =>
        rw [e] at h2
        cases mo with
        | lst b => exact deep (x := .lst a) (y := .lst b) (dp_of (ba h2.1).1 rx) (dp_mu c e (ba h2.2.1).1) h2.1 h2.2.1 (by unfold pd; exact h2.2.2)
        | _ => exact h2.elim
    | _ => exact absurd h.1 Bool.false_ne_true
  | tup a => cases y with
    | tup b => exact deep (x := .tup a) (y := .tup b) (dp_of (ba h.1).1 rx) (dp_of (ba h.2.1).1 ry) h.1 h.2.1 (by unfold pd; exact h.2.2)
    | _ => exact absurd h.1 Bool.false_ne_true
  | ref p => cases y with
    | lst b =>
      cases rx
      have h2 : (match M p with
        | some (.lst a) => eqOk (.lst a) = true ∧ eqOk (.lst b) = true ∧ Q0 (.bl (nb (PyData.eqv (.list (pds a)) (.list (pds b))))) M
        | _ => False) := h
      cases e : M p with
      | none => rw [e] at h2; exact h2.elim
      | some mo =>
        rw [e] at h2
        cases mo with
        | lst a => exact deep (x := .lst a) (y := .lst b) (dp_mu c e (ba h2.1).1) (dp_of (ba h2.2.1).1 ry) h2.1 h2.2.1 (by unfold pd; exact h2.2.2)
        | _ => exact h2.elim
    | _ => exact absurd h.1 Bool.false_ne_true
  | ty _ => cases y <;> exact absurd h.1 Bool.false_ne_true
  | scr _ => cases y <;> exact absurd h.1 Bool.false_ne_true
end
end DL

namespace DL
open PySem L2

/-! ### a[i] -/
def lookK (kvs : List (DKey × D)) (k : DKey) : Option D := (kvs.find? fun q => decide (q.1 = k)).map (·.2)
def gIx : DOp := fun x y M Q => match x, y with
  | .lst ds, .int i => (match atI ds i with
    | some d => Q d M
    | none => False)
  | .tup ds, .int i => (match atI ds i with
    | some d => Q d M
    | none => False)
  | .str x, .int i => x.length ≤ 16777216 ∧ (match atI x i with
    | some c => Q (.str [c]) M
    | none => False)
  | .ref a, .int i => (match M a with
    | some (.lst ds) => (match atI ds i with
      | some d => Q d M
      | none => False)
    | some (.dK kvs) => (match lookK kvs (.inl i) with
      | some d => Q d M
      | none => False)
    | some (.fK kvs _) => (match lookK kvs (.inl i) with
      | some d => Q d M
      | none => False)
    | _ => False)
  | .ref a, .str x => (match M a with
    | some (.dK kvs) => (match lookK kvs (.inr x) with
      | some d => Q d M
      | none => False)
    | some (.fK kvs _) => (match lookK kvs (.inr x) with
      | some d => Q d M
      | none => False)
    | _ => False)
  | _, _ => False
section
variable {K : PySem.W.Frag} {M : Mu} {H : Hp}
theorem atI_rep {ds : List D} {vs : List V} {i : Int} {d : D} (r : Reps K M H ds vs) (h : atI ds i = some d) : ∃ v, atI vs i = some v ∧ Rep K M H d v := by
  unfold atI at h ⊢
  rw [r.length]
  cases e : ixN ds.length i with
  | none => rw [e] at h; cases h
  | some j =>
    rw [e] at h
    exact r.get h
theorem kO_dec (a b : DKey) : decide (kO a = kO b) = decide (a = b) := decide_eq_decide.mpr ⟨kO_inj, fun e => by rw [e]⟩
theorem look_rep {k : DKey} : ∀ {kvs : List (DKey × D)} {ks : List (Key × V)}, ks.map (·.1) = kvs.map (fun q => kO q.1) → Reps K M H (kvs.map (·.2)) (ks.map (·.2)) →
    match lookK kvs k with
    | some d => ∃ v, valV ks (kO k) = some v ∧ Rep K M H d v
    | none => valV ks (kO k) = none
  | [], [], _, _ => rfl
  | [], _ :: _, h, _ => by cases h
  | _ :: _, [], h, _ => by cases h
  | (a, d) :: kvs, (b, v) :: ks, h, r => by
    have h1 : b = kO a ∧ ks.map (·.1) = kvs.map (fun q => kO q.1) := by
      simp only [List.map_cons, List.cons.injEq] at h
      exact h
    obtain ⟨v', u', e, r1, r2⟩ := r.uncons
    have e2 : v = v' ∧ ks.map (·.2) = u' := by
      simp only [List.map_cons, List.cons.injEq] at e
      exact e
    have ih := look_rep (k := k) h1.2 (by rw [e2.2]; exact r2)
    unfold lookK valV
    rw [List.find?_cons, List.find?_cons]
    show match Option.map (fun z : DKey × D => z.2) (match decide (a = k) with | true => some (a, d) | false => kvs.find? fun q => decide (q.1 = k)) with
      | some d => ∃ w, Option.map (fun z : Key × V => z.2) (match decide (b = kO k) with | true => some (b, v) | false => ks.find? fun q => decide (q.1 = kO k)) = some w ∧ Rep K M H d w
      | none => _
    rw [h1.1, kO_dec]
    cases q : decide (a = k) with
    | true => exact ⟨v, rfl, by rw [e2.1]; exact r1⟩
    | false => exact ih
end
def rIxA (K : PySem.W.Frag) : R2 := fun x y H Q => (rIx K x y H Q) ∨ ∃ a v, x = .ref a ∧ DGet H a y (some v) ∧ Q v H
theorem ix_dict {X : Cx} {W : WX} (G : Gd X W) : IxR X (fun x y H Q => ∃ a v, x = .ref a ∧ DGet H a y (some v) ∧ Q v H) := by
  intro value slice pins s σ H x y v u Q I rx ry h hs
  obtain ⟨a, w, rfl, g, q⟩ := h
  cases rx
  exact PyProof.Rows.tail_any (dict_typeIs I g) PySem.F.slot_dict_getitem.lookup (d_getItem G.hu1 I g ry fun w' s3 I3 rw' => ⟨w, H, I3, rw', q⟩) hs
section
variable {K : PySem.W.Frag}
theorem od_ix : OpD K gIx (rIxA K) := fun M H x y v u Q0 Q c rx ry h q => by
  have fin : ∀ d w, Q0 d M → Rep K M H d w → Q w H := fun d w z r => q _ M _ H z r c (Stp.refl M H)
  cases x with
  | lst ds =>
    cases y with
    | int i =>
      obtain ⟨a, vs, rfl, ha, ma, ra⟩ := rep_of_lst rx
      cases ry
      have h2 : (match atI ds i with
        | some d => Q0 d M
        | none => False) := h
      cases e : atI ds i with
      | none => rw [e] at h2; exact h2.elim
      | some d =>
        rw [e] at h2
        obtain ⟨w, e2, r2⟩ := atI_rep ra e
        exact .inl (.inl ⟨a, vs, i, w, rfl, rfl, .inl (.inl ha), e2, fin d w h2 r2⟩)
    | _ => exact h.elim
  | tup ds =>
    cases y with
    | int i =>
      obtain ⟨a, vs, rfl, ha, ra⟩ := rep_of_tup rx
      cases ry
      have h2 : (match atI ds i with
        | some d => Q0 d M
        | none => False) := h
      cases e : atI ds i with
      | none => rw [e] at h2; exact h2.elim
      | some d =>
        rw [e] at h2
        obtain ⟨w, e2, r2⟩ := atI_rep ra e
        exact .inl (.inr (.inl ⟨a, vs, i, w, rfl, rfl, sqT_of ha, e2, fin d w h2 r2⟩))
    | _ => exact h.elim
  | str x =>
    cases y with
    | int i =>
      cases rx; cases ry
      obtain ⟨h1, h2⟩ : x.length ≤ 16777216 ∧ (match atI x i with
        | some c => Q0 (.str [c]) M
        | none => False) := h
      cases e : atI x i with
      | none => rw [e] at h2; exact h2.elim
      | some d =>
        rw [e] at h2
        exact .inl (.inr (.inr ⟨sx x, i, d, rfl, rfl, by rw [sx_len, line24]; exact h1, e, fin _ _ h2 rfl⟩))
    | _ => exact h.elim
  | ref a =>
    cases rx
    cases y with
    | int i =>
      cases ry
      have h2 : (match M a with
        | some (.lst ds) => (match atI ds i with
          | some d => Q0 d M
          | none => False)
        | some (.dK kvs) => (match lookK kvs (.inl i) with
          | some d => Q0 d M
          | none => False)
        | some (.fK kvs _) => (match lookK kvs (.inl i) with
          | some d => Q0 d M
          | none => False)
        | _ => False) := h
      cases e : M a with
      | none => rw [e] at h2; exact h2.elim
      | some mo =>
        rw [e] at h2
        cases mo with
        | lst ds =>
          obtain ⟨vs, ha, ra⟩ := mu_lst c e
          have h3 : (match atI ds i with
            | some d => Q0 d M
            | none => False) := h2
          cases e : atI ds i with
          | none => rw [e] at h3; exact h3.elim
          | some d =>
            rw [e] at h3
            obtain ⟨w, e2, r2⟩ := atI_rep ra e
            exact .inl (.inl ⟨a, vs, i, w, rfl, rfl, .inl (.inl ha), e2, fin d w h3 r2⟩)
        | dK kvs =>
          obtain ⟨ks, ha, ek, ra⟩ := mu_dK c e
          have h3 : (match lookK kvs (.inl i) with
            | some d => Q0 d M
            | none => False) := h2
          have l := look_rep (k := .inl i) ek ra
          cases e : lookK kvs (.inl i) with
          | none => rw [e] at h3; exact h3.elim
          | some d =>
            rw [e] at h3 l
            obtain ⟨w, e2, r2⟩ := l
            exact .inr ⟨a, w, rfl, .inl ⟨ks, .inl i, .inl ha, rfl, e2.symm⟩, fin d w h3 r2⟩
        | fK kvs fu =>
          obtain ⟨od, ks, ha, _, ek, ra⟩ := mu_fK c e
          have h3 : (match lookK kvs (.inl i) with
            | some d => Q0 d M
            | none => False) := h2
          have l := look_rep (k := .inl i) ek ra
          cases e : lookK kvs (.inl i) with
          | none => rw [e] at h3; exact h3.elim
          | some d =>
            rw [e] at h3 l
            obtain ⟨w, e2, r2⟩ := l
            exact .inr ⟨a, w, rfl, .inl ⟨ks, .inl i, .inr ⟨od, ha⟩, rfl, e2.symm⟩, fin d w h3 r2⟩
        | _ => exact h2.elim
    | str x =>
      cases ry
      have h2 : (match M a with
        | some (.dK kvs) => (match lookK kvs (.inr x) with
          | some d => Q0 d M
          | none => False)
        | some (.fK kvs _) => (match lookK kvs (.inr x) with
          | some d => Q0 d M
          | none => False)
        | _ => False) := h
      cases e : M a with
      | none => rw [e] at h2; exact h2.elim
      | some mo =>
        rw [e] at h2
        cases mo with
        | dK kvs =>
          obtain ⟨ks, ha, ek, ra⟩ := mu_dK c e
          have h3 : (match lookK kvs (.inr x) with
            | some d => Q0 d M
            | none => False) := h2
          have l := look_rep (k := .inr x) ek ra
          cases e : lookK kvs (.inr x) with
          | none => rw [e] at h3; exact h3.elim
          | some d =>
            rw [e] at h3 l
            obtain ⟨w, e2, r2⟩ := l
            exact .inr ⟨a, w, rfl, .inl ⟨ks, .inr (sx x), .inl ha, rfl, e2.symm⟩, fin d w h3 r2⟩
        | fK kvs fu =>
          obtain ⟨od, ks, ha, _, ek, ra⟩ := mu_fK c e
          have h3 : (match lookK kvs (.inr x) with
            | some d => Q0 d M
            | none => False) := h2
          have l := look_rep (k := .inr x) ek ra
          cases e : lookK kvs (.inr x) with
          | none => rw [e] at h3; exact h3.elim
          | some d =>
            rw [e] at h3 l
            obtain ⟨w, e2, r2⟩ := l
            exact .inr ⟨a, w, rfl, .inl ⟨ks, .inr (sx x), .inr ⟨od, ha⟩, rfl, e2.symm⟩, fin d w h3 r2⟩
        | _ => exact h2.elim
    | _ => exact h.elim
  | _ => exact h.elim
end
section
variable {X : Cx} {W : WX} {a b c e o : Expr} {rest es : List Expr} {ta tb tc te to : DTE} {tl : DTA} {pos apos cpos p : Pos}
theorem de_ix (G : Gd X W) (ha : DE X W a ta) (hb : DE X W b tb) (hs : PlainIx b := by intro _ _; rfl) : DE X W (.Subscript a b pos) (dOp gIx ta tb) :=
  PE.of (pe_ix ((ix_seq).or (ix_dict G)) ha hb hs) fun _ _ _ h => lif_op od_ix h

/-! ### in -/
def flatD : D → Bool
  | .non => true
  | .bl _ => true
  | .int _ => true
  | .str _ => true
  | _ => false
def eqF : D → D → Bool
  | .non, .non => true
  | .bl a, .bl b => a == b
  | .bl a, .int b => (if a then 1 else 0) == b
  | .int a, .bl b => a == (if b then 1 else 0)
  | .int a, .int b => a == b
  | .str a, .str b => a == b
  | _, _ => false
def inD (x : D) (ys : List D) : Bool := ys.any fun y => eqF y x
def gInN (nb : Bool → Bool) : DOp := fun x y M Q => match x, y with
  | .str [c], .str z => Q (.bl (nb (decide (c ∈ z)))) M
  | x, .lst ys => flatD x = true ∧ ys.all flatD = true ∧ Q (.bl (nb (inD x ys))) M
  | x, .tup ys => flatD x = true ∧ ys.all flatD = true ∧ Q (.bl (nb (inD x ys))) M
  | .int i, .ref a => (match M a with
    | some (.lst ys) => ys.all flatD = true ∧ Q (.bl (nb (inD (.int i) ys))) M
    | some (.dK kvs) => Q (.bl (nb (lookK kvs (.inl i)).isSome)) M
    | some (.fK kvs _) => Q (.bl (nb (lookK kvs (.inl i)).isSome)) M
    | _ => False)
  | .str x, .ref a => (match M a with
    | some (.lst ys) => ys.all flatD = true ∧ Q (.bl (nb (inD (.str x) ys))) M
    | some (.dK kvs) => Q (.bl (nb (lookK kvs (.inr x)).isSome)) M
    | some (.fK kvs _) => Q (.bl (nb (lookK kvs (.inr x)).isSome)) M
    | _ => False)
  | _, _ => False
abbrev gIn : DOp := gInN id
abbrev gNotIn : DOp := gInN not
def rInN (nb : Bool → Bool) (K : PySem.W.Frag) : R2 := fun x y H Q => (∃ (c : Nat) (z : Str), x = .str ⟨#[c]⟩ ∧ y = .str z ∧ Q (.bl (nb (decide (c ∈ z.cps.toList)))) H) ∨
  (∃ p xs, y = .ref p ∧ (SqL K H p xs ∨ SqT K H p xs) ∧ flatV x = true ∧ xs.all flatV = true ∧ Q (.bl (nb (inV x xs))) H) ∨ ∃ a o, y = .ref a ∧ DGet H a x o ∧ Q (.bl (nb o.isSome)) H
theorem op_inN (G : Gd X W) : OpR X (compareOp .In) (rInN id X.K) := by
  intro pins s σ H x y v u Q I rx ry h
  rcases h with h | ⟨p, xs, e1, e2, e3, e4, h⟩ | ⟨a, o, e, g, h⟩
  · exact op_in_sign pins s σ H x y v u Q I rx ry h
  · exact op_in_seq pins s σ H x y v u Q I rx ry ⟨p, xs, e1, e2, e3, e4, h⟩
  · subst e
    cases ry
    exact d_in G.hu1 I g rx fun s3 I3 => ⟨.bl o.isSome, H, I3, rfl, h⟩
theorem op_notInN (G : Gd X W) : OpR X (compareOp .NotIn) (rInN not X.K) := by
  intro pins s σ H x y v u Q I rx ry h
  rcases h with h | ⟨p, xs, e1, e2, e3, e4, h⟩ | ⟨a, o, e, g, h⟩
  · exact op_notInS pins s σ H x y v u Q I rx ry h
  · exact op_notIn_seq pins s σ H x y v u Q I rx ry ⟨p, xs, e1, e2, e3, e4, h⟩
  · subst e
    cases ry
    exact d_notIn G.hu1 I g rx fun s3 I3 => ⟨.bl (!o.isSome), H, I3, rfl, h⟩
end
section
variable {K : PySem.W.Frag} {M : Mu} {H : Hp}
theorem flat_rep {d : D} {v : V} (f : flatD d = true) (r : Rep K M H d v) : flatV v = true := by
  cases d with
  | non => cases (show v = _ from r); rfl
  | bl _ => cases (show v = _ from r); rfl
  | int _ => cases (show v = _ from r); rfl
  | str _ => cases (show v = _ from r); rfl
  | _ => cases f
theorem eqF_rep {d e : D} {v u : V} (f : flatD d = true) (g : flatD e = true) (r : Rep K M H d v) (s : Rep K M H e u) : eqV v u = eqF d e := by
  cases d <;> first
    | (cases f; done)
    | (cases r; cases e <;> first
      | (cases g; done)
      | (cases s; rfl)
      | (cases s; rename_i a b; show (sx a == sx b) = (a == b); rw [Bool.eq_iff_iff, beq_iff_eq, beq_iff_eq]; exact ⟨sx_inj, fun z => by rw [z]⟩))
theorem in_rep {d : D} {v : V} (f : flatD d = true) (r : Rep K M H d v) : ∀ {ds : List D} {vs : List V}, ds.all flatD = true → Reps K M H ds vs → vs.all flatV = true ∧ inV v vs = inD d ds
  | [], vs, _, h => by cases h.unnil; exact ⟨rfl, rfl⟩
  | e :: ds, vs, g, h => by
    obtain ⟨u, us, rfl, h1, h2⟩ := h.uncons
    rw [List.all_cons, Bool.and_eq_true] at g
    obtain ⟨i1, i2⟩ := in_rep f r g.2 h2
    refine ⟨by rw [List.all_cons, Bool.and_eq_true]; exact ⟨flat_rep g.1 h1, i1⟩, ?_⟩
    show (eqV u v || inV v us) = (eqF e d || inD d ds)
    rw [eqF_rep g.1 f h1 r, i2]
theorem od_in {nb : Bool → Bool} : OpD K (gInN nb) (rInN nb K) := fun M H x y v u Q0 Q c rx ry h q => by
  have fin : ∀ b, Q0 (.bl b) M → Q (.bl b) H := fun b z => q _ M _ H z rfl c (Stp.refl M H)
  have seq : ∀ {x : D} {v : V} {ys : List D} {p : Addr} {us : List V}, Rep K M H x v → (SqL K H p us ∨ SqT K H p us) → Reps K M H ys us → flatD x = true → ys.all flatD = true → Q0 (.bl (nb (inD x ys))) M → rInN nb K v (.ref p) H Q :=
    fun {x v ys p us} r1 s r2 f g z => by
      obtain ⟨i1, i2⟩ := in_rep f r1 g r2
      exact .inr (.inl ⟨p, us, rfl, s, flat_rep f r1, i1, by rw [i2]; exact fin _ z⟩)
  have dic : ∀ {k : DKey} {kvs : List (DKey × D)} {p : Addr} {mo : MO}, M p = some mo → dOf mo = some kvs → Q0 (.bl (nb (lookK kvs k).isSome)) M → rInN nb K (kV (kO k)) (.ref p) H Q := fun {k kvs p mo} e ed z => by
    obtain ⟨ks, ha, ek, ra⟩ := mu_dR c e ed
    have l := look_rep (k := k) ek ra
    refine .inr (.inr ⟨p, valV ks (kO k), rfl, .inl ⟨ks, kO k, ha, rfl, rfl⟩, ?_⟩)
    cases e2 : lookK kvs k with
    | none => rw [e2] at l z; rw [l]; exact fin _ z
    | some d =>
      rw [e2] at l z
      obtain ⟨w, e3, _⟩ := l
      rw [e3]
      exact fin _ z
  have lstC : ∀ {ys : List D}, y = .lst ys → flatD x = true ∧ ys.all flatD = true ∧ Q0 (.bl (nb (inD x ys))) M → rInN nb K v u H Q := fun {ys} e z => by
    subst e
    obtain ⟨b, us, rfl, hb, mb, rb⟩ := rep_of_lst ry
    exact seq rx (.inl (.inl (.inl hb))) rb z.1 z.2.1 z.2.2
  have tupC : ∀ {ys : List D}, y = .tup ys → flatD x = true ∧ ys.all flatD = true ∧ Q0 (.bl (nb (inD x ys))) M → rInN nb K v u H Q := fun {ys} e z => by
    subst e
    obtain ⟨b, us, rfl, hb, rb⟩ := rep_of_tup ry
    exact seq rx (.inr (sqT_of hb)) rb z.1 z.2.1 z.2.2
  cases y with
  | str z =>
    cases x with
    | str w =>
      cases w with
      | nil => exact h.elim
      | cons a l => cases l with
        | nil =>
          cases rx; cases ry
          exact .inl ⟨a, sx z, rfl, rfl, fin _ h⟩
        | cons _ _ => exact h.elim
    | _ => exact h.elim
  | lst ys => cases x <;> first
    | exact lstC rfl h
    | (rename_i w; cases w with
      | nil => exact lstC rfl h
      | cons a l => cases l <;> exact lstC rfl h)
  | tup ys => cases x <;> first
    | exact tupC rfl h
    | (rename_i w; cases w with
      | nil => exact tupC rfl h
      | cons a l => cases l <;> exact tupC rfl h)
  | ref p =>
    cases ry
    cases x with
    | int i =>
      cases rx
      have h2 : (match M p with
        | some (.lst ys) => ys.all flatD = true ∧ Q0 (.bl (nb (inD (.int i) ys))) M
        | some (.dK kvs) => Q0 (.bl (nb (lookK kvs (.inl i)).isSome)) M
        | some (.fK kvs _) => Q0 (.bl (nb (lookK kvs (.inl i)).isSome)) M
        | _ => False) := h
      cases e : M p with
      | none => rw [e] at h2; exact h2.elim
      | some mo =>
        rw [e] at h2
        cases mo with
        | lst ys =>
          obtain ⟨vs, ha, ra⟩ := mu_lst c e
          exact seq (x := .int i) rfl (.inl (.inl (.inl ha))) ra rfl h2.1 h2.2
        | dK kvs => exact dic (k := .inl i) e rfl h2
        | fK kvs fu => exact dic (k := .inl i) e rfl h2
        | _ => exact h2.elim
    | str x =>
      cases rx
      have h2 : (match M p with
        | some (.lst ys) => ys.all flatD = true ∧ Q0 (.bl (nb (inD (.str x) ys))) M
        | some (.dK kvs) => Q0 (.bl (nb (lookK kvs (.inr x)).isSome)) M
        | some (.fK kvs _) => Q0 (.bl (nb (lookK kvs (.inr x)).isSome)) M
        | _ => False) := by
        cases x with
        | nil => exact h
        | cons a l => cases l <;> exact h
      cases e : M p with
      | none => rw [e] at h2; exact h2.elim
      | some mo =>
        rw [e] at h2
        cases mo with
        | lst ys =>
          obtain ⟨vs, ha, ra⟩ := mu_lst c e
          exact seq (x := .str x) rfl (.inl (.inl (.inl ha))) ra rfl h2.1 h2.2
        | dK kvs => exact dic (k := .inr x) e rfl h2
        | fK kvs fu => exact dic (k := .inr x) e rfl h2
        | _ => exact h2.elim
    | _ => exact h.elim
  | _ => cases x <;> first
    | exact h.elim
    | (rename_i w; cases w with
      | nil => exact h.elim
      | cons a l => cases l <;> exact h.elim)
end
end DL

namespace DL
open PySem L2

/-! ### built-in functions -/
abbrev DCb := List D → Mu → DK → Prop
def dCB (g : DCb) (ta : DTA) : DTE := fun τ M Q E => ta τ M (fun ds M1 => g ds M1 Q) E
def CbD (K : PySem.W.Frag) (g : DCb) (r : List V → Hp → VK → Prop) : Prop := ∀ (M : Mu) (H : Hp) (xs : List D) (vs : List V) (Q0 : DK) (Q : VK), Cor K M H → Reps K M H xs vs → g xs M Q0 →
  (∀ d M' z H', Q0 d M' → Rep K M' H' d z → Cor K M' H' → Stp M H M' H' → Q z H') → r vs H Q
section
variable {X : Cx} {W : WX} {a b c e o : Expr} {rest es : List Expr} {ta tb tc te to : DTE} {tl : DTA} {pos apos cpos p : Pos} {x : Str} {id T : String} {g : DCb} {r : List V → Hp → VK → Prop}
theorem lif_cb (k : CbD X.K g r) {σ : L2.St} {H : Hp} {Q : VK} (h : lif X.K W (RD X.K) (dCB g tl) σ H Q) : tCB r (lif X.K W (RA X.K) tl) σ H Q := by
  obtain ⟨τ, M, Q0, E0, S, h⟩ := h
  exact S.sub h fun ds M1 vs H1 h1 r1 S1 s1 => k M1 H1 ds vs Q0 Q S1.co r1 h1 S1.q
theorem de_callB (k : CbD X.K g r) (hc : CallR X (.builtin id) r) (hm : X.mg x = none) (hv : bootBuiltins x = some (.builtin id)) (ha : DA X W (e :: es) tl) (hg : Gl X x := by rfl) (hn : x ≠ "__name__" := by decide) (hdb : (x == ("__debug__" : Str)) = false := by decide)
    (he : starEach (e :: es) X.env = (false, eval e X.env) :: starEach es X.env := by rfl) (hpl : (backTo pos (starEach es X.env)).any (·.1) = false := by rfl) : DE X W (.Call (.Name x p) (e :: es) [] pos) (dCB g tl) :=
  PE.of (pe_callB hc hg hm hv ha hn hdb he hpl) fun _ _ _ h => lif_cb k h
theorem de_callTy (k : CbD X.K g r) (hc : CallR X (.type T) r) (hm : X.mg x = none) (hv : bootBuiltins x = some (.type T)) (ha : DA X W (e :: es) tl) (hg : Gl X x := by rfl) (hn : x ≠ "__name__" := by decide) (hdb : (x == ("__debug__" : Str)) = false := by decide)
    (he : starEach (e :: es) X.env = (false, eval e X.env) :: starEach es X.env := by rfl) (hpl : (backTo pos (starEach es X.env)).any (·.1) = false := by rfl) : DE X W (.Call (.Name x p) (e :: es) [] pos) (dCB g tl) :=
  PE.of (pe_callTy hc hg hm hv ha hn hdb he hpl) fun _ _ _ h => lif_cb k h
/-- the name of a built-in class -/
theorem de_ty (hm : X.mg x = none) (hv : bootBuiltins x = some (.type T)) (hg : Gl X x := by rfl) (hn : x ≠ "__name__" := by decide) (hdb : (x == ("__debug__" : Str)) = false := by decide) : DE X W (.Name x pos) (dC (.ty T)) :=
  de_c (t0 := tC .non) (pe_bltn (v := .ty T) hg hm hv rfl hn hdb) fun _ _ => rfl
end
def gLen : DCb := fun xs M Q => match xs with
  | [.str x] => x.length ≤ 16777216 ∧ Q (.int x.length) M
  | [.lst ds] => Q (.int ds.length) M
  | [.tup ds] => Q (.int ds.length) M
  | [.ref a] => (match M a with
    | some (.lst ds) => Q (.int ds.length) M
    | some (.dK kvs) => Q (.int kvs.length) M
    | _ => False)
  | _ => False
def gInt1 : DCb := fun xs M Q => match xs with
  | [.int i] => Q (.int i) M
  | [.bl b] => Q (.int (if b then 1 else 0)) M
  | _ => False
def gMin2 : DCb := fun xs M Q => match xs with
  | [.int i, .int j] => Q (.int (if j < i then j else i)) M
  | _ => False
def gMax2 : DCb := fun xs M Q => match xs with
  | [.int i, .int j] => Q (.int (if j > i then j else i)) M
  | _ => False
def gList : DCb := fun xs M Q => match xs with
  | [.lst ds] => Q (.lst ds) M
  | [.tup ds] => Q (.lst ds) M
  | [.scr ns] => Q (.lst (ns.map D.int)) M
  | [.ref a] => (match M a with
    | some (.lst ds) => Q (.lst ds) M
    | _ => False)
  | _ => False
def gListM : DCb := fun xs M Q => match xs with
  | [.lst ds] => ∀ p, M p = none → Q (.ref p) (put M p (.lst ds))
  | [.tup ds] => ∀ p, M p = none → Q (.ref p) (put M p (.lst ds))
  | [.scr ns] => ∀ p, M p = none → Q (.ref p) (put M p (.lst (ns.map D.int)))
  | [.ref a] => (match M a with
    | some (.lst ds) => ∀ p, M p = none → Q (.ref p) (put M p (.lst ds))
    | _ => False)
  | _ => False
def tyD (M : Mu) : D → Option String
  | .non => some "NoneType"
  | .bl _ => some "bool"
  | .int _ => some "int"
  | .str _ => some "str"
  | .lst _ => some "list"
  | .tup _ => some "tuple"
  | .ref a => (match M a with
    | some (.lst _) => some "list"
    | some (.dK _) => some "dict"
    | _ => none)
  | .ty _ => none
  | .scr _ => none
def isaB (a b : String) : Bool := a == b || (a == "bool" && b == "int")
def gIsi : DCb := fun xs M Q => match xs with
  | [d, .ty T] => (match tyD M d with
    | some n => ["bool", "int", "str", "list", "tuple", "dict"].contains T = true ∧ Q (.bl (isaB n T)) M
    | none => False)
  | _ => False
theorem kit_isa : (["NoneType", "bool", "int", "str", "list", "tuple", "dict"].all fun a => ["bool", "int", "str", "list", "tuple", "dict"].all fun b => decide (kitB a b = some (isaB a b))) = true := by decide +kernel
theorem kit_is {a b : String} (ha : a ∈ ["NoneType", "bool", "int", "str", "list", "tuple", "dict"]) (hb : ["bool", "int", "str", "list", "tuple", "dict"].contains b = true) : kitB a b = some (isaB a b) :=
  of_decide_eq_true (List.all_eq_true.mp (List.all_eq_true.mp kit_isa a ha) b (by simpa using hb))
def rLenA (K : PySem.W.Frag) : List V → Hp → VK → Prop := fun xs H Q => (∃ p ys, xs = [.ref p] ∧ (SqL K H p ys ∨ SqT K H p ys) ∧ Q (.int ys.length) H) ∨ ((∃ z, xs = [.str z] ∧ z.length ≤ sizeLine ∧ Q (.int z.length) H) ∨ ∃ p kvs, xs = [.ref p] ∧ H p = some (.dK kvs) ∧ Q (.int kvs.length) H)
section
variable {K : PySem.W.Frag}
theorem cb_len : CbD K gLen (rLenA K) := fun M H xs vs Q0 Q c r h q => by
  have fin : ∀ i : Int, Q0 (.int i) M → Q (.int i) H := fun b z => q _ M _ H z rfl c (Stp.refl M H)
  match xs, h with
  | [.str x], h =>
    obtain ⟨v, u, rfl, r1, r2⟩ := r.uncons
    cases r2.unnil; cases r1
    refine .inr (.inl ⟨sx x, rfl, by rw [sx_len, line24]; exact h.1, ?_⟩)
    rw [sx_len]
    exact fin _ h.2
  | [.lst ds], h =>
    obtain ⟨v, u, rfl, r1, r2⟩ := r.uncons
    cases r2.unnil
    obtain ⟨a, vs, rfl, ha, ma, ra⟩ := rep_of_lst r1
    exact .inl ⟨a, vs, rfl, .inl (.inl (.inl ha)), by rw [ra.length]; exact fin _ h⟩
  | [.tup ds], h =>
    obtain ⟨v, u, rfl, r1, r2⟩ := r.uncons
    cases r2.unnil
    obtain ⟨a, vs, rfl, ha, ra⟩ := rep_of_tup r1
    exact .inl ⟨a, vs, rfl, .inr (sqT_of ha), by rw [ra.length]; exact fin _ h⟩
  | [.ref a], h =>
    obtain ⟨v, u, rfl, r1, r2⟩ := r.uncons
    cases r2.unnil; cases r1
    have h2 : (match M a with
      | some (.lst ds) => Q0 (.int ds.length) M
      | some (.dK kvs) => Q0 (.int kvs.length) M
      | _ => False) := h
    cases e : M a with
    | none => rw [e] at h2; exact h2.elim
    | some mo =>
      rw [e] at h2
      cases mo with
      | lst ds =>
        obtain ⟨vs, ha, ra⟩ := mu_lst c e
        exact .inl ⟨a, vs, rfl, .inl (.inl (.inl ha)), by rw [ra.length]; exact fin _ h2⟩
      | dK kvs =>
        obtain ⟨ks, ha, ek, ra⟩ := mu_dK c e
        have l := congrArg List.length ek
        rw [List.length_map, List.length_map] at l
        exact .inr (.inr ⟨a, ks, rfl, ha, by rw [l]; exact fin _ h2⟩)
      | _ => exact h2.elim
theorem cb_int : CbD K gInt1 (fun xs H Q => (∃ i, xs = [.int i] ∧ Q (.int i) H) ∨ ∃ k, xs = [.bl k] ∧ Q (.int (if k then 1 else 0)) H) := fun M H xs vs Q0 Q c r h q => by
  match xs, h with
  | [.int i], h =>
    obtain ⟨v, u, rfl, r1, r2⟩ := r.uncons
    cases r2.unnil; cases r1
    exact .inl ⟨i, rfl, q _ M _ H h rfl c (Stp.refl M H)⟩
  | [.bl i], h =>
    obtain ⟨v, u, rfl, r1, r2⟩ := r.uncons
    cases r2.unnil; cases r1
    exact .inr ⟨i, rfl, q _ M _ H h rfl c (Stp.refl M H)⟩
theorem cb_min : CbD K gMin2 (fun xs H Q => ∃ i j, xs = [.int i, .int j] ∧ Q (.int (if j < i then j else i)) H) := fun M H xs vs Q0 Q c r h q => by
  match xs, h with
  | [.int i, .int j], h =>
    obtain ⟨v, u, rfl, r1, r2⟩ := r.uncons
    obtain ⟨v, u, rfl, r3, r4⟩ := r2.uncons
    cases r4.unnil; cases r1; cases r3
    exact ⟨i, j, rfl, q _ M _ H h rfl c (Stp.refl M H)⟩
theorem cb_max : CbD K gMax2 (fun xs H Q => ∃ i j, xs = [.int i, .int j] ∧ Q (.int (if j > i then j else i)) H) := fun M H xs vs Q0 Q c r h q => by
  match xs, h with
  | [.int i, .int j], h =>
    obtain ⟨v, u, rfl, r1, r2⟩ := r.uncons
    obtain ⟨v, u, rfl, r3, r4⟩ := r2.uncons
    cases r4.unnil; cases r1; cases r3
    exact ⟨i, j, rfl, q _ M _ H h rfl c (Stp.refl M H)⟩
abbrev rListA (K : PySem.W.Frag) : List V → Hp → VK → Prop := fun xs H Q => ∃ p ys, xs = [.ref p] ∧ (SqL K H p ys ∨ SqT K H p ys) ∧ ∀ l, H l = none → Q (.ref l) (upd H l (.lst ys))
theorem scr_sq {M : Mu} {H : Hp} {a : Addr} {vs : List V} (h : ((∃ o, H a = some (.frz o (.lst vs))) ∧ M a = none) ∨ WrL K a vs) : SqL K H a vs := h.elim (fun q => .inl (.inr q.1)) .inr
theorem cb_list : CbD K gList (rListA K) := fun M H xs vs Q0 Q c r h q => by
  match xs, h with
  | [.lst ds], h =>
    obtain ⟨v, u, rfl, r1, r2⟩ := r.uncons
    cases r2.unnil
    obtain ⟨a, vs, rfl, ha, ma, ra⟩ := rep_of_lst r1
    exact ⟨a, vs, rfl, .inl (.inl (.inl ha)), new_lst c ra h q⟩
  | [.tup ds], h =>
    obtain ⟨v, u, rfl, r1, r2⟩ := r.uncons
    cases r2.unnil
    obtain ⟨a, vs, rfl, ha, ra⟩ := rep_of_tup r1
    exact ⟨a, vs, rfl, .inr (sqT_of ha), new_lst c ra h q⟩
  | [.scr ns], h =>
    obtain ⟨v, u, rfl, r1, r2⟩ := r.uncons
    cases r2.unnil
    obtain ⟨a, rfl, ha⟩ := (show ∃ a, v = .ref a ∧ _ from r1)
    exact ⟨a, _, rfl, .inl (scr_sq ha), new_lst c (Reps.of_ints ns) h q⟩
  | [.ref a], h =>
    obtain ⟨v, u, rfl, r1, r2⟩ := r.uncons
    cases r2.unnil; cases r1
    have h2 : (match M a with
      | some (.lst ds) => Q0 (.lst ds) M
      | _ => False) := h
    cases e : M a with
    | none => rw [e] at h2; exact h2.elim
    | some mo =>
      rw [e] at h2
      cases mo with
      | lst ds =>
        obtain ⟨vs, ha, ra⟩ := mu_lst c e
        exact ⟨a, vs, rfl, .inl (.inl (.inl ha)), new_lst c ra h2 q⟩
      | _ => exact h2.elim
theorem cb_listM : CbD K gListM (rListA K) := fun M H xs vs Q0 Q c r h q => by
  match xs, h with
  | [.lst ds], h =>
    obtain ⟨v, u, rfl, r1, r2⟩ := r.uncons
    cases r2.unnil
    obtain ⟨a, vs, rfl, ha, ma, ra⟩ := rep_of_lst r1
    exact ⟨a, vs, rfl, .inl (.inl (.inl ha)), new_lstM c ra h q⟩
  | [.tup ds], h =>
    obtain ⟨v, u, rfl, r1, r2⟩ := r.uncons
    cases r2.unnil
    obtain ⟨a, vs, rfl, ha, ra⟩ := rep_of_tup r1
    exact ⟨a, vs, rfl, .inr (sqT_of ha), new_lstM c ra h q⟩
  | [.scr ns], h =>
    obtain ⟨v, u, rfl, r1, r2⟩ := r.uncons
    cases r2.unnil
    obtain ⟨a, rfl, ha⟩ := (show ∃ a, v = .ref a ∧ _ from r1)
    exact ⟨a, _, rfl, .inl (scr_sq ha), new_lstM c (Reps.of_ints ns) h q⟩
  | [.ref a], h =>
    obtain ⟨v, u, rfl, r1, r2⟩ := r.uncons
    cases r2.unnil; cases r1
    have h2 : (match M a with
      | some (.lst ds) => ∀ p, M p = none → Q0 (.ref p) (put M p (.lst ds))
      | _ => False) := h
    cases e : M a with
    | none => rw [e] at h2; exact h2.elim
    | some mo =>
      rw [e] at h2
      cases mo with
      | lst ds =>
        obtain ⟨vs, ha, ra⟩ := mu_lst c e
        exact ⟨a, vs, rfl, .inl (.inl (.inl ha)), new_lstM c ra h2 q⟩
      | _ => exact h2.elim
theorem ty_rep {M : Mu} {H : Hp} {d : D} {v : V} {n : String} (c : Cor K M H) (r : Rep K M H d v) (h : tyD M d = some n) : TyX K H v (.type n) ∧ n ∈ ["NoneType", "bool", "int", "str", "list", "tuple", "dict"] := by
  cases d with
  | non => cases r; cases h; exact ⟨.base .non, by decide⟩
  | bl _ => cases r; cases h; exact ⟨.base (.bl _), by decide⟩
  | int _ => cases r; cases h; exact ⟨.base (.int _), by decide⟩
  | str _ => cases r; cases h; exact ⟨.base (.str _), by decide⟩
  | lst ds =>
    cases h
    obtain ⟨a, vs, rfl, ha, ma, ra⟩ := rep_of_lst r
    exact ⟨.base (.lst ha), by decide⟩
  | tup ds =>
    cases h
    obtain ⟨a, vs, rfl, ha, ra⟩ := rep_of_tup r
    refine ⟨?_, by decide⟩
    rcases ha with ha | ⟨o, its, n, e1, e2, _⟩
    · exact .base (.tup ha.1)
    · exact .kTuple e1 e2
  | ref a =>
    cases r
    have h2 : (match M a with
      | some (.lst _) => some "list"
      | some (.dK _) => some "dict"
      | _ => none) = some n := h
    cases e : M a with
    | none => rw [e] at h2; cases h2
    | some mo =>
      rw [e] at h2
      cases mo with
      | lst ds =>
        cases h2
        obtain ⟨vs, ha, ra⟩ := mu_lst c e
        exact ⟨.base (.lst ha), by decide⟩
      | dK kvs =>
        cases h2
        obtain ⟨vs, ha, _, ra⟩ := mu_dK c e
        exact ⟨.base (.dK ha), by decide⟩
      | _ => cases h2
  | ty _ => cases h
  | scr _ => cases h
theorem cb_isi : CbD K gIsi (rIsi K) := fun M H xs vs Q0 Q c r h q => by
  match xs, h with
  | [d, .ty T], h =>
    obtain ⟨v, u, rfl, r1, r2⟩ := r.uncons
    obtain ⟨w, u, rfl, r3, r4⟩ := r2.uncons
    cases r4.unnil; cases r3
    have h2 : (match tyD M d with
      | some n => ["bool", "int", "str", "list", "tuple", "dict"].contains T = true ∧ Q0 (.bl (isaB n T)) M
      | none => False) := h
    cases e : tyD M d with
    | none => rw [e] at h2; exact h2.elim
    | some n =>
      rw [e] at h2
      obtain ⟨t1, t2⟩ := ty_rep c r1 e
      exact ⟨v, .ty T, .type n, .type T, _, rfl, .ty T, t1, kit_ty (kit_is t2 h2.1), q _ M _ H h2.2 rfl c (Stp.refl M H)⟩
end
theorem call_lenA {X : Cx} : CallR X (.builtin "len") (rLenA X.K) := call_len_seq.or (call_len_str.or call_lenD)
end DL

namespace DL
open PySem L2

/-! ### methods of built-in types -/
abbrev DMt := D → List D → Mu → DK → Prop
/-- is the value of that built-in type? -/
def isTy (T : String) (M : Mu) : D → Prop
  | .str _ => T = "str"
  | .lst _ => T = "list"
  | .ref a => match M a with
    | some (.lst _) => T = "list"
    | some (.dK _) => T = "dict"
    | _ => False
  | _ => False
def dMt (T : String) (g : DMt) (to : DTE) (ta : DTA) : DTE := fun τ M Q E => to τ M (fun d M1 => isTy T M1 d ∧ ta τ M1 (fun ds M2 => g d ds M2 Q) E) E
def dMt0 (T : String) (g : DMt) (to : DTE) : DTE := fun τ M Q E => to τ M (fun d M1 => isTy T M1 d ∧ g d [] M1 Q) E
def MtD (K : PySem.W.Frag) (g : DMt) (r : V → List V → Hp → VK → Prop) : Prop := ∀ (M : Mu) (H : Hp) (x : D) (v : V) (xs : List D) (vs : List V) (Q0 : DK) (Q : VK), Cor K M H → Rep K M H x v → Reps K M H xs vs → g x xs M Q0 →
  (∀ d M' z H', Q0 d M' → Rep K M' H' d z → Cor K M' H' → Stp M H M' H' → Q z H') → r v vs H Q
theorem isTy_rep {K : PySem.W.Frag} {M : Mu} {H : Hp} {T : String} {d : D} {v : V} (c : Cor K M H) (r : Rep K M H d v) (h : isTy T M d) : tyV K T v H := by
  cases d with
  | str x => cases r; exact h
  | lst ds =>
    obtain ⟨a, vs, rfl, ha, ma, ra⟩ := rep_of_lst r
    exact .inl ⟨h, vs, .inl (.inl ha)⟩
  | ref a =>
    cases r
    have h2 : (match M a with
      | some (.lst _) => T = "list"
      | some (.dK _) => T = "dict"
      | _ => False) := h
    cases e : M a with
    | none => rw [e] at h2; exact h2.elim
    | some mo =>
      rw [e] at h2
      cases mo with
      | lst ds =>
        obtain ⟨vs, ha, ra⟩ := mu_lst c e
        exact .inl ⟨h2, vs, .inl (.inl ha)⟩
      | dK kvs =>
        obtain ⟨ks, ha, _, ra⟩ := mu_dK c e
        exact .inr (.inr (.inl ⟨h2, .inl ⟨ks, ha⟩⟩))
      | _ => exact h2.elim
  | _ => exact h.elim
section
variable {X : Cx} {W : WX} {a b c e o : Expr} {rest es : List Expr} {ta tb tc te to : DTE} {tl : DTA} {pos apos cpos p : Pos} {name : Str} {id T : String} {g : DMt} {r : V → List V → Hp → VK → Prop}
theorem de_mt (pa : PlainAttrs T) (slot : Slot T name id) (hty : typeOf (.builtin id) = pure (.type "method_descriptor")) (k : MtD X.K g r) (hm : MtR X id r) (ho : DE X W o to) (ha : DA X W (e :: es) tl)
    (hbase : attributeBase o name X.env (eval o X.env) = eval o X.env := by rfl)
    (hfew : ((backTo cpos (starEach (e :: es) X.env)).all (fun x => !x.1) && (backToKw cpos (keywordEach [] X.env)).all (fun x => x.1.isSome)
      && decide ((e :: es).length + ([] : List Keyword).length + (if ([] : List Keyword).isEmpty then 0 else 1) < 30)) = true := by rfl)
    (hline : (apos.endLine == cpos.line) = true := by rfl) (hs : starEach (e :: es) X.env = (false, eval e X.env) :: starEach es X.env := by rfl) (hplain : (backTo cpos (starEach es X.env)).any (·.1) = false := by rfl) :
    DE X W (.Call (.Attribute o name apos) (e :: es) [] cpos) (dMt T g to tl) :=
  PE.of (pe_bm pa slot hty hm ho ha hbase hfew hline hs hplain) fun σ H Q ⟨τ, M, Q0, E0, S, h⟩ => S.sub h fun d M1 v H1 h1 r1 S1 s1 =>
    ⟨isTy_rep S1.co r1 h1.1, S1.sub h1.2 fun ds M2 vs H2 h2 r2 S2 s2 => k M2 H2 d v ds vs Q0 Q S2.co (r1.stp s2) r2 h2 S2.q⟩
theorem de_mt0 (pa : PlainAttrs T) (slot : Slot T name id) (hty : typeOf (.builtin id) = pure (.type "method_descriptor")) (k : MtD X.K g r) (hm : MtR X id r) (ho : DE X W o to)
    (hbase : attributeBase o name X.env (eval o X.env) = eval o X.env := by rfl) (hline : (apos.endLine == cpos.line) = true := by rfl) : DE X W (.Call (.Attribute o name apos) [] [] cpos) (dMt0 T g to) :=
  PE.of (pe_bm0 pa slot hty hm ho hbase hline) fun σ H Q ⟨τ, M, Q0, E0, S, h⟩ => S.sub h fun d M1 v H1 h1 r1 S1 s1 =>
    ⟨isTy_rep S1.co r1 h1.1, k M1 H1 d v [] [] Q0 Q S1.co r1 .nil h1.2 S1.q⟩
end
def gAppend : DMt := fun x xs M Q => match x, xs with
  | .ref a, [y] => (match M a with
    | some (.lst ds) => ds.length < 16777216 ∧ Q .non (put M a (.lst (ds ++ [y])))
    | _ => False)
  | _, _ => False
/-- the texts, one behind another -/
def joinT (s : Tx) : List Tx → Tx := TL.joinL s
def gJoin : DMt := fun x xs M Q => match x, xs with
  | .str s, [.lst ds] => ∃ ys : List Tx, ds = ys.map D.str ∧ (ys.map (·.length)).sum + ys.length * s.length ≤ 16777216 ∧ Q (.str (joinT s ys)) M
  | .str s, [.tup ds] => ∃ ys : List Tx, ds = ys.map D.str ∧ (ys.map (·.length)).sum + ys.length * s.length ≤ 16777216 ∧ Q (.str (joinT s ys)) M
  | .str s, [.ref a] => (match M a with
    | some (.lst ds) => ∃ ys : List Tx, ds = ys.map D.str ∧ (ys.map (·.length)).sum + ys.length * s.length ≤ 16777216 ∧ Q (.str (joinT s ys)) M
    | _ => False)
  | _, _ => False
def gStarts : DMt := fun x xs M Q => match x, xs with
  | .str a, [.str b] => Q (.bl (b.isPrefixOf a)) M
  | _, _ => False
section
variable {K : PySem.W.Frag}
theorem md_append : MtD K gAppend rAppend := fun M H x v xs vs Q0 Q c rx r h q => by
  match x, xs, h with
  | .ref a, [y], h =>
    obtain ⟨u, us, rfl, r1, r2⟩ := r.uncons
    cases r2.unnil; cases rx
    have h2 : (match M a with
      | some (.lst ds) => ds.length < 16777216 ∧ Q0 .non (put M a (.lst (ds ++ [y])))
      | _ => False) := h
    cases e : M a with
    | none => rw [e] at h2; exact h2.elim
    | some mo =>
      rw [e] at h2
      cases mo with
      | lst ds =>
        obtain ⟨vs, ha, ra⟩ := mu_lst c e
        exact ⟨a, vs, u, rfl, rfl, ha, by rw [ra.length, line24]; exact h2.1, q _ _ _ _ h2.2 rfl (c.write e ⟨_, rfl, ra.snoc r1⟩) (Stp.write e)⟩
      | _ => exact h2.elim
theorem tl_sx (t : Tx) : TL.tl (sx t) = t := T_sx t
theorem join_sx (s : Tx) (ys : List Tx) : PySem.Txt.join (sx s) (ys.map sx) = sx (joinT s ys) := by
  refine TL.ext_tl ?_
  rw [tl_sx, TL.join_eq]
  refine (TL.tl_join (sx s) (ys.map sx)).trans ?_
  rw [tl_sx, List.map_map]
  have : (TL.tl ∘ sx) = (id : Tx → Tx) := funext fun t => tl_sx t
  rw [this, List.map_id]
  rfl
theorem md_join : MtD K gJoin (fun x xs H Q => ∃ a p, ∃ ys : List Str, x = .str a ∧ xs = [.ref p] ∧ (SqL K H p (ys.map V.str) ∨ SqT K H p (ys.map V.str)) ∧
    (ys.map (·.length)).sum + ys.length * a.length ≤ 16777216 ∧ Q (.str (PySem.Txt.join a ys)) H) := fun M H x v xs vs Q0 Q c rx r h q => by
  have fin : ∀ {s : Tx} {p : Addr} {ds : List D} {vs : List V}, (SqL K H p vs ∨ SqT K H p vs) → Reps K M H ds vs → (∃ ys : List Tx, ds = ys.map D.str ∧ (ys.map (·.length)).sum + ys.length * s.length ≤ 16777216 ∧ Q0 (.str (joinT s ys)) M) →
      ∃ a p', ∃ ys : List Str, V.str (sx s) = .str a ∧ [V.ref p] = [.ref p'] ∧ (SqL K H p' (ys.map V.str) ∨ SqT K H p' (ys.map V.str)) ∧ (ys.map (·.length)).sum + ys.length * a.length ≤ 16777216 ∧ Q (.str (PySem.Txt.join a ys)) H :=
    fun {s p ds vs} sq ra ⟨ys, e, hz, z⟩ => by
      subst e
      have e := ra.strs
      subst e
      refine ⟨sx s, p, ys.map sx, rfl, rfl, sq, ?_, ?_⟩
      · rw [List.map_map, List.length_map, sx_len]
        have : ((fun x : Str => x.length) ∘ sx) = fun t : Tx => t.length := funext fun t => sx_len t
        rw [this]
        exact hz
      · rw [join_sx]
        exact q _ M _ H z rfl c (Stp.refl M H)
  match x, xs, h with
  | .str s, [.lst ds], h =>
    obtain ⟨u, us, rfl, r1, r2⟩ := r.uncons
    cases r2.unnil; cases rx
    obtain ⟨a, vs, rfl, ha, ma, ra⟩ := rep_of_lst r1
    exact fin (.inl (.inl (.inl ha))) ra h
  | .str s, [.tup ds], h =>
    obtain ⟨u, us, rfl, r1, r2⟩ := r.uncons
    cases r2.unnil; cases rx
    obtain ⟨a, vs, rfl, ha, ra⟩ := rep_of_tup r1
    exact fin (.inr (sqT_of ha)) ra h
  | .str s, [.ref a], h =>
    obtain ⟨u, us, rfl, r1, r2⟩ := r.uncons
    cases r2.unnil; cases rx; cases r1
    have h2 : (match M a with
      | some (.lst ds) => ∃ ys : List Tx, ds = ys.map D.str ∧ (ys.map (·.length)).sum + ys.length * s.length ≤ 16777216 ∧ Q0 (.str (joinT s ys)) M
      | _ => False) := h
    cases e : M a with
    | none => rw [e] at h2; exact h2.elim
    | some mo =>
      rw [e] at h2
      cases mo with
      | lst ds =>
        obtain ⟨vs, ha, ra⟩ := mu_lst c e
        exact fin (.inl (.inl (.inl ha))) ra h2
      | _ => exact h2.elim
theorem starts_sx (a b : Tx) : PySem.Txt.startswith (sx a) (sx b) = b.isPrefixOf a := by
  show (decide (0 + (sx b).length ≤ (sx a).length) && Builtin.Str.subAt (sx a) (sx b) 0) = _
  rw [PySem.StrLaws.subAt_eq]
  rw [Bool.eq_iff_iff, Bool.and_eq_true, decide_eq_true_iff, List.isPrefixOf_iff_prefix, sx_len, sx_len]
  show (0 + b.length ≤ a.length ∧ ((a.drop 0).take b.length == b) = true) ↔ _
  rw [List.drop_zero, beq_iff_eq, List.prefix_iff_eq_take]
  constructor
  · intro z; exact z.2.symm
  · intro z
    refine ⟨?_, z.symm⟩
    have := congrArg List.length z
    rw [List.length_take] at this
    omega
theorem md_starts : MtD K gStarts (fun x xs H Q => ∃ a b, x = .str a ∧ xs = [.str b] ∧ Q (.bl (PySem.Txt.startswith a b)) H) := fun M H x v xs vs Q0 Q c rx r h q => by
  match x, xs, h with
  | .str a, [.str b], h =>
    obtain ⟨u, us, rfl, r1, r2⟩ := r.uncons
    cases r2.unnil; cases rx; cases r1
    refine ⟨sx a, sx b, rfl, rfl, ?_⟩
    rw [starts_sx]
    exact q _ M _ H h rfl c (Stp.refl M H)
end
end DL

namespace DL
open PySem L2

/-! ### statements -/
structure DEnds where
  nx : DSt → Mu → Prop
  rt : DK
  bk : DSt → Mu → Prop := fun _ _ => False
  ct : DSt → Mu → Prop := fun _ _ => False
  xc : XD → DSt → Mu → Prop := fun _ _ _ => False
abbrev DTS := DEnds → DSt → Mu → Prop
structure SitS (K : PySem.W.Frag) (W : WX) (τ : DSt) (M : Mu) (σ : L2.St) (H : Hp) (D0 : DEnds) (D1 : Ends) : Prop where
  rs : RepS K M H τ σ
  co : Cor K M H
  nx : ∀ τ' M' σ' H', D0.nx τ' M' → RepS K M' H' τ' σ' → Cor K M' H' → Stp M H M' H' → D1.nx σ' H'
  rt : ∀ d M' v H', D0.rt d M' → Rep K M' H' d v → Cor K M' H' → Stp M H M' H' → D1.rt v H'
  bk : ∀ τ' M' σ' H', D0.bk τ' M' → RepS K M' H' τ' σ' → Cor K M' H' → Stp M H M' H' → D1.bk σ' H'
  ct : ∀ τ' M' σ' H', D0.ct τ' M' → RepS K M' H' τ' σ' → Cor K M' H' → Stp M H M' H' → D1.ct σ' H'
  xc : ∀ x τ' M' c d σ' H', D0.xc x τ' M' → RepX K M' H' x c d → RepS K M' H' τ' σ' → Cor K M' H' → Stp M H M' H' → W c d σ' H'
def lifS (K : PySem.W.Frag) (W : WX) (t : DTS) : TS := fun D1 σ H => ∃ τ M D0, SitS K W τ M σ H D0 D1 ∧ t D0 τ M
abbrev DS (X : Cx) (W : WX) (st : Stmt) (t : DTS) : Prop := PS X st (lifS X.K W t)
abbrev DSs (X : Cx) (W : WX) (st : List Stmt) (t : DTS) : Prop := PSs X st (lifS X.K W t)
section
variable {K : PySem.W.Frag} {W : WX} {τ : DSt} {M M1 : Mu} {σ σ1 : L2.St} {H H1 : Hp} {D0 : DEnds} {D1 : Ends}
theorem SitS.go (S : SitS K W τ M σ H D0 D1) {τ1 : DSt} (r : RepS K M1 H1 τ1 σ1) (c : Cor K M1 H1) (s : Stp M H M1 H1) : SitS K W τ1 M1 σ1 H1 D0 D1 :=
  ⟨r, c, fun a b c d h r' c' s' => S.nx a b c d h r' c' (s.trans s'), fun a b c d h r' c' s' => S.rt a b c d h r' c' (s.trans s'), fun a b c d h r' c' s' => S.bk a b c d h r' c' (s.trans s'),
    fun a b c d h r' c' s' => S.ct a b c d h r' c' (s.trans s'), fun x a b c d e f h r' r2 c' s' => S.xc x a b c d e f h r' r2 c' (s.trans s')⟩
abbrev DEnds.ex (D0 : DEnds) (τ : DSt) : DX := fun x M => D0.xc x τ M
/-- an expression in a statement -/
theorem SitS.sub (S : SitS K W τ M σ H D0 D1) {γ δ : Type} {R1 : Mu → Hp → γ → δ → Prop} {t : DR γ} {G : γ → Mu → Prop} {Q1 : δ → Hp → Prop} (h : t τ M G (D0.ex τ))
    (k : ∀ d M1 v H1, G d M1 → R1 M1 H1 d v → SitS K W τ M1 σ H1 D0 D1 → Stp M H M1 H1 → Q1 v H1) : lif K W R1 t σ H Q1 :=
  ⟨τ, M, G, D0.ex τ, ⟨S.rs, S.co, fun d M' v H' g r c s => k d M' v H' g r (S.go (S.rs.stp s) c s) s, fun x M' c d H' h r c' s => S.xc x τ M' c d σ H' h r (S.rs.stp s) c' s⟩, h⟩
theorem SitS.next (S : SitS K W τ M σ H D0 D1) (h : D0.nx τ M) : D1.nx σ H := S.nx τ M σ H h S.rs S.co (Stp.refl M H)
end

/-- what a target does -/
abbrev DTG := D → DSt → Mu → (DSt → Mu → Prop) → DX → Prop
abbrev DTGs := List D → DSt → Mu → (DSt → Mu → Prop) → DX → Prop
structure SitG (K : PySem.W.Frag) (W : WX) (τ : DSt) (M : Mu) (σ : L2.St) (H : Hp) (Q0 : DSt → Mu → Prop) (E0 : DX) (Q : L2.St → Hp → Prop) : Prop where
  rs : RepS K M H τ σ
  co : Cor K M H
  q : ∀ τ' M' σ' H', Q0 τ' M' → RepS K M' H' τ' σ' → Cor K M' H' → Stp M H M' H' → Q σ' H'
  e : ∀ x M' c d H', E0 x M' → RepX K M' H' x c d → Cor K M' H' → Stp M H M' H' → W c d σ H'
def lifG (K : PySem.W.Frag) (W : WX) (g : DTG) : TG := fun v σ H Q => ∃ d τ M Q0 E0, Rep K M H d v ∧ SitG K W τ M σ H Q0 E0 Q ∧ g d τ M Q0 E0
def lifGs (K : PySem.W.Frag) (W : WX) (g : DTGs) : TGs := fun vs σ H Q => ∃ ds τ M Q0, Reps K M H ds vs ∧ SitG K W τ M σ H Q0 (fun _ _ => False) Q ∧ g ds τ M Q0 (fun _ _ => False)
abbrev DG (X : Cx) (W : WX) (tg : Expr) (g : DTG) : Prop := PG X tg (lifG X.K W g)
abbrev DGs (X : Cx) (W : WX) (tg : List Expr) (g : DTGs) : Prop := PGs X tg (lifGs X.K W g)
theorem PG.of {X : Cx} {e : Expr} {t t0 : TG} (h : PG X e t0) (k : ∀ v σ H Q, t v σ H Q → t0 v σ H Q) : PG X e t := ⟨fun pins s σ H v u Q I r q => h.run pins s σ H v u Q I r (k v σ H Q q)⟩
theorem PGs.of {X : Cx} {e : List Expr} {t t0 : TGs} (h : PGs X e t0) (k : ∀ v σ H Q, t v σ H Q → t0 v σ H Q) : PGs X e t := ⟨fun pins s σ H v u Q I r q => h.run pins s σ H v u Q I r (k v σ H Q q)⟩
def dgName (i : Nat) : DTG := fun d τ M Q _ => Q (τ.set i (some d)) M
def dgNil : DTGs := fun ds τ M Q _ => match ds with
  | [] => Q τ M
  | _ => False
/-- only names may stand in a tuple of targets: E is not asked -/
def dgCons (i : Nat) (u : DTGs) : DTGs := fun ds τ M Q E => match ds with
  | d :: r => u r (τ.set i (some d)) M Q E
  | _ => False
def dgTup (n : Nat) (u : DTGs) : DTG := fun d τ M Q _ => match d with
  | .tup ds => ds.length = n ∧ u ds τ M Q (fun _ _ => False)
  | _ => False
def dgLst (n : Nat) (u : DTGs) : DTG := fun d τ M Q _ => match d with
  | .lst ds => ds.length = n ∧ u ds τ M Q (fun _ _ => False)
  | _ => False
/-- o[i] = d -/
abbrev DSet := D → D → D → Mu → (Mu → Prop) → Prop
def gSet : DSet := fun o i d M Q => match o, i with
  | .ref a, .int k => (match M a with
    | some (.lst ds) => (match ixN ds.length k with
      | some j => Q (put M a (.lst (ds.set j d)))
      | none => False)
    | _ => False)
  | _, _ => False
def dgSub (to ti : DTE) (g : DSet) : DTG := fun d τ M Q E => to τ M (fun o M1 => ti τ M1 (fun i M2 => g o i d M2 (fun M3 => Q τ M3)) E) E
section
variable {X : Cx} {W : WX} {a b c e o i : Expr} {rest es : List Expr} {ta tb tc te to ti : DTE} {tl : DTA} {tt : DTT} {pos apos cpos p : Pos} {x : Str}
theorem SitG.sub {K : PySem.W.Frag} {τ : DSt} {M : Mu} {σ : L2.St} {H : Hp} {Q0 : DSt → Mu → Prop} {E0 : DX} {Q : L2.St → Hp → Prop} (S : SitG K W τ M σ H Q0 E0 Q) {γ δ : Type} {R1 : Mu → Hp → γ → δ → Prop} {t : DR γ} {G : γ → Mu → Prop} {Q1 : δ → Hp → Prop} (h : t τ M G E0)
    (k : ∀ d M1 v H1, G d M1 → R1 M1 H1 d v → SitG K W τ M1 σ H1 Q0 E0 Q → Stp M H M1 H1 → Q1 v H1) : lif K W R1 t σ H Q1 :=
  ⟨τ, M, G, E0, ⟨S.rs, S.co, fun d M' v H' g r c s => k d M' v H' g r ⟨S.rs.stp s, c, fun a b c d h r' c' s' => S.q a b c d h r' c' (s.trans s'), fun x M' c d H' h r c' s' => S.e x M' c d H' h r c' (s.trans s')⟩ s, S.e⟩, h⟩
theorem dg_name (j : Nat) (hN : X.N.Nodup) (hi : X.N[j]? = some x := by rfl) (hx : Loc X.env.scope x := by first | exact .inl rfl | exact .inr rfl) (hf : X.fn x = true ∨ X.env.scope.names.lookup x = some .local := by first | exact .inl rfl | exact .inr rfl) : DG X W (.Name x pos) (dgName j) :=
  PG.of (pg_name hN hi hx hf) fun v σ H Q ⟨d, τ, M, Q0, E0, r, S, h⟩ => S.q _ M _ H h (S.rs.set r j) S.co (Stp.refl M H)
theorem dgs_nil : DGs X W [] dgNil := PGs.of pgs_nil fun vs σ H Q ⟨ds, τ, M, Q0, r, S, h⟩ => by
  cases ds with
  | nil => exact ⟨r.unnil, S.q _ M _ H h S.rs S.co (Stp.refl M H)⟩
  | cons d r => exact h.elim
theorem dgs_cons (j : Nat) {u : DTGs} (hN : X.N.Nodup) (h2 : DGs X W es u) (hi : X.N[j]? = some x := by rfl) (hx : Loc X.env.scope x := by first | exact .inl rfl | exact .inr rfl) (hf : X.fn x = true ∨ X.env.scope.names.lookup x = some .local := by first | exact .inl rfl | exact .inr rfl)
    (hs : (assignEach (.Name x pos :: es) X.env).map (·.2) = assign (.Name x pos) X.env :: (assignEach es X.env).map (·.2) := by rfl) : DGs X W (.Name x pos :: es) (dgCons j u) :=
  PGs.of (pgs_cons (pg_name hN hi hx hf) h2 hs) fun vs σ H Q ⟨ds, τ, M, Q0, r, S, h⟩ => by
    cases ds with
    | nil => exact h.elim
    | cons d ds =>
      obtain ⟨v, us, rfl, r1, r2⟩ := r.uncons
      exact ⟨v, us, rfl, ds, τ.set j (some d), M, Q0, r2, ⟨S.rs.set r1 j, S.co, S.q, fun _ _ _ _ _ h => h.elim⟩, h⟩
theorem dg_tup {k n : Nat} {u : DTGs} (G : Gd X W) (h : DGs X W es u) (hn : (assignEach es X.env).length = n := by rfl) (hst : (assignEach es X.env).findIdx? (·.1) = none := by rfl) : DG X W (.Tuple es k pos) (dgTup n u) :=
  PG.of (pg_tup G.calm h hn hst) fun v σ H Q ⟨d, τ, M, Q0, E0, r, S, h⟩ => by
    cases d with
    | tup ds =>
      obtain ⟨a, vs, rfl, ha, ra⟩ := rep_of_tup r
      exact ⟨a, vs, rfl, sqT_of ha, by rw [ra.length]; exact h.1, ds, τ, M, Q0, ra, ⟨S.rs, S.co, S.q, fun _ _ _ _ _ h => h.elim⟩, h.2⟩
    | _ => exact h.elim
theorem dg_lst {k n : Nat} {u : DTGs} (G : Gd X W) (h : DGs X W es u) (hn : (assignEach es X.env).length = n := by rfl) (hst : (assignEach es X.env).findIdx? (·.1) = none := by rfl) : DG X W (.Tuple es k pos) (dgLst n u) :=
  PG.of (pg_lst G.calm h hn hst) fun v σ H Q ⟨d, τ, M, Q0, E0, r, S, h⟩ => by
    cases d with
    | lst ds =>
      obtain ⟨a, vs, rfl, ha, _, ra⟩ := rep_of_lst r
      exact ⟨a, vs, rfl, .inl (.inl ha), by rw [ra.length]; exact h.1, ds, τ, M, Q0, ra, ⟨S.rs, S.co, S.q, fun _ _ _ _ _ h => h.elim⟩, h.2⟩
    | _ => exact h.elim
theorem dg_set (ho : DE X W o to) (hi : DE X W i ti) (ha : ∀ v, assign (.Subscript o i pos) X.env v = (do
      let ov ← holding [v] (eval o X.env)
      let iv ← holding [v, ov] (eval i X.env)
      standAt pos
      holding [v, ov, iv] (setItem ov iv v)
      release [v, ov, iv] []) := by intro _; rfl) : DG X W (.Subscript o i pos) (dgSub to ti gSet) :=
  PG.of (pg_sub ho hi set_list ha) fun v σ H Q ⟨d, τ, M, Q0, E0, r, S, h⟩ => S.sub h fun x M1 v1 H1 h1 r1 S1 s1 => S1.sub h1 fun y M2 v2 H2 h2 r2 S2 s2 => by
    match x, y, h2 with
    | .ref a, .int k, h2 =>
      cases r1; cases r2
      have h3 : (match M2 a with
        | some (.lst ds) => (match ixN ds.length k with
          | some j => Q0 τ (put M2 a (.lst (ds.set j d)))
          | none => False)
        | _ => False) := h2
      cases e : M2 a with
      | none => rw [e] at h3; exact h3.elim
      | some mo =>
        rw [e] at h3
        cases mo with
        | lst ds =>
          obtain ⟨vs, hv, ra⟩ := mu_lst S2.co e
          have h4 : (match ixN ds.length k with
            | some j => Q0 τ (put M2 a (.lst (ds.set j d)))
            | none => False) := h3
          cases e2 : ixN ds.length k with
          | none => rw [e2] at h4; exact h4.elim
          | some j =>
            rw [e2] at h4
            refine ⟨a, vs, k, j, rfl, rfl, hv, by rw [ra.length]; exact e2, ?_⟩
            have st := Stp.write (H := H2) (o := .lst (vs.set j v)) (mo' := .lst (ds.set j d)) e
            exact S2.q _ _ _ _ h4 (S2.rs.stp st) (S2.co.write e ⟨_, rfl, ra.set ((r.stp s1).stp s2) j⟩) st
        | _ => exact h3.elim

/-! statements -/
def dPass : DTS := fun D τ M => D.nx τ M
def dSeq (t u : DTS) : DTS := fun D τ M => t { D with nx := u D } τ M
def dSet (i : Nat) (te : DTE) : DTS := fun D τ M => te τ M (fun d M1 => D.nx (τ.set i (some d)) M1) (D.ex τ)
def dAsg (te : DTE) (g : DTG) : DTS := fun D τ M => te τ M (fun d M1 => g d τ M1 D.nx (D.ex τ)) (D.ex τ)
def dDrop (te : DTE) : DTS := fun D τ M => te τ M (fun _ M1 => D.nx τ M1) (D.ex τ)
def dRet (te : DTE) : DTS := fun D τ M => te τ M D.rt (D.ex τ)
def dRetN : DTS := fun D _ M => D.rt .non M
def dIfS (c : DTT) (t u : DTS) : DTS := fun D τ M => c τ M (fun b M1 => if b = true then t D τ M1 else u D τ M1) (D.ex τ)
def dBrk : DTS := fun D τ M => D.bk τ M
def dCnt : DTS := fun D τ M => D.ct τ M
variable {st : Stmt} {sts : List Stmt} {t u : DTS}
theorem dss_nil : DSs X W [] dPass := PSs.of pss_nil fun D1 σ H ⟨τ, M, D0, S, h⟩ => S.next h
theorem dss_cons (h1 : DS X W st t) (h2 : DSs X W sts u) : DSs X W (st :: sts) (dSeq t u) := PSs.of (pss_cons h1 h2) fun D1 σ H ⟨τ, M, D0, S, h⟩ =>
  ⟨τ, M, { D0 with nx := u D0 }, ⟨S.rs, S.co, fun τ' M' σ' H' h r c s => ⟨τ', M', D0, S.go r c s, h⟩, S.rt, S.bk, S.ct, S.xc⟩, h⟩
theorem dss_one (h1 : DS X W st t) : DSs X W [st] t := pss_one h1
theorem ds_pass : DS X W (.Pass pos) dPass := PS.of ps_pass fun D1 σ H ⟨τ, M, D0, S, h⟩ => S.next h
theorem ds_break : DS X W (.Break pos) dBrk := PS.of ps_break fun D1 σ H ⟨τ, M, D0, S, h⟩ => S.bk τ M σ H h S.rs S.co (Stp.refl M H)
theorem ds_cont : DS X W (.Continue pos) dCnt := PS.of ps_continue fun D1 σ H ⟨τ, M, D0, S, h⟩ => S.ct τ M σ H h S.rs S.co (Stp.refl M H)
theorem ds_expr (he : DE X W e te) (hs : swapsWith e none pos.line X.env = pure false := by rfl) : DS X W (.Expr e pos) (dDrop te) := PS.of (ps_expr he hs) fun D1 σ H ⟨τ, M, D0, S, h⟩ =>
  S.sub h fun d M1 v H1 h1 r1 S1 s1 => S1.next h1
theorem ds_ret (he : DE X W e te) : DS X W (.Return (some e) pos) (dRet te) := PS.of (ps_ret he) fun D1 σ H ⟨τ, M, D0, S, h⟩ => S.sub h fun d M1 v H1 h1 r1 S1 s1 => S1.rt d M1 v H1 h1 r1 S1.co (Stp.refl M1 H1)
theorem ds_retN : DS X W (.Return none pos) dRetN := PS.of ps_retN fun D1 σ H ⟨τ, M, D0, S, h⟩ => S.rt .non M .non H h rfl S.co (Stp.refl M H)
theorem ds_set (j : Nat) {pos' : Pos} (G : Gd X W) (he : DE X W e te) (hi : X.N[j]? = some x := by rfl) (hx : Loc X.env.scope x := by first | exact .inl rfl | exact .inr rfl)
    (hs : swapsWith e (some (.Name x pos')) pos.line X.env = pure false := by rfl) (hf : X.fn x = true ∨ X.env.scope.names.lookup x = some .local := by first | exact .inl rfl | exact .inr rfl) : DS X W (.Assign [.Name x pos'] e pos) (dSet j te) :=
  PS.of (ps_set G.nd hi hx he hs hf) fun D1 σ H ⟨τ, M, D0, S, h⟩ => S.sub h fun d M1 v H1 h1 r1 S1 s1 => S1.nx _ M1 _ H1 h1 (S1.rs.set r1 j) S1.co (Stp.refl M1 H1)
theorem ds_asg {tg : Expr} {g : DTG} (he : DE X W e te) (hg : DG X W tg g) (hs : swapsWithSole [tg] e pos.line X.env = pure false := by rfl) (hw : swappedStores [tg] e X.env = pure none := by rfl)
    (h1 : (assignEach [tg] X.env).map (·.2) = [assign tg X.env] := by rfl) : DS X W (.Assign [tg] e pos) (dAsg te g) :=
  PS.of (ps_asg he hg hs hw h1) fun D1 σ H ⟨τ, M, D0, S, h⟩ => S.sub h fun d M1 v H1 h1 r1 S1 s1 =>
    ⟨d, τ, M1, D0.nx, D0.ex τ, r1, ⟨S1.rs, S1.co, S1.nx, fun x M' c d H' h r c' s' => S1.xc x τ M' c d σ H' h r (S1.rs.stp s') c' s'⟩, h1⟩
theorem ds_if {sa sb : List Stmt} (hc : DT X W c tt) (ha : DSs X W sa t) (hb : DSs X W sb u) : DS X W (.If c sa sb pos) (dIfS tt t u) :=
  PS.of (ps_if hc ha hb) fun D1 σ H ⟨τ, M, D0, S, h⟩ => S.sub h fun d M1 v H1 h1 r1 S1 s1 => by
    cases r1
    cases d with
    | true => exact ⟨τ, M1, D0, S1, h1⟩
    | false => exact ⟨τ, M1, D0, S1, h1⟩

/-! ### loops -/
/-- an iterator gives these data, whatever happens meanwhile -/
def ItOk (K : PySem.W.Frag) (M : Mu) (H : Hp) (ds : List D) (J : It) : Prop := ∀ M' H', Stp M H M' H' → Cor K M' H' →
  (∀ i, ds.length ≤ i → J.stop i H') ∧ (∀ i, i < ds.length → J.go i H') ∧ ∀ i d v H2, ds[i]? = some d → J.yld i H' v H2 → Rep K M' H2 d v ∧ Cor K M' H2 ∧ Stp M' H' M' H2
abbrev DTI := DR (List D)
abbrev DI (X : Cx) (W : WX) (tg iter : Expr) (ti : DTI) : Prop := PI X tg iter (lif X.K W (ItOk X.K) ti)
theorem PI.of {X : Cx} {tg e : Expr} {t t0 : TI} (h : PI X tg e t0) (k : ∀ σ H R, t σ H R → t0 σ H R) : PI X tg e t := ⟨fun pins s σ H R I q => h.run pins s σ H R I (k σ H R q)⟩
def wFor (g : DTG) (tb : DTS) (D0 : DEnds) : List D → DSt → Mu → Prop
  | [], τ, M => D0.nx τ M
  | d :: ds, τ, M => g d τ M (fun τ1 M1 => tb { D0 with nx := wFor g tb D0 ds, ct := wFor g tb D0 ds, bk := D0.nx } τ1 M1) (D0.ex τ)
def dFor (ti : DTI) (g : DTG) (tb : DTS) : DTS := fun D0 τ M => ti τ M (fun ds M1 => wFor g tb D0 ds τ M1) (D0.ex τ)
theorem ds_for {tg iter : Expr} {body : List Stmt} {ti : DTI} {g : DTG} {tb : DTS} (G : Gd X W) (hi : DI X W tg iter ti) (hg : DG X W tg g) (hb : DSs X W body tb) (hs : ∀ x, foldedSetIterable iter X.env x = pure x := by intro _; rfl) :
    DS X W (.For tg iter body [] pos) (dFor ti g tb) :=
  PS.of (ps_for G.own G.calm hi hg hb hs) fun D1 σ H ⟨τ, M, D0, S, h⟩ => S.sub h fun ds M1 J H1 h1 r1 S1 s1 => by
    refine ⟨fun i m σ2 H2 => m = ds.length - i ∧ i ≤ ds.length ∧ ∃ τ2 M2, Stp M1 H1 M2 H2 ∧ SitS X.K W τ2 M2 σ2 H2 D0 D1 ∧ wFor g tb D0 (ds.drop i) τ2 M2, ⟨ds.length, rfl, Nat.zero_le _, τ, M1, Stp.refl M1 H1, S1, h1⟩, ?_⟩
    rintro i m σ2 H2 ⟨rfl, hi, τ2, M2, s2, S2, h2⟩
    obtain ⟨k1, k2, k3⟩ := r1 M2 H2 s2 S2.co
    by_cases hlt : i < ds.length
    · have e : ds.drop i = ds[i] :: ds.drop (i + 1) := List.drop_eq_getElem_cons hlt
      rw [e] at h2
      refine .inr ⟨k2 i hlt, fun σ3 H3 => ∃ τ3 M3, Stp M1 H1 M3 H3 ∧ SitS X.K W τ3 M3 σ3 H3 D0 D1 ∧ wFor g tb D0 (ds.drop (i + 1)) τ3 M3, fun σ3 H3 q => ⟨ds.length - (i + 1), by omega, rfl, hlt, q⟩, fun x H3 y => ?_⟩
      obtain ⟨y1, y2, y3⟩ := k3 i ds[i] x H3 (List.getElem?_eq_getElem hlt) y
      have S3 := S2.go (S2.rs.stp y3) y2 y3
      refine ⟨ds[i], τ2, M2, _, D0.ex τ2, y1, ⟨S3.rs, S3.co, fun τ4 M4 σ4 H4 h4 r4 c4 s4 => ?_, fun x M' c d H' h r c' s' => S3.xc x τ2 M' c d σ2 H' h r (S3.rs.stp s') c' s'⟩, h2⟩
      have S4 := S3.go r4 c4 s4
      exact ⟨τ4, M4, { D0 with nx := wFor g tb D0 (ds.drop (i + 1)), ct := wFor g tb D0 (ds.drop (i + 1)), bk := D0.nx }, ⟨S4.rs, S4.co, fun a b c d h r c' s => ⟨a, b, (s2.trans (y3.trans s4)).trans s, S4.go r c' s, h⟩, S4.rt, S4.nx, fun a b c d h r c' s => ⟨a, b, (s2.trans (y3.trans s4)).trans s, S4.go r c' s, h⟩, S4.xc⟩, h4⟩
    · have e : i = ds.length := by omega
      rw [e, List.drop_length] at h2
      exact .inl ⟨k1 i (by omega), S2.next h2⟩
def dWhile (c : DTT) (tb : DTS) : DTS := fun D0 τ M => ∃ I : Nat → DSt → Mu → Prop, (∃ n, I n τ M) ∧ ∀ n τ M, I n τ M →
  c τ M (fun b M1 => if b = true then tb { D0 with nx := fun τ' M' => ∃ n', n' < n ∧ I n' τ' M', ct := fun τ' M' => ∃ n', n' < n ∧ I n' τ' M', bk := D0.nx } τ M1 else D0.nx τ M1) (D0.ex τ)
theorem ds_while {c : Expr} {body : List Stmt} {tc : DTT} {tb : DTS} (G : Gd X W) (hc : DT X W c tc) (hb : DSs X W body tb) : DS X W (.While c body [] pos) (dWhile tc tb) :=
  PS.of (ps_while G.own hc hb) fun D1 σ H ⟨τ, M, D0, S, I, ⟨n0, i0⟩, turn⟩ => by
    refine ⟨fun n σ2 H2 => ∃ τ2 M2, SitS X.K W τ2 M2 σ2 H2 D0 D1 ∧ I n τ2 M2, ⟨n0, τ, M, S, i0⟩, ?_⟩
    rintro n σ2 H2 ⟨τ2, M2, S2, i2⟩
    refine S2.sub (turn n τ2 M2 i2) fun b M3 v H3 h3 r3 S3 s3 => ?_
    cases r3
    cases b with
    | false => exact S3.next h3
    | true =>
      refine ⟨fun σ4 H4 => ∃ n', n' < n ∧ ∃ τ4 M4, SitS X.K W τ4 M4 σ4 H4 D0 D1 ∧ I n' τ4 M4, fun σ4 H4 ⟨n', l, q⟩ => ⟨n', l, q⟩, τ2, M3, { D0 with nx := fun τ' M' => ∃ n', n' < n ∧ I n' τ' M', ct := fun τ' M' => ∃ n', n' < n ∧ I n' τ' M', bk := D0.nx }, ⟨S3.rs, S3.co, ?_, S3.rt, S3.nx, ?_, S3.xc⟩, h3⟩
      · rintro a b c d ⟨n', l, q⟩ r c' s
        exact ⟨n', l, a, b, S3.go r c' s, q⟩
      · rintro a b c d ⟨n', l, q⟩ r c' s
        exact ⟨n', l, a, b, S3.go r c' s, q⟩

/-! what is walked -/
def diStr (te : DTE) : DTI := fun τ M Q E => te τ M (fun d M1 => match d with
  | .str x => Q (x.map fun c => D.str [c]) M1
  | _ => False) E
def diLst (te : DTE) : DTI := fun τ M Q E => te τ M (fun d M1 => match d with
  | .lst ds => Q ds M1
  | _ => False) E
def diTup (te : DTE) : DTI := fun τ M Q E => te τ M (fun d M1 => match d with
  | .tup ds => Q ds M1
  | _ => False) E
/-- 0, 1, .. below n; lo, lo + 1, .. -/
def upTo (lo : Int) (n : Nat) : List D := (List.range n).map fun i : Nat => D.int (lo + i)
def diRng1 (ta : DTA) : DTI := fun τ M Q E => ta τ M (fun ds M1 => match ds with
  | [.int j] => -(2 ^ 62) ≤ j ∧ j < 2 ^ 62 ∧ Q (upTo 0 j.toNat) M1
  | _ => False) E
def diRng2 (ta : DTA) : DTI := fun τ M Q E => ta τ M (fun ds M1 => match ds with
  | [.int i, .int j] => (-(2 ^ 62) ≤ i ∧ i < 2 ^ 62 ∧ -(2 ^ 62) ≤ j ∧ j < 2 ^ 62) ∧ Q (upTo i (j - i).toNat) M1
  | _ => False) E
theorem upTo_len (lo : Int) (n : Nat) : (upTo lo n).length = n := by simp [upTo]
theorem upTo_get {lo : Int} {n i : Nat} {d : D} (h : (upTo lo n)[i]? = some d) : d = .int (lo + i) := by
  unfold upTo at h
  rw [List.getElem?_map] at h
  cases e : (List.range n)[i]? with
  | none => rw [e] at h; cases h
  | some j =>
    rw [e] at h
    have := List.getElem?_range (n := n) (i := i)
    cases h
    have hl : i < n := by
      have := (List.getElem?_eq_some_iff.mp e).1
      simpa using this
    rw [List.getElem?_range hl] at e
    cases e
    rfl
theorem it_rng {K : PySem.W.Frag} {M : Mu} {H : Hp} (lo : Int) (n : Nat) : ItOk K M H (upTo lo n) (Itr lo n) := fun M' H' s c => by
  refine ⟨fun i h => by rw [upTo_len] at h; exact h, fun i h => by rw [upTo_len] at h; exact h, fun i d v H2 h y => ?_⟩
  obtain ⟨rfl, rfl⟩ := y
  rw [upTo_get h]
  exact ⟨rfl, c, Stp.refl M' _⟩
theorem it_lst {K : PySem.W.Frag} {M : Mu} {H : Hp} {a : Addr} {ds : List D} {vs : List V} (ha : H a = some (.lst vs)) (ma : M a = none) (ra : Reps K M H ds vs) : ItOk K M H ds (Itl K a) := fun M' H' s c => by
  have q : SqL K H' a vs := .inl (.inl (s a _ ha ma).1)
  have r := ra.stp s
  refine ⟨fun i h => ⟨vs, q, by rw [ra.length]; exact h⟩, fun i h => ?_, fun i d v H2 h y => ?_⟩
  · obtain ⟨v, h1, _⟩ := r.get (List.getElem?_eq_getElem h)
    exact ⟨vs, v, q, h1⟩
  · obtain ⟨rfl, y⟩ := y
    obtain ⟨u, h1, h2⟩ := r.get h
    have := y vs q
    rw [h1] at this
    cases this
    exact ⟨h2, c, Stp.refl M' _⟩
theorem it_tup {K : PySem.W.Frag} {M : Mu} {H : Hp} {a : Addr} {ds : List D} {vs : List V} (ha : (H a = some (.tup vs) ∧ M a = none) ∨ WrT K a vs) (ra : Reps K M H ds vs) : ItOk K M H ds (Itt K a) := fun M' H' s c => by
  have q : SqT K H' a vs := ha.elim (fun z => .inl (.inl (s a _ z.1 z.2).1)) .inr
  have r := ra.stp s
  refine ⟨fun i h => ⟨vs, q, by rw [ra.length]; exact h⟩, fun i h => ?_, fun i d v H2 h y => ?_⟩
  · obtain ⟨v, h1, _⟩ := r.get (List.getElem?_eq_getElem h)
    exact ⟨vs, v, q, h1⟩
  · obtain ⟨rfl, y⟩ := y
    obtain ⟨u, h1, h2⟩ := r.get h
    have := y vs q
    rw [h1] at this
    cases this
    exact ⟨h2, c, Stp.refl M' _⟩
theorem it_str {K : PySem.W.Frag} {M : Mu} {H : Hp} (x : Tx) : ItOk K M H (x.map fun c => D.str [c]) (Its (sx x)) := fun M' H' s c => by
  have e : (sx x).cps.size = x.length := by simp [sx]
  refine ⟨fun i h => by show (sx x).cps.size ≤ i; rw [e]; simpa using h, fun i h => by show i < (sx x).cps.size; rw [e]; simpa using h, fun i d v H2 h y => ?_⟩
  obtain ⟨rfl, k, hk, rfl⟩ := y
  rw [List.getElem?_map] at h
  have e2 : x[i]? = some k := by simpa [sx] using hk
  rw [e2] at h
  cases h
  exact ⟨rfl, c, Stp.refl M' _⟩
theorem di_str {tg : Expr} (h : DE X W e te) : DI X W tg e (diStr te) := PI.of (pi_str h) fun σ H R ⟨τ, M, Q0, E0, S, h⟩ => S.sub h fun d M1 v H1 h1 r1 S1 s1 => by
  cases d with
  | str x => exact ⟨sx x, r1, S1.end_ h1 (it_str x)⟩
  | _ => exact h1.elim
theorem di_lst {tg : Expr} (h : DE X W e te) : DI X W tg e (diLst te) := PI.of (pi_list h) fun σ H R ⟨τ, M, Q0, E0, S, h⟩ => S.sub h fun d M1 v H1 h1 r1 S1 s1 => by
  cases d with
  | lst ds =>
    obtain ⟨a, vs, rfl, ha, ma, ra⟩ := rep_of_lst r1
    exact ⟨a, rfl, ⟨vs, .inl (.inl ha)⟩, S1.end_ h1 (it_lst ha ma ra)⟩
  | _ => exact h1.elim
theorem di_tup {tg : Expr} (h : DE X W e te) : DI X W tg e (diTup te) := PI.of (pi_tup h) fun σ H R ⟨τ, M, Q0, E0, S, h⟩ => S.sub h fun d M1 v H1 h1 r1 S1 s1 => by
  cases d with
  | tup ds =>
    obtain ⟨a, vs, rfl, ha, ra⟩ := rep_of_tup r1
    exact ⟨a, rfl, ⟨vs, sqT_of ha⟩, S1.end_ h1 (it_tup ha ra)⟩
  | _ => exact h1.elim
theorem di_rng1 {tg : Expr} (hm : X.mg "range" = none) (ha : DA X W [a] tl) (hg : Gl X "range" := by rfl) (hs : starEach [a] X.env = [(false, eval a X.env)] := by rfl) : DI X W tg (.Call (.Name "range" p) [a] [] pos) (diRng1 tl) :=
  PI.of (pi_range1 hg hm ha hs) fun σ H R ⟨τ, M, Q0, E0, S, h⟩ => S.sub h fun ds M1 vs H1 h1 r1 S1 s1 => by
    match ds, h1 with
    | [.int j], h1 =>
      obtain ⟨v, u, rfl, r2, r3⟩ := r1.uncons
      cases r3.unnil; cases r2
      exact ⟨j, rfl, h1.1, h1.2.1, S1.end_ h1.2.2 (it_rng 0 _)⟩
theorem di_rng2 {tg : Expr} (hm : X.mg "range" = none) (ha : DA X W [a, b] tl) (hg : Gl X "range" := by rfl) (hs : starEach [a, b] X.env = [(false, eval a X.env), (false, eval b X.env)] := by rfl) (hs2 : starEach [b] X.env = [(false, eval b X.env)] := by rfl) :
    DI X W tg (.Call (.Name "range" p) [a, b] [] pos) (diRng2 tl) :=
  PI.of (pi_range2 hg hm ha hs hs2) fun σ H R ⟨τ, M, Q0, E0, S, h⟩ => S.sub h fun ds M1 vs H1 h1 r1 S1 s1 => by
    match ds, h1 with
    | [.int i, .int j], h1 =>
      obtain ⟨v, u, rfl, r2, r3⟩ := r1.uncons
      obtain ⟨v, u, rfl, r4, r5⟩ := r3.uncons
      cases r5.unnil; cases r2; cases r4
      exact ⟨i, j, rfl, h1.1, S1.end_ h1.2 (it_rng i _)⟩

end

/-! ### a def -/
/-- the def st keeps the promise sp: its body by a term t -/
theorem def_ok {P : Program} {w : World} {K : PySem.W.Frag} {mg : Str → Option Value} {base : Heap} {x qual : Str} {st : Stmt} {f : Addr} {fd : FuncData} {N ps : List Str} {k : Nat} {sp : DSp} {t : DTS}
    (F : FunD K x qual (defArgs st) (defBody st) (defScope st) [] [] f fd) (S : FnScope N ps (defScope st)) (len : ∀ ds M Q E, sp ds M Q E → ds.length = ps.length)
    (hd : ∀ (cdv : Value) (A : Around) (outer : List Env) (s : Shared) (H : Hp) (E : XK), Gd (cxOf (L2.CX P w) P w K mg base N qual (defScope st) f cdv A outer s H E) (fun c d _ H => E c d H) → Room k (cxOf (L2.CX P w) P w K mg base N qual (defScope st) f cdv A outer s H E).A →
      DSs (cxOf (L2.CX P w) P w K mg base N qual (defScope st) f cdv A outer s H E) (fun c d _ H => E c d H) (defBody st) t)
    (hp : ∀ ds M Q E, sp ds M Q E → t { nx := fun _ M' => Q .non M', rt := Q, xc := fun x _ M' => E x M' } (ds.map some ++ List.replicate (N.length - ps.length) none) M) :
    FnOk P w K mg base (L2.CX P w) (k + 1) f fd ps (lsp K sp) := by
  refine F.ok S (fun vs H Q E h => ?_) (fun cdv A outer s H vs Q E hr h => ?_)
  · obtain ⟨ds, M, Q0, E0, r, c, h, _⟩ := h
    rw [r.length]
    exact len ds M Q0 E0 h
  · obtain ⟨ds, M, Q0, E0, r, c, h, hq, he⟩ := h
    have hl := len ds M Q0 E0 h
    refine ⟨lifS K (fun c d _ H => E c d H) t, ?_, ?_⟩
    · refine hd cdv A outer s H E ?_ hr
      exact ⟨rfl, takes_of rfl rfl rfl rfl, by have := hr.un; show A.units + 3 + 64 < cLine; have e : (A.deeper (PyProof.Rows.envOfC qual (defScope st) s.heap.objs.size f cdv)).units = A.units + 3 := rfl; omega, passes_of rfl, S.nd⟩
    · refine ⟨_, M, { nx := fun _ M' => Q0 .non M', rt := Q0, xc := fun x _ M' => E0 x M' }, ⟨?_, c, fun τ' M' σ' H' h r c' s' => hq .non M' .non H' h rfl c' s', hq, fun _ _ _ _ h => h.elim, fun _ _ _ _ h => h.elim, fun x τ' M' c d σ' H' h r _ c' s' => he x M' c d H' h r c' s'⟩, hp ds M Q0 E0 h⟩
      unfold L2.start
      rw [r.length, hl]
      exact RepS.start _ r
theorem FnM.of {P : Program} {w : World} {K : PySem.W.Frag} {mg : Str → Option Value} {base : Heap} {k : Nat} {x : Str} {f : Addr} {fd : FuncData} {ps : List Str} {sp : DSp} (F : FnOk P w K mg base (L2.CX P w) k f fd ps (lsp K sp)) (hm : mg x = some (.ref f))
    (hk : PySem.W.keepIn K (.ref f) = true) (hb : Binds K fd ps []) : FnM P w K mg base k x sp := ⟨f, fd, ps, F, hm, hk, hb⟩
end DL

namespace DL
open PySem L2
section
variable {X : Cx} {W : WX} {a b c e o i : Expr} {rest es : List Expr} {ta tb tc te to ti : DTE} {tl : DTA} {tt : DTT} {pos apos cpos p : Pos} {x : Str}
/-! ### constants of the module -/
theorem de_gs {z : Str} (h : ∃ t, X.mg x = some (.str z t)) (hg : Gl X x := by rfl) (hd : (x == ("__debug__" : Str)) = false := by decide) : DE X W (.Name x pos) (dC (.str (T z))) := by
  obtain ⟨t, h⟩ := h
  refine de_glob (v := .str z) hg h ⟨t, rfl⟩ (fun M H => ?_) hd
  show V.str z = V.str (sx (T z))
  rw [sx_T]
theorem de_gsc {z : Str} {u : Tx} (h : ∃ t, X.mg x = some (.str z t)) (e : T z = u) (hg : Gl X x := by rfl) (hd : (x == ("__debug__" : Str)) = false := by decide) : DE X W (.Name x pos) (dC (.str u)) := by
  rw [← e]
  exact de_gs h hg hd
theorem de_strc {z : Str} {t : Tx} {j : Nat} (h : T z = t) : DE X W (.Constant (.str z) j pos) (dC (.str t)) := by
  rw [← h]
  exact de_str
theorem de_gi {z : Int} (h : ∃ t, X.mg x = some (.int z t)) (hg : Gl X x := by rfl) (hd : (x == ("__debug__" : Str)) = false := by decide) : DE X W (.Name x pos) (dC (.int z)) := by
  obtain ⟨t, h⟩ := h
  exact de_glob (v := .int z) hg h ⟨t, rfl⟩ (fun M H => rfl) hd
/-- a tuple of texts of the written part -/
theorem de_gt {f : Addr} {zs : List Str} (h : X.mg x = some (.ref f)) (hw : WrT X.K f (zs.map V.str)) (hg : Gl X x := by rfl) (hd : (x == ("__debug__" : Str)) = false := by decide) : DE X W (.Name x pos) (dC (.tup (zs.map fun z => D.str (T z)))) := by
  refine de_glob (v := .ref f) hg h rfl (fun M H => ?_) hd
  unfold Rep
  refine ⟨f, _, rfl, .inr hw, ?_⟩
  have e : zs.map (fun z => D.str (T z)) = (zs.map T).map D.str := by rw [List.map_map]; rfl
  have e2 : zs.map V.str = ((zs.map T).map sx).map V.str := by
    rw [List.map_map, List.map_map]
    exact List.map_congr_left fun z _ => by show V.str z = V.str (sx (T z)); rw [sx_T]
  rw [e, e2]
  exact Reps.of_strs _

/-! ### is None -/
def gIsNN (nb : Bool → Bool) : DOp := fun x y M Q => match y with
  | .non => (match x with
    | .non => Q (.bl (nb true)) M
    | _ => Q (.bl (nb false)) M)
  | _ => False
abbrev gIsN : DOp := gIsNN id
abbrev gNotN : DOp := gIsNN not
theorem od_isNN {K : PySem.W.Frag} {nb : Bool → Bool} : OpD K (gIsNN nb) (fun x y H Q => y = .non ∧ Q (.bl (nb (decide (x = .non)))) H) := fun M H x y v u Q0 Q c rx ry h q => by
  have fin : ∀ b, Q0 (.bl b) M → Q (.bl b) H := fun b z => q _ M _ H z rfl c (Stp.refl M H)
  cases y with
  | non =>
    cases ry
    refine ⟨rfl, ?_⟩
    cases x with
    | non => cases rx; exact fin _ h
    | bl _ => cases rx; exact fin _ h
    | int _ => cases rx; exact fin _ h
    | str _ => cases rx; exact fin _ h
    | ref _ => cases rx; exact fin _ h
    | ty _ => cases rx; exact fin _ h
    | scr _ => obtain ⟨a, rfl, _⟩ := (show ∃ a, v = .ref a ∧ _ from rx); exact fin _ h
    | lst _ => obtain ⟨a, vs, rfl, _⟩ := rep_of_lst rx; exact fin _ h
    | tup _ => obtain ⟨a, vs, rfl, _⟩ := rep_of_tup rx; exact fin _ h
  | _ => exact h.elim
theorem od_isN {K : PySem.W.Frag} : OpD K gIsN (fun x y H Q => y = .non ∧ Q (.bl (decide (x = .non))) H) := od_isNN (nb := id)
theorem od_notN {K : PySem.W.Frag} : OpD K gNotN (fun x y H Q => y = .non ∧ Q (.bl (!decide (x = .non))) H) := od_isNN (nb := not)

/-! ### a walk over what there is -/
def iAny (K : PySem.W.Frag) (te : TE) : TI := fun σ H R => te σ H fun v H1 => (∃ z, v = .str z ∧ R (Its z) H1) ∨ (∃ a, v = .ref a ∧ (∃ xs, SqL K H1 a xs) ∧ R (Itl K a) H1) ∨ ∃ a, v = .ref a ∧ (∃ xs, SqT K H1 a xs) ∧ R (Itt K a) H1
theorem pi_any {tg : Expr} {te : TE} (he : PE X e te) : PI X tg e (iAny X.K te) := ⟨fun pins s σ H R I h => thn (he.run pins s σ H _ I h) fun v s1 hv => by
  obtain ⟨y, H1, J1, ry, hy⟩ := hv
  rcases hy with ⟨z, rfl, hR⟩ | ⟨a, rfl, ⟨xs, hs⟩, hR⟩ | ⟨a, rfl, ⟨xs, hs⟩, hR⟩
  · obtain ⟨tk, rfl⟩ := ry
    cases hz : z.cps.all (· < 128) with
    | false => exact wpAny_pyIter_wide hz (pi_one (tk := s1.toks) J1 _ (turn_str _ z tk _ (.inr rfl)) ⟨_, Heap.get?_push_size _ rfl, rfl, rfl⟩ hR)
    | true => exact wpAny_pyIter_ascii hz (pi_one (tk := s1.toks) J1 _ (turn_str _ z tk _ (.inl rfl)) ⟨_, Heap.get?_push_size _ rfl, rfl, rfl⟩ hR)
  · cases ry
    obtain ⟨its, rv, pl, hz⟩ := J1.list hs
    exact wpAny_pyIter_list pl.isList (pi_one (tk := s1.toks) J1 _ (turn_list a _) ⟨_, Heap.get?_push_size _ rfl, rfl, rfl⟩ hR)
  · cases ry
    obtain ⟨its, rv, pl, hz⟩ := J1.tuple hs
    exact wpAny_pyIter_tuple pl (pi_one (tk := s1.toks) J1 _ (turn_tuple a _) ⟨_, Heap.get?_push_size _ rfl, rfl, rfl⟩ hR)⟩
/-- the items of a text, a list, a tuple -/
def itemsD : D → Option (List D)
  | .str x => some (x.map fun c => D.str [c])
  | .lst ds => some ds
  | .tup ds => some ds
  | _ => none
def diAny (te : DTE) : DTI := fun τ M Q E => te τ M (fun d M1 => match itemsD d with
  | some ds => Q ds M1
  | none => False) E
theorem di_any {tg : Expr} (h : DE X W e te) : DI X W tg e (diAny te) := PI.of (pi_any h) fun σ H R ⟨τ, M, Q0, E0, S, h⟩ => S.sub h fun d M1 v H1 h1 r1 S1 s1 => by
  cases d with
  | str x => exact .inl ⟨sx x, r1, S1.end_ h1 (it_str x)⟩
  | lst ds =>
    obtain ⟨a, vs, rfl, ha, ma, ra⟩ := rep_of_lst r1
    exact .inr (.inl ⟨a, rfl, ⟨vs, .inl (.inl ha)⟩, S1.end_ h1 (it_lst ha ma ra)⟩)
  | tup ds =>
    obtain ⟨a, vs, rfl, ha, ra⟩ := rep_of_tup r1
    exact .inr (.inr ⟨a, rfl, ⟨vs, sqT_of ha⟩, S1.end_ h1 (it_tup ha ra)⟩)
  | _ => exact h1.elim
/-- a call without arguments -/
theorem de_call0 {k : Nat} {sp : DSp} (F : FnM X.prog X.w X.K X.mg X.base k x sp) (G : Gd X W) (hr : Room k X.A) (hg : Gl X x := by rfl) (hdb : (x == ("__debug__" : Str)) = false := by decide) : DE X W (.Call (.Name x p) [] [] pos) (dCall sp daNil) := by
  obtain ⟨f, fd, ps, Fk, hm, hk, hb⟩ := F.ex
  refine ⟨fun pins s σ H Q I h => ?_⟩
  obtain ⟨τ, M, Q0, E0, S, h⟩ := h
  refine wpAny_Call_Name_kw (ld_glob I hg hm ?_ hdb)
  exact PySem.W.callWith_K0 I.kIn hk (run_fnS (us := []) (E := WE W) Fk hr hb (passAt G.tk σ) I .nil ⟨[], M, Q0, E0, .nil, S.co, h, S.q, S.e⟩)
/-! ### a slot is told anew: what it holds is to change no more -/
theorem RepS.reset {K : PySem.W.Frag} {M : Mu} {H : Hp} {d : D} {v : V} (rp : Rep K M H d v) : ∀ {ds : List (Option D)} {vs : List (Option V)} (i : Nat), RepS K M H ds vs → vs[i]? = some (some v) → RepS K M H (ds.set i (some d)) vs
  | [], _, _, h, _ => h
  | .none :: ds, _, 0, ⟨u, r, e, h⟩, q => by subst e; have q2 : u = some v := by simpa using q
                                             rw [q2]; exact ⟨v, r, rfl, rp, h⟩
  | some _ :: ds, _, 0, ⟨u, r, e, _, h⟩, q => by subst e; have q2 : u = v := by simpa using q
                                                 rw [q2]; exact ⟨v, r, rfl, rp, h⟩
  | .none :: ds, _, i + 1, ⟨u, r, e, h⟩, q => by subst e; exact ⟨u, r, rfl, RepS.reset rp i h (by simpa using q)⟩
  | some x :: ds, _, i + 1, ⟨u, r, e, h1, h⟩, q => by subst e; exact ⟨u, r, rfl, h1, RepS.reset rp i h (by simpa using q)⟩
def dFz (i : Nat) (t : DTS) : DTS := fun D0 τ M => match τ[i]? with
  | some (some (.ref a)) => (match M a with
    | some (.lst ds) => t D0 (τ.set i (some (.lst ds))) (del M a)
    | _ => False)
  | _ => False
theorem dss_fz {sts : List Stmt} {t : DTS} (j : Nat) (h : DSs X W sts t) : DSs X W sts (dFz j t) := PSs.of h fun D1 σ H ⟨τ, M, D0, S, h⟩ => by
  unfold dFz at h
  split at h
  · rename_i a e
    obtain ⟨v, e2, r⟩ := S.rs.get e
    cases r
    split at h
    · rename_i ds e3
      obtain ⟨vs, ha, ra⟩ := mu_lst S.co e3
      refine ⟨_, _, D0, S.go (RepS.reset (rep_lst ha del_same (ra.stp Stp.frz)) j (S.rs.stp Stp.frz) e2) S.co.frz Stp.frz, h⟩
    · exact h.elim
  · exact h.elim
end
end DL

namespace DL
open PySem L2 PySem.Spec PyProof.Rows
/-! ### comprehensions of several clauses -/
theorem turn_mid {elt t0 i0 t1 i1 : Expr} {f0 f1 : List Expr} {gs : List Comprehension} {d : Nat} {scope : Scope} {pos : Pos} {it acc : Value} {env : Env} (h0 : gs[d]? = some ⟨t0, i0, f0, 0⟩) (h1 : gs[d + 1]? = some ⟨t1, i1, f1, 0⟩) :
    compTurn (.ListComp elt gs scope pos) d it acc env = (do
      standAt i0.pos
      match ← pyNext it with
      | none => pure (.done .next)
      | some u =>
        letOwnedTupleGo t0 it u
        assign t0 env u
        let mut yes := true
        for c in f0 do
          if yes then yes ← isTrue c env (eval c env)
        if yes then
          let z ← eval i1 env
          standAt i1.pos
          let z ← foldedSetIterable i1 env z
          let _ ← runOwn (.compStart (.ListComp elt gs scope pos) (d + 1) (← holding [z] (pyIter z)) acc env) env
        again (.compLoop (.ListComp elt gs scope pos) d it acc env)) := by
  unfold compTurn
  simp only [h0, h1]
  rfl
theorem turn_last {elt t0 i0 : Expr} {f0 : List Expr} {gs : List Comprehension} {d : Nat} {scope : Scope} {pos : Pos} {it acc : Value} {env : Env} (h0 : gs[d]? = some ⟨t0, i0, f0, 0⟩) (h1 : gs[d + 1]? = none) :
    compTurn (.ListComp elt gs scope pos) d it acc env = (do
      standAt i0.pos
      match ← pyNext it with
      | none => pure (.done .next)
      | some u =>
        letOwnedTupleGo t0 it u
        assign t0 env u
        let mut yes := true
        for c in f0 do
          if yes then yes ← isTrue c env (eval c env)
        if yes then
          (do let _ ← call (.builtin "list.append") [acc, ← eval elt env])
        again (.compLoop (.ListComp elt gs scope pos) d it acc env)) := by
  unfold compTurn
  simp only [h0, h1]
  rfl
end DL
namespace DL
open PySem L2 PySem.Spec PyProof.Rows
section
variable {prog : Program} {w : World} {A : Around} {R : Result → Shared → Prop} {s : Shared} {elt t0 i0 t1 i1 : Expr} {f0 f1 : List Expr} {gs : List Comprehension} {d : Nat} {scope : Scope} {pos : Pos} {it acc : Value} {env : Env}
abbrev noE : Value → Shared → Prop := fun _ _ => False
theorem noE_le {α : Type} {M : Model} {t : Sem α} {Q Q' : α → Shared → Prop} {E : Value → Shared → Prop} (h : wpAny M A t Q noE s) (k : ∀ a z, Q a z → Q' a z) : wpAny M A t Q' E s := wpAny_mono h k fun _ _ f => f.elim
/-- the tests of a clause -/
abbrev tsts (fs : List Expr) (env : Env) : Sem Bool := forIn fs true fun c r => if r = true then do let ok ← isTrue c env (eval c env); pure (ForInStep.yield ok) else pure (ForInStep.yield r)
/-- one turn, up to behind the tests -/
def TurnTo (prog : Program) (w : World) (A : Around) (t0 : Expr) (f0 : List Expr) (it : Value) (env : Env) (done : Shared → Prop) (yes no : Shared → Prop) (z : Shared) : Prop :=
  wpAny (model prog w) A (pyNext it) (fun r z1 => match r with
    | none => done z1
    | some u => wpAny (model prog w) A (letOwnedTupleGo t0 it u) (fun _ z2 => wpAny (model prog w) A (assign t0 env u) (fun _ z3 => wpAny (model prog w) A (tsts f0 env) (fun b z4 => if b = true then yes z4 else no z4) noE z3) noE z2) noE z1) noE z
theorem loop_mid (h0 : gs[d]? = some ⟨t0, i0, f0, 0⟩) (h1 : gs[d + 1]? = some ⟨t1, i1, f1, 0⟩) (hs : ∀ x, foldedSetIterable i1 env x = pure x) (V G : Nat → Shared → Prop)
    (turn : ∀ k z, V k z → TurnTo prog w A t0 f0 it env (R (.ok .next)) (G k) (fun z => ∃ m, m < k ∧ V m z) z)
    (step : ∀ k z, G k z → wpAny (model prog w) A (eval i1 env) (fun x z1 => wpAny (model prog w) A (pyIter x) (fun y z2 => codeAny (model prog w) A (.compStart (.ListComp elt gs scope pos) (d + 1) y acc env) (fun r z3 => match r with
      | .ok _ => ∃ m, m < k ∧ V m z3
      | .error _ => False) z2) noE z1) noE z) (n : Nat) (h : V n s) : codeAny (model prog w) A (.compLoop (.ListComp elt gs scope pos) d it acc env) R s := by
  refine codeAny_loop rfl V (fun k z hV => ?_) n h
  show wpAny _ A ((compTurn (.ListComp elt gs scope pos) d it acc env).onRaise (fun x => do noteFrame x env; theTreesLotGoes x)) _ _ z
  refine wpAny_noted ?_
  rw [turn_mid h0 h1]
  refine wpAny_bind (wpAny_standAt (wpAny_bind (noE_le (turn k z hV) fun r z1 q1 => ?_)))
  cases r with
  | none => exact wpAny_pure q1
  | some u =>
    refine wpAny_bind (noE_le q1 fun _ z2 q2 => wpAny_bind (noE_le q2 fun _ z3 q3 => wpAny_bind (noE_le q3 fun b z4 q4 => ?_)))
    cases b with
    | false => exact wpAny_pure ⟨rfl, q4⟩
    | true =>
      refine wpAny_bind (noE_le (step k z4 q4) fun x z5 q5 => ?_)
      refine wpAny_bind (wpAny_standAt (wpAny_bind (wpAny_of_eq (hs x) (wpAny_bind (wpAny_holding (noE_le q5 fun y z6 q6 => ?_))))))
      refine wpAny_bind (wpAny_runOwn ?_)
      rw [Around.mark_none]
      refine codeAny_mono q6 fun r z7 q7 => ?_
      cases r with
      | ok f =>
        first
          | exact wpAny_pure ⟨rfl, q7⟩
          | exact wpAny_bind (wpAny_pure (wpAny_pure ⟨rfl, q7⟩))
      | error e => exact q7.elim
theorem loop_last (h0 : gs[d]? = some ⟨t0, i0, f0, 0⟩) (h1 : gs[d + 1]? = none) (V G : Nat → Shared → Prop)
    (turn : ∀ k z, V k z → TurnTo prog w A t0 f0 it env (R (.ok .next)) (G k) (fun z => ∃ m, m < k ∧ V m z) z)
    (step : ∀ k z, G k z → wpAny (model prog w) A (eval elt env) (fun x z1 => wpAny (model prog w) A (call (.builtin "list.append") [acc, x]) (fun _ z2 => ∃ m, m < k ∧ V m z2) noE z1) noE z)
    (n : Nat) (h : V n s) : codeAny (model prog w) A (.compLoop (.ListComp elt gs scope pos) d it acc env) R s := by
  refine codeAny_loop rfl V (fun k z hV => ?_) n h
  show wpAny _ A ((compTurn (.ListComp elt gs scope pos) d it acc env).onRaise (fun x => do noteFrame x env; theTreesLotGoes x)) _ _ z
  refine wpAny_noted ?_
  rw [turn_last h0 h1]
  refine wpAny_bind (wpAny_standAt (wpAny_bind (noE_le (turn k z hV) fun r z1 q1 => ?_)))
  cases r with
  | none => exact wpAny_pure q1
  | some u =>
    refine wpAny_bind (noE_le q1 fun _ z2 q2 => wpAny_bind (noE_le q2 fun _ z3 q3 => wpAny_bind (noE_le q3 fun b z4 q4 => ?_)))
    cases b with
    | false => exact wpAny_pure ⟨rfl, q4⟩
    | true => exact wpAny_bind (wpAny_bind (noE_le (step k z4 q4) fun x z5 q5 => wpAny_bind (noE_le q5 fun _ z6 q6 => wpAny_pure (wpAny_pure ⟨rfl, q6⟩))))
/-- a later clause starts -/
theorem start_at (h0 : gs[d]? = some ⟨t0, i0, f0, 0⟩) (ha : codeAny (model prog w) A (.compLoop (.ListComp elt gs scope pos) d it acc env) R s)
    (hb : wpAny (model prog w) A (pyIter it) (fun y z => codeAny (model prog w) A (.compLoop (.ListComp elt gs scope pos) d y acc env) R z) (notedBy (model prog w) A env fun x z => R (.error x) z) s) :
    codeAny (model prog w) A (.compStart (.ListComp elt gs scope pos) d it acc env) R s := by
  have hcl : (clausesOf (.ListComp elt gs scope pos))[d]? = some ⟨t0, i0, f0, 0⟩ := h0
  refine codeAny_of_tree ?_
  show wpAny _ _ ((compStart (.ListComp elt gs scope pos) d it acc env).onRaise (fun x => do noteFrame x env; standAt theWindowsPlace)) _ _ s
  refine wpAny_notedAt ?_
  unfold compStart
  simp only [hcl]
  show wpAny _ _ (ask >>= _) _ _ s
  refine wpAny_bind (wpAny_askSetting (wpAny_ite ?_))
  split
  · first
      | exact wpAny_bind (wpAny_pure (wpAny_pure (And.intro rfl ha)))
      | exact wpAny_pure (And.intro rfl ha)
  · first
      | exact wpAny_bind (wpAny_rule (wpAny_bind (wpAny_standAt (wpAny_bind (wpAny_mono hb (fun y z q => wpAny_pure (And.intro rfl q)) fun _ _ x => x)))))
      | (refine wpAny_bind (wpAny_rule ?_); show wpAny _ _ (standAt i0.pos >>= _) _ _ s; exact wpAny_bind (wpAny_standAt (wpAny_bind (wpAny_mono hb (fun y z q => wpAny_pure (And.intro rfl q)) fun _ _ x => x))))
end
end DL
namespace DL
open PySem L2 PySem.Spec PyProof.Rows
/-- a clause: its text, what it does, the slots that are forgotten at each of its turns -/
structure Cl where
  tg : Expr
  iter : Expr
  ifs : List Expr
  wi : TI
  g : TG
  tt : TT
  vs : List Nat
abbrev Cl.c (c : Cl) : Comprehension := ⟨c.tg, c.iter, c.ifs, 0⟩
/-- one clause's turns; inn: what is done behind its tests -/
def wTurns (g : TG) (tt : TT) (vs : List Nat) (σ : L2.St) (inn : L2.St → Hp → (Hp → Prop) → Prop) (Nx : Hp → Prop) (J : It) (H1 : Hp) : Prop :=
  ∃ W : Nat → Nat → Hp → Prop, (∃ m, W 0 m H1) ∧ ∀ i m H, W i m H → (J.stop i H ∧ Nx H) ∨ (J.go i H ∧ ∃ N1 : Hp → Prop, (∀ H', N1 H' → ∃ m', m' < m ∧ W (i + 1) m' H') ∧
    ∀ x H', J.yld i H x H' → g x (wipe σ vs) H' fun σ2 H2 => wipe σ2 vs = wipe σ vs ∧ tt σ2 H2 fun b H3 => if b = true then inn σ2 H3 N1 else N1 H3)
def Nst (em : L2.St → Hp → (Hp → Prop) → Prop) : List Cl → L2.St → Hp → (Hp → Prop) → Prop
  | [], σ, H, Nx => em σ H Nx
  | c :: cs, σ, H, Nx => c.wi σ H fun J H1 => wTurns c.g c.tt c.vs σ (Nst em cs) Nx J H1
def emt (D : Addr) (te : TE) : L2.St → Hp → (Hp → Prop) → Prop := fun σ H Nx => te σ H fun y H1 => ∃ acc, H1 D = some (.lst acc) ∧ acc.length < sizeLine ∧ Nx (upd H1 D (.lst (acc ++ [y])))
def hvs : List Cl → List Nat
  | [] => []
  | c :: _ => c.vs
/-- what a clause asks of the block's context -/
structure ClOk (B : Cx) (c : Cl) : Prop where
  g : PG B c.tg c.g
  t : PTs B c.ifs c.tt
structure ClIn (B : Cx) (c : Cl) : Prop extends ClOk B c where
  i : PI B c.tg c.iter c.wi
  s : ∀ x, foldedSetIterable c.iter B.env x = pure x
def Dec : List Nat → List Cl → Prop
  | _, [] => True
  | vs, c :: cs => (∀ i ∈ c.vs, i ∈ vs) ∧ Dec c.vs cs
structure Kps (vs : List Nat) (σ σ' : L2.St) : Prop where
  len : σ'.length = σ.length
  k : ∀ (j : Nat) v, (wipe σ vs)[j]? = some (some v) → σ'[j]? = some (some v)
section
variable {B : Cx} {elt : Expr} {gs : List Comprehension} {scope : Scope} {pos : Pos} {D : Addr} {te : TE}
theorem kps_back {vs us : List Nat} {σ σ2 σ3 : L2.St} (hu : ∀ i ∈ us, i ∈ vs) (e : wipe σ2 vs = wipe σ vs) (k : Kps us σ2 σ3) : Kps [] (wipe σ vs) σ3 :=
  ⟨by rw [k.len, ← e, wipe_length], fun j v h => by
    have h : (wipe σ vs)[j]? = some (some v) := h
    rw [← e] at h
    obtain ⟨h1, h2⟩ := wipe_some h
    exact k.k j v (by rw [wipe_out fun z => h2 (hu j z)]; exact h1)⟩
theorem Kps.refl (vs : List Nat) (σ : L2.St) : Kps vs σ σ := ⟨rfl, fun j v h => (wipe_some h).1⟩
section
variable {c : Cl} {cs : List Cl} {P : List (Addr × Obj)} {σ : L2.St} {it : Addr} {fp : List Addr} {tn : Nat → Heap → Prop} {J : It} {Nx : Hp → Prop} {W : Nat → Nat → Hp → Prop}
/-- between two turns -/
def Btw (B : Cx) (c : Cl) (P : List (Addr × Obj)) (σ : L2.St) (fp : List Addr) (tn : Nat → Heap → Prop) (W : Nat → Nat → Hp → Prop) (k : Nat) (z : Shared) : Prop :=
  ∃ i H', Inv B P (wipe σ c.vs) H' z ∧ tn i z.heap ∧ (∀ b ∈ fp, H' b = none) ∧ W i k H'
/-- behind the tests -/
def Bhd (B : Cx) (V : Nat → Shared → Prop) (D : Addr) (te : TE) (cs : List Cl) (k : Nat) (z : Shared) : Prop :=
  ∃ σ2 H2 N1 P2, Inv B P2 σ2 H2 z ∧ Nst (emt D te) cs σ2 H2 N1 ∧ ∀ σ3 H3 z3, Inv B P2 σ3 H3 z3 → Kps (hvs cs) σ2 σ3 → N1 H3 → ∃ m, m < k ∧ V m z3
theorem clause_turn (hx : ∀ e z, ¬ B.xe e z) {done : Shared → Prop} (hd : ∀ H' z, Inv B P (wipe σ c.vs) H' z → Nx H' → done z) (hc : B.calm = true) (hdec : Dec c.vs cs) (ok : ClOk B c) (T : Turn B.prog B.w B.K c.tg J fp it tn) (stat : ∀ {H' : Hp}, (∀ b ∈ fp, H' b = none) → ∀ b ∈ fp, FpOk B P H' b)
    (turn : ∀ i m H, W i m H → (J.stop i H ∧ Nx H) ∨ (J.go i H ∧ ∃ N1 : Hp → Prop, (∀ H', N1 H' → ∃ m', m' < m ∧ W (i + 1) m' H') ∧
      ∀ x H', J.yld i H x H' → c.g x (wipe σ c.vs) H' fun σ2 H2 => wipe σ2 c.vs = wipe σ c.vs ∧ c.tt σ2 H2 fun b H3 => if b = true then Nst (emt D te) cs σ2 H3 N1 else N1 H3))
    {k : Nat} {z : Shared} (hv : Btw B c P σ fp tn W k z) :
    TurnTo B.prog B.w B.A c.tg c.ifs (.ref it) B.env done (Bhd B (Btw B c P σ fp tn W) D te cs k) (fun z => ∃ m, m < k ∧ Btw B c P σ fp tn W m z) z := by
  obtain ⟨i, H5, I5, st5, n5, w5⟩ := hv
  unfold TurnTo
  rcases turn i k H5 w5 with ⟨stop, nx⟩ | ⟨go, N1, hN1, yl⟩
  · refine noE_le (T.done B rfl rfl rfl hc i P z _ H5 noE I5 (stat n5) st5 stop) fun r z1 ⟨hr, I6⟩ => ?_
    subst hr
    exact hd H5 _ I6 nx
  · refine noE_le (T.item B rfl rfl rfl hc i P z _ H5 noE I5 (stat n5) st5 go) fun r z1 ⟨u, hr, h6⟩ => ?_
    subst hr
    refine noE_le h6 fun _ z2 ⟨x, H7, I7, r7, y7, st7, n7⟩ => ?_
    have pinned := I7.pinned (stat n7) (T.obj _ _ st7)
    refine wpAny_mono (ok.g.run _ z2 _ H7 x u _ pinned r7 (yl x H7 y7)) (fun _ z3 ⟨σ8, H8, I8, hw8, q8⟩ => ?_) fun e z hx1 => ?_
    · refine wpAny_mono (ok.t.run _ z3 σ8 H8 _ I8 q8) (fun b z4 ⟨H9, I9, q9⟩ => ?_) fun e z hx2 => ?_
      · have fin : ∀ σ3 H3 z3, Inv B (P ++ pinsAt fp z2.heap) σ3 H3 z3 → Kps (hvs cs) σ8 σ3 → N1 H3 → ∃ m, m < k ∧ Btw B c P σ fp tn W m z3 := fun σ3 H3 z3 I' kp nx => by
          obtain ⟨m', hm, w'⟩ := hN1 H3 nx
          have pin' : ∀ b ∈ fp, ∀ o, z2.heap.get? b = some o → z3.heap.get? b = some o ∧ H3 b = none := fun b hb o e =>
            let q := I'.pin (b, o) (List.mem_append_right _ (List.mem_append_right _ (mem_pinsAt hb e)))
            ⟨q.1, q.2.1⟩
          have kb : Kps [] (wipe σ c.vs) σ3 := kps_back (us := hvs cs) (by cases cs with
            | nil => intro i h; cases h
            | cons x xs => exact hdec.1) hw8 kp
          refine ⟨m', hm, i + 1, H3, (I'.unpinned (pins := P)).weak kb.len.symm kb.k, T.keep _ _ _ st7 fun b hb o e => (pin' b hb o e).1, fun b hb => ?_, w'⟩
          obtain ⟨o, e, _⟩ := T.obj _ _ st7 b hb
          exact (pin' b hb o e).2
        cases b with
        | false =>
          simp only [Bool.false_eq_true, if_false] at q9 ⊢
          exact fin σ8 H9 z4 I9 (Kps.refl _ _) q9
        | true =>
          simp only [if_true] at q9 ⊢
          exact ⟨σ8, H9, N1, _, I9, q9, fin⟩
      · exact (hx e z hx2).elim
    · exact (hx e z hx1).elim
/-- a clause's loop -/
theorem clause_loop (hx : ∀ e z, ¬ B.xe e z) (hc : B.calm = true) (hel : PE B elt te) : ∀ (cs : List Cl) (c : Cl) (d : Nat) (P : List (Addr × Obj)) (σ : L2.St) (H : Hp) (s : Shared) (it : Addr) (fp : List Addr) (tn : Nat → Heap → Prop) (J : It) (Nx : Hp → Prop) (R : Result → Shared → Prop),
    (∀ H' z, Inv B P (wipe σ c.vs) H' z → Nx H' → R (.ok .next) z) →
    gs[d]? = some c.c → (∀ j, gs[d + 1 + j]? = (cs.map Cl.c)[j]?) → Dec c.vs cs → ClOk B c → (∀ x ∈ cs, ClIn B x) → Inv B P (wipe σ c.vs) H s → Turn B.prog B.w B.K c.tg J fp it tn → tn 0 s.heap → (∀ b ∈ fp, FpOk B P H b) →
    wTurns c.g c.tt c.vs σ (Nst (emt D te) cs) Nx J H →
    codeAny (model B.prog B.w) B.A (.compLoop (.ListComp elt gs scope pos) d (.ref it) (.ref D) B.env) R s := by
  intro cs
  induction cs with
  | nil =>
    intro c d P σ H s it fp tn J Nx R hR h0 hr hdec okc okcs I T st hfp ⟨W, ⟨m0, w0⟩, turn⟩
    have h1 : gs[d + 1]? = none := by simpa using hr 0
    have stat : ∀ {H' : Hp}, (∀ b ∈ fp, H' b = none) → ∀ b ∈ fp, FpOk B P H' b := fun hn b hb => ⟨hn b hb, (hfp b hb).2⟩
    refine loop_last h0 h1 (Btw B c P σ fp tn W) (Bhd B (Btw B c P σ fp tn W) D te [] ) (fun k z hv => clause_turn (te := te) (cs := []) hx hR hc hdec okc T stat turn hv) (fun k z hg => ?_) m0 ⟨0, H, I, st, fun b hb => (hfp b hb).1, w0⟩
    obtain ⟨σ2, H2, N1, P2, I2, q, fin⟩ := hg
    refine wpAny_mono (hel.run _ z σ2 H2 _ I2 q) (fun u z1 ⟨yv, H3, I3, r3, acc, hD, hz, nx⟩ => ?_) fun e z he => (hx e z he).elim
    exact app_ok (X := B) I3 hD hz r3 fun z2 I4 => fin σ2 _ z2 I4 (Kps.refl _ _) nx
  | cons c2 cs ih =>
    intro c d P σ H s it fp tn J Nx R hR h0 hr hdec okc okcs I T st hfp ⟨W, ⟨m0, w0⟩, turn⟩
    have h1 : gs[d + 1]? = some c2.c := by simpa using hr 0
    have hr2 : ∀ j, gs[d + 1 + 1 + j]? = (cs.map Cl.c)[j]? := fun j => by
      have := hr (j + 1)
      rw [show d + 1 + (j + 1) = d + 1 + 1 + j by omega] at this
      simpa using this
    have ok2 := okcs c2 List.mem_cons_self
    have stat : ∀ {H' : Hp}, (∀ b ∈ fp, H' b = none) → ∀ b ∈ fp, FpOk B P H' b := fun hn b hb => ⟨hn b hb, (hfp b hb).2⟩
    refine loop_mid h0 h1 ok2.s (Btw B c P σ fp tn W) (Bhd B (Btw B c P σ fp tn W) D te (c2 :: cs)) (fun k z hv => clause_turn (te := te) (cs := c2 :: cs) hx hR hc hdec okc T stat turn hv) (fun k z hg => ?_) m0 ⟨0, H, I, st, fun b hb => (hfp b hb).1, w0⟩
    obtain ⟨σ2, H2, N1, P2, I2, q, fin⟩ := hg
    refine wpAny_mono (ok2.i.run _ z σ2 H2 _ I2 q) (fun xv z1 hx1 => wpAny_mono hx1 (fun itv z2 hp => ?_) fun e z he => (hx e z he).elim) fun e z he => (hx e z he).elim
    obtain ⟨it1, fp1, tn1, J1, H3, e1, I3, T1, st1, hfp1, tw⟩ := hp
    subst e1
    have I3w : Inv B P2 (wipe σ2 c2.vs) H3 z2 := I3.weak (wipe_length _ _) fun j v e => (wipe_some e).1
    have lp := ih c2 (d + 1) P2 σ2 H3 z2 it1 fp1 tn1 J1 N1 (fun r z3 => match r with
      | .ok _ => ∃ m, m < k ∧ Btw B c P σ fp tn W m z3
      | .error _ => False) (fun H' z' I' nx => fin (wipe σ2 c2.vs) H' z' I' ⟨wipe_length _ _, fun j v e => e⟩ nx) h1 hr2 hdec.2 ok2.toClOk (fun x hx => okcs x (List.mem_cons_of_mem _ hx)) I3w T1 st1 hfp1 tw
    exact start_at h1 lp (T1.self B.A 0 _ _ _ st1 lp)
end
end
end DL
namespace DL
open PySem L2 PySem.Spec PyProof.Rows
section
variable {X : Cx}
/-- [elt for .. in .. for .. in ..], any number of clauses -/
def tLcN (c : Cl) (cs : List Cl) (te : TE) : TE := fun σ H Q => c.wi σ H fun J H1 => ∀ D, H1 D = none → wTurns c.g c.tt c.vs σ (Nst (emt D te) cs) (fun H2 => Q (.ref D) H2) J (upd H1 D (.lst []))
abbrev Blk (X : Cx) (scope : Scope) (B : Cx) : Prop := ∃ s H C cl fp, B = X.blk s H scope (compEnvC scope cl C X.env) fp
theorem lcN_core {P : List (Addr × Obj)} {s : Shared} {σ : L2.St} {H : Hp} {Q : VK} {elt : Expr} {c : Cl} {cs : List Cl} {scope : Scope} {own : List (Str × Nat)} {pos pos' : Pos} {te : TE} {use : Option (Value → Sem Unit)} {Qf : Value → Shared → Prop}
    (hc : X.calm = true) (hN : X.N.Nodup) (I : Inv X P σ H s) (hi : PI X c.tg c.iter c.wi) (ok : BlkOk X.N X.env.scope scope own) (hv : c.vs = own.map (·.2)) (hdec : Dec c.vs cs)
    (hcl : ∀ B, Blk X scope B → ClOk B c ∧ (∀ x ∈ cs, ClIn B x) ∧ PE B elt te) (hs : ∀ x, foldedSetIterable c.iter X.env x = pure x) (h : tLcN c cs te σ H Q)
    (hend : ∀ D C z m H', Inv X P σ H' z → Q (.ref D) H' → z.heap.Ns C m → FpOk X P H' C → compPost (model X.prog X.w) X.A X.xe use Qf (.ref D) C (.ok .next) z) :
    wpAny (model X.prog X.w) X.A (comprehension (.ListComp elt (c.c :: cs.map Cl.c) scope pos) scope X.env pos' (newList []) false (eval c.iter X.env) use) Qf X.xe s := by
  have cells : ∀ y ∈ scope.names, y.2 = .free → ∃ a, X.env.cells.lookup y.1 = some a := fun y hy e => (ok.free y hy e).elim (fun q => I.ok.has _ (.inl q)) fun q => I.ok.has _ (.inr q)
  refine wpAny_comprehension_free (use := use) rfl hs (closure_ok cells) ok.kind (fun y hy e => (ok.uniq y hy).trans (by rw [e])) (thn (hi.run P s σ H _ I h) fun xv z1 q1 => thn q1 fun yv z2 q2 => ?_)
  obtain ⟨it, fp, tn, J, H2, e, I2, T, st2, f2, q⟩ := q2
  subst e
  refine wpAny_newObj_type (newEnv_comp ?_) (by show 0 ≤ sizeLine; decide)
  generalize hD : z2.heap.objs.size = D
  have free : H2 D = none := I2.hok.fresh (Nat.le_of_eq hD)
  have tw := q D free
  generalize hz3 : ({ z2 with heap := z2.heap.push { cls := .type "list", data := .seq ([] : List Value).toArray } } : Shared) = z3
  have heap3 : z3.heap = z2.heap.push { cls := .type "list", data := .seq ([] : List Value).toArray } := by rw [← hz3]
  have I3 : Inv X P σ (upd H2 D (.lst [])) z3 := by
    subst hz3
    refine I2.laid (t' := z2.toks) (fun b o e => Heap.get?_push_of_some _ e) (Nat.le_of_eq hD) ⟨Nat.zero_le _, [], 0, .nil, ?_⟩
    subst hD
    exact Heap.get?_push_size _ rfl
  have f3 : ∀ b ∈ fp, FpOk X P (upd H2 D (.lst [])) b ∧ b < z3.heap.objs.size := fun b hb => by
    obtain ⟨o, e, _⟩ := T.obj _ _ st2 b hb
    have lt := Heap.lt_size e
    exact ⟨⟨(upd_ne (by rw [← hD]; exact Nat.ne_of_lt lt)).trans (f2 b hb).1, (f2 b hb).2⟩, by rw [heap3, Heap.size_push]; exact Nat.lt_succ_of_lt lt⟩
  have st3 : tn 0 z3.heap := T.keep _ _ _ st2 fun b _ o e => by rw [heap3]; exact Heap.get?_push_of_some _ e
  have I4 := block_start I3 ok hN f3
  obtain ⟨okc, okcs, oke⟩ := hcl _ ⟨z3, upd H2 D (.lst []), z3.heap.objs.size, cellsFrom (z3.heap.objs.size + 1) scope.names (cloFrom X.env.cells scope.names []), fp, rfl⟩
  show codeAny _ _ (.compStart (.ListComp elt (c.c :: cs.map Cl.c) scope pos) 0 (.ref it) (.ref D) (compEnvC scope (cellsFrom (z3.heap.objs.size + 1) scope.names (cloFrom X.env.cells scope.names [])) z3.heap.objs.size X.env)) (compPost (model X.prog X.w) X.A X.xe use Qf (.ref D) z3.heap.objs.size) { z3 with heap := pushCells (z3.heap.push { cls := .type "dict", data := .dict #[] }) scope.names }
  generalize hce : compEnvC scope (cellsFrom (z3.heap.objs.size + 1) scope.names (cloFrom X.env.cells scope.names [])) z3.heap.objs.size X.env = ce at I4 okc okcs oke ⊢
  have loc : ce.locals = z3.heap.objs.size := by subst hce; rfl
  generalize hH3 : upd H2 D (.lst []) = H3 at I3 I4 okc okcs oke tw f3
  generalize hz4 : ({ z3 with heap := pushCells (z3.heap.push { cls := .type "dict", data := .dict #[] }) scope.names } : Shared) = z4 at I4 ⊢
  have st4 : tn 0 z4.heap := T.keep _ _ _ st3 fun b _ o e => by rw [← hz4]; exact pushCells_keeps _ _ _ _ (Heap.get?_push_of_some _ e)
  have f4 : ∀ b ∈ fp, FpOk (X.blk z3 H3 scope ce fp) [] H3 b := fun b hb =>
    ⟨(f3 b hb).1.1, (I4.ok.exf b hb).1, I4.ok.exfs b hb, .inl hb, fun x a e => (I4.ok.exf b hb).2 x a e, fun p hp => absurd (show p ∈ ([] : List (Addr × Obj)) ++ [] from hp) (by simp)⟩
  rw [← hv] at I4
  have lp := clause_loop (B := X.blk z3 H3 scope ce fp) (elt := elt) (gs := c.c :: cs.map Cl.c) (scope := scope) (pos := pos) (D := D) (te := te) (fun _ _ f => f) hc oke cs c 0 [] σ H3 z4 it fp tn J (fun H5 => Q (.ref D) H5) (compPost (model X.prog X.w) X.A X.xe use Qf (.ref D) z3.heap.objs.size)
    (fun H5 z5 I5 q5 => by
      have I6 : Inv X P σ H5 z5 := I3.call' (ch := fp) I5.os I5.base I5.hok I5.bare fun b hb => ⟨(f3 b hb).1.2.2.2.1, (f3 b hb).1.2.1, (f3 b hb).1.2.2.2.2.1, (f3 b hb).1.2.2.2.2.2⟩
      have nC : H5 z3.heap.objs.size = none := by
        have f : H5 ce.locals = none := I5.free
        rw [loc] at f
        exact f
      obtain ⟨m, hn, _⟩ := I5.loc
      have hn : z5.heap.Ns ce.locals m := hn
      rw [loc] at hn
      exact hend D z3.heap.objs.size z5 m H5 I6 q5 hn (I3.fpOk (Nat.le_refl _) nC))
    rfl (fun j => by rw [show 0 + 1 + j = j + 1 by omega, List.getElem?_cons_succ]) hdec okc okcs I4 T st4 f4 tw
  exact codeAny_compStart_list lp (T.self X.A 0 _ _ _ st4 lp)
theorem pe_lcN {elt : Expr} {c : Cl} {cs : List Cl} {scope : Scope} {own : List (Str × Nat)} {pos : Pos} {te : TE} (hc : X.calm = true) (hN : X.N.Nodup) (hi : PI X c.tg c.iter c.wi) (ok : BlkOk X.N X.env.scope scope own) (hv : c.vs = own.map (·.2)) (hdec : Dec c.vs cs)
    (hcl : ∀ B, Blk X scope B → ClOk B c ∧ (∀ x ∈ cs, ClIn B x) ∧ PE B elt te) (hs : ∀ x, foldedSetIterable c.iter X.env x = pure x) : PE X (.ListComp elt (c.c :: cs.map Cl.c) scope pos) (tLcN c cs te) := by
  refine ⟨fun P s σ H Q I h => ?_⟩
  rw [eval_ListComp]
  refine lcN_core hc hN I hi ok hv hdec hcl hs h fun D C z m H' I' q hn f => ⟨m, hn, fun h2 sb => ?_⟩
  obtain ⟨g0, g1, g2, g3, g4, g5⟩ := f
  exact ⟨.ref D, H', I'.turned (t' := z.toks) (fun b o hb e => (sb.2 b hb).trans e) g0 g1 g3 g4 g5, rfl, q⟩
/-- name = [..] on one line -/
theorem ps_setLcN {i : Nat} {y : Str} {py : Pos} {elt : Expr} {c : Cl} {cs : List Cl} {scope : Scope} {own : List (Str × Nat)} {pos spos : Pos} {te : TE} (hc : X.calm = true) (hN : X.N.Nodup) (hy : X.N[i]? = some y) (hyl : X.env.scope.names.lookup y = some .local)
    (hsw : swapsWith (.ListComp elt (c.c :: cs.map Cl.c) scope pos) (some (.Name y py)) spos.line X.env = pure true) (hi : PI X c.tg c.iter c.wi) (ok : BlkOk X.N X.env.scope scope own) (hv : c.vs = own.map (·.2)) (hdec : Dec c.vs cs)
    (hcl : ∀ B, Blk X scope B → ClOk B c ∧ (∀ x ∈ cs, ClIn B x) ∧ PE B elt te) (hs : ∀ x, foldedSetIterable c.iter X.env x = pure x) : PS X (.Assign [.Name y py] (.ListComp elt (c.c :: cs.map Cl.c) scope pos) spos) (tAsg (tLcN c cs te) (gName i)) := by
  refine ⟨fun P s σ H D I h => ?_⟩
  rw [exec_Assign_Name_used _ _ _ _ hsw]
  refine wpAny_bind (wpAny_standAt (wpAny_bind ?_))
  show wpAny _ X.A (do let _ ← comprehension (.ListComp elt (c.c :: cs.map Cl.c) scope pos) scope X.env (firstIterPos (c.c :: cs.map Cl.c) pos) (newList []) false (eval c.iter X.env) (some (assign (.Name y py) X.env))) _ _ s
  have h : tLcN c cs te σ H (fun x H1 => gName i x σ H1 D.nx) := h
  refine wpAny_bind (thn (lcN_core (Qf := fun _ z => SP X P D .next z) hc hN I hi ok hv hdec hcl hs h fun L C z m H' I' q hn f => ?_) fun _ z hq => wpAny_pure (wpAny_pure hq))
  show wpAny _ _ (assign (.Name y py) X.env (.ref L)) _ _ _
  refine wpAny_assign_Name (store_ok2 (v := V.ref L) I' hN hy (.inl hyl) rfl (fun z2 I2 ⟨a, sb, ha⟩ => ?_) (.inr hyl))
  obtain ⟨g0, g1, g2, g3, g4, g5⟩ := f
  have ne : C ≠ a := ha.elim (fun q => by rw [q]; exact g1) fun q e => g4 y a q e.symm
  refine ⟨m, hn.sameBut sb ne, fun h3 sb3 => ?_⟩
  exact ⟨_, H', I2.turned (t' := z2.toks) (fun b o hb e => (sb3.2 b hb).trans e) g0 g1 g3 g4 g5, q⟩
end
end DL

namespace DL
open PySem L2
/-! ### comprehensions -/
abbrev noX : DX := fun _ _ => False
abbrev W0 : WX := fun _ _ _ _ => False
theorem wipe_get (σ : L2.St) (j : Nat) : ∀ vs : List Nat, (wipe σ vs)[j]? = if j ∈ vs then σ[j]?.map (fun _ => none) else σ[j]?
  | [] => by simp [wipe]
  | v :: vs => by
    show ((wipe σ vs).set v none)[j]? = _
    rw [List.getElem?_set, wipe_length, wipe_get σ j vs]
    by_cases e : v = j
    · subst e
      by_cases l : v < σ.length
      · simp [l]
      · simp [l, List.getElem?_eq_none (Nat.le_of_not_lt l)]
    · have e2 : ¬ j = v := fun z => e z.symm
      simp [e, e2]
theorem wipe_set {σ : L2.St} {i : Nat} {x : Option V} {vs : List Nat} (h : i ∈ vs) : wipe (σ.set i x) vs = wipe σ vs := by
  apply List.ext_getElem?
  intro j
  rw [wipe_get, wipe_get]
  by_cases m : j ∈ vs
  · rw [if_pos m, if_pos m, List.getElem?_set]
    by_cases e : i = j
    · subst e
      by_cases l : i < σ.length
      · simp [l]
      · simp [l, List.getElem?_eq_none (Nat.le_of_not_lt l)]
    · simp [e]
  · rw [if_neg m, if_neg m, List.getElem?_set_ne fun e => m (by rw [← e]; exact h)]
theorem wipe_wipe (σ : L2.St) (vs : List Nat) : wipe (wipe σ vs) vs = wipe σ vs := by
  apply List.ext_getElem?
  intro j
  rw [wipe_get, wipe_get]
  by_cases m : j ∈ vs
  · simp [m, Function.comp_def]
  · simp [m]
def wipeD (τ : DSt) : List Nat → DSt
  | [] => τ
  | v :: vs => (wipeD τ vs).set v none
theorem RepS.wipe {K : PySem.W.Frag} {M : Mu} {H : Hp} {τ : DSt} {σ : L2.St} (h : RepS K M H τ σ) : ∀ vs : List Nat, RepS K M H (wipeD τ vs) (L2.wipe σ vs)
  | [] => h
  | v :: vs => RepS.none v Option.none (h.wipe vs)

theorem Gd.blk {X : Cx} {W : WX} (G : Gd X W) (s : Shared) (H : Hp) (scope : Scope) (cenv : Env) (fp : List Addr) : Gd (X.blk s H scope cenv fp) W0 :=
  ⟨G.calm, fun u s' ⟨a, B, sI, pins, σ, H, cls, d, e, I, nb, up, sky, na, os, ag, w⟩ => w.elim, G.hu, PassesOwn.never, G.nd⟩

/-- a target of the block's own names vs -/
def lifGw (K : PySem.W.Frag) (W : WX) (g : DTG) (vs : List Nat) : TG := fun v σ H Q => lifG K W g v σ H fun σ' H' => wipe σ' vs = wipe σ vs → Q σ' H'
def lifGsw (K : PySem.W.Frag) (W : WX) (g : DTGs) (vs : List Nat) : TGs := fun us σ H Q => lifGs K W g us σ H fun σ' H' => wipe σ' vs = wipe σ vs → Q σ' H'
abbrev DGw (X : Cx) (W : WX) (tg : Expr) (g : DTG) (vs : List Nat) : Prop := PG X tg (lifGw X.K W g vs)
abbrev DGsw (X : Cx) (W : WX) (tg : List Expr) (g : DTGs) (vs : List Nat) : Prop := PGs X tg (lifGsw X.K W g vs)
section
variable {X : Cx} {W : WX} {a b c e o i : Expr} {rest es : List Expr} {ta tb tc te to ti : DTE} {tl : DTA} {tt : DTT} {pos apos cpos p : Pos} {x : Str} {vs : List Nat}
theorem dgw_name (j : Nat) (hN : X.N.Nodup) (hj : j ∈ vs := by decide) (hi : X.N[j]? = some x := by rfl) (hx : Loc X.env.scope x := by first | exact .inl rfl | exact .inr rfl) (hf : X.fn x = true ∨ X.env.scope.names.lookup x = some .local := by first | exact .inl rfl | exact .inr rfl) : DGw X W (.Name x pos) (dgName j) vs :=
  PG.of (pg_name hN hi hx hf) fun v σ H Q ⟨d, τ, M, Q0, E0, r, S, h⟩ => S.q _ M _ H h (S.rs.set r j) S.co (Stp.refl M H) (wipe_set hj)
theorem dgsw_nil : DGsw X W [] dgNil vs := PGs.of pgs_nil fun us σ H Q ⟨ds, τ, M, Q0, r, S, h⟩ => by
  cases ds with
  | nil => exact ⟨r.unnil, S.q _ M _ H h S.rs S.co (Stp.refl M H) rfl⟩
  | cons d r => exact h.elim
theorem dgsw_cons (j : Nat) {u : DTGs} (hN : X.N.Nodup) (h2 : DGsw X W es u vs) (hj : j ∈ vs := by decide) (hi : X.N[j]? = some x := by rfl) (hx : Loc X.env.scope x := by first | exact .inl rfl | exact .inr rfl) (hf : X.fn x = true ∨ X.env.scope.names.lookup x = some .local := by first | exact .inl rfl | exact .inr rfl)
    (hs : (assignEach (.Name x pos :: es) X.env).map (·.2) = assign (.Name x pos) X.env :: (assignEach es X.env).map (·.2) := by rfl) : DGsw X W (.Name x pos :: es) (dgCons j u) vs :=
  PGs.of (pgs_cons (pg_name hN hi hx hf) h2 hs) fun us σ H Q ⟨ds, τ, M, Q0, r, S, h⟩ => by
    cases ds with
    | nil => exact h.elim
    | cons d ds =>
      obtain ⟨v, us, rfl, r1, r2⟩ := r.uncons
      exact ⟨v, us, rfl, ds, τ.set j (some d), M, Q0, r2, ⟨S.rs.set r1 j, S.co, fun a b c d h r c' s hw => S.q a b c d h r c' s (hw.trans (wipe_set hj)), fun _ _ _ _ _ h => h.elim⟩, h⟩
theorem dgw_tup {k n : Nat} {u : DTGs} (G : Gd X W) (h : DGsw X W es u vs) (hn : (assignEach es X.env).length = n := by rfl) (hst : (assignEach es X.env).findIdx? (·.1) = none := by rfl) : DGw X W (.Tuple es k pos) (dgTup n u) vs :=
  PG.of (pg_tup G.calm h hn hst) fun v σ H Q ⟨d, τ, M, Q0, E0, r, S, h⟩ => by
    cases d with
    | tup ds =>
      obtain ⟨a, us, rfl, ha, ra⟩ := rep_of_tup r
      exact ⟨a, us, rfl, sqT_of ha, by rw [ra.length]; exact h.1, ds, τ, M, Q0, ra, ⟨S.rs, S.co, S.q, fun _ _ _ _ _ h => h.elim⟩, h.2⟩
    | _ => exact h.elim
theorem dgw_lst {k n : Nat} {u : DTGs} (G : Gd X W) (h : DGsw X W es u vs) (hn : (assignEach es X.env).length = n := by rfl) (hst : (assignEach es X.env).findIdx? (·.1) = none := by rfl) : DGw X W (.Tuple es k pos) (dgLst n u) vs :=
  PG.of (pg_lst G.calm h hn hst) fun v σ H Q ⟨d, τ, M, Q0, E0, r, S, h⟩ => by
    cases d with
    | lst ds =>
      obtain ⟨a, us, rfl, ha, _, ra⟩ := rep_of_lst r
      exact ⟨a, us, rfl, .inl (.inl ha), by rw [ra.length]; exact h.1, ds, τ, M, Q0, ra, ⟨S.rs, S.co, S.q, fun _ _ _ _ _ h => h.elim⟩, h.2⟩
    | _ => exact h.elim

/-! tests behind `if` -/
abbrev DTs (X : Cx) (W : WX) (ifs : List Expr) (t : DTT) : Prop := PTs X ifs (lif X.K W RB t)
def dYes : DTT := fun _ M Q _ => Q true M
theorem dts_nil : DTs X W [] dYes := ⟨fun pins s σ H Q I ⟨τ, M, Q0, E0, S, h⟩ => pts_nil.run pins s σ H Q I (S.end_ h rfl)⟩
theorem dts_one (h : DT X W c tt) : DTs X W [c] tt := pts_one h

/-! the clauses -/
structure DCl where
  ti : DTI
  g : DTG
  tt : DTT
  vs : List Nat
def wTs (g : DTG) (tt : DTT) (vs : List Nat) (τ : DSt) (inn : DSt → Mu → (Mu → Prop) → Prop) (Nx : Mu → Prop) : List D → Mu → Prop
  | [], M => Nx M
  | d :: ds, M => g d (wipeD τ vs) M (fun τ2 M2 => tt τ2 M2 (fun b M3 => if b = true then inn τ2 M3 (wTs g tt vs τ inn Nx ds) else wTs g tt vs τ inn Nx ds M3) noX) noX
def wNst (em : DSt → Mu → (Mu → Prop) → Prop) : List DCl → DSt → Mu → (Mu → Prop) → Prop
  | [], τ, M, Nx => em τ M Nx
  | c :: cs, τ, M, Nx => c.ti τ M (fun ds M1 => wTs c.g c.tt c.vs τ (wNst em cs) Nx ds M1) noX
/-- the next item comes to the list at p -/
def dEm (p : Addr) (te : DTE) : DSt → Mu → (Mu → Prop) → Prop := fun τ M Nx => te τ M (fun y M1 => ∃ acc, M1 p = some (.lst acc) ∧ acc.length < sizeLine ∧ Nx (put M1 p (.lst (acc ++ [y])))) noX
/-- the list that is made, at a place of its own -/
def dLcM (ti : DTI) (g : DTG) (tt : DTT) (vs : List Nat) (cs : List DCl) (te : DTE) : DTE := fun τ M Q E => ti τ M (fun ds M1 => ∀ p, M1 p = none → wTs g tt vs τ (wNst (dEm p te) cs) (fun M2 => Q (.ref p) M2) ds (put M1 p (.lst []))) E
def Inn (K : PySem.W.Frag) (inn : DSt → Mu → (Mu → Prop) → Prop) (innL : L2.St → Hp → (Hp → Prop) → Prop) : Prop :=
  ∀ τ σ M H Nx0 Nx, RepS K M H τ σ → Cor K M H → (∀ M' H', Nx0 M' → Cor K M' H' → Stp M H M' H' → Nx H') → inn τ M Nx0 → innL σ H Nx
theorem turns_ok {K : PySem.W.Frag} {inn : DSt → Mu → (Mu → Prop) → Prop} {innL : L2.St → Hp → (Hp → Prop) → Prop} (hin : Inn K inn innL) {g : DTG} {τ : DSt} {σ : L2.St} {M M1 : Mu} {H H1 : Hp} {ds : List D} {J : It} {Nx0 : Mu → Prop} {Nx : Hp → Prop}
    (hJ : ItOk K M H ds J) (rs : RepS K M H τ σ) (hN : ∀ M' H', Nx0 M' → Cor K M' H' → Stp M H M' H' → Nx H') (s1 : Stp M H M1 H1) (c1 : Cor K M1 H1) (h : wTs g tt vs τ inn Nx0 ds M1) :
    wTurns (lifGw K W0 g vs) (lif K W0 RB tt) vs σ innL Nx J H1 := by
  refine ⟨fun i m H2 => m = ds.length - i ∧ i ≤ ds.length ∧ ∃ M2, Stp M H M2 H2 ∧ Cor K M2 H2 ∧ wTs g tt vs τ inn Nx0 (ds.drop i) M2, ⟨ds.length, rfl, Nat.zero_le _, M1, s1, c1, h⟩, ?_⟩
  rintro i m H2 ⟨rfl, hi, M2, s2, c2, h2⟩
  obtain ⟨k1, k2, k3⟩ := hJ M2 H2 s2 c2
  by_cases hlt : i < ds.length
  · have e : ds.drop i = ds[i] :: ds.drop (i + 1) := List.drop_eq_getElem_cons hlt
    rw [e] at h2
    refine .inr ⟨k2 i hlt, fun H3 => ∃ M3, Stp M H M3 H3 ∧ Cor K M3 H3 ∧ wTs g tt vs τ inn Nx0 (ds.drop (i + 1)) M3, fun H3 q => ⟨ds.length - (i + 1), by omega, rfl, hlt, q⟩, fun x H3 y => ?_⟩
    obtain ⟨y1, y2, y3⟩ := k3 i ds[i] x H3 (List.getElem?_eq_getElem hlt) y
    have s3 := s2.trans y3
    refine ⟨ds[i], wipeD τ vs, M2, _, noX, y1, ⟨(rs.stp s3).wipe vs, y2, fun τ4 M4 σ4 H4 h4 r4 c4 s4 hw => ⟨hw.trans (wipe_wipe σ vs), ?_⟩, fun _ _ _ _ _ z => z.elim⟩, h2⟩
    refine ⟨τ4, M4, _, noX, ⟨r4, c4, fun b M5 b' H5 h5 r5 c5 s5 => ?_, fun _ _ _ _ _ z => z.elim⟩, h4⟩
    cases r5
    cases b with
    | false => exact ⟨M5, s3.trans (s4.trans s5), c5, h5⟩
    | true =>
      simp only [if_true] at h5 ⊢
      exact hin τ4 σ4 M5 H5 _ _ (r4.stp s5) c5 (fun M' H' n c' s' => ⟨M', s3.trans (s4.trans (s5.trans s')), c', n⟩) h5
  · have e : i = ds.length := by omega
    rw [e, List.drop_length] at h2
    exact .inl ⟨k1 i (by omega), hN M2 H2 h2 c2 s2⟩
theorem em_ok {K : PySem.W.Frag} (p : Addr) : Inn K (dEm p te) (emt p (lif K W0 (RD K) te)) := fun τ σ M H Nx0 Nx rs co hN h => by
  refine ⟨τ, M, _, noX, ⟨rs, co, fun yd M6 yv H6 h6 r6 c6 s6 => ?_, fun _ _ _ _ _ z => z.elim⟩, h⟩
  obtain ⟨acc, ha, hl, h6⟩ := h6
  obtain ⟨us, hu, ru⟩ := mu_lst c6 ha
  have st := Stp.write (H := H6) (o := .lst (us ++ [yv])) (mo' := .lst (acc ++ [yd])) ha
  exact ⟨us, hu, by rw [ru.length]; exact hl, hN _ _ h6 (c6.write ha (mo' := .lst (acc ++ [yd])) (o := .lst (us ++ [yv])) ⟨_, rfl, ru.snoc r6⟩) (s6.trans st)⟩
/-- a clause and its text -/
structure TCl where
  tg : Expr
  iter : Expr
  ifs : List Expr
  c : DCl
def TCl.cl (K : PySem.W.Frag) (c : TCl) : Cl := ⟨c.tg, c.iter, c.ifs, lif K W0 (ItOk K) c.c.ti, lifGw K W0 c.c.g c.c.vs, lif K W0 RB c.c.tt, c.c.vs⟩
theorem nst_ok {K : PySem.W.Frag} {em : DSt → Mu → (Mu → Prop) → Prop} {emL : L2.St → Hp → (Hp → Prop) → Prop} (he : Inn K em emL) : ∀ cs : List TCl, Inn K (wNst em (cs.map (·.c))) (Nst emL (cs.map (TCl.cl K)))
  | [] => he
  | c :: cs => fun τ σ M H Nx0 Nx rs co hN h =>
    ⟨τ, M, _, noX, ⟨rs, co, fun ds M1 J H1 h1 r1 c1 s1 => turns_ok (nst_ok he cs) r1 (rs.stp s1) (fun M' H' n c' s' => hN M' H' n c' (s1.trans s')) (Stp.refl M1 H1) c1 h1, fun _ _ _ _ _ z => z.elim⟩, h⟩
variable {elt tg iter : Expr} {ifs : List Expr} {scope : Scope} {own : List (Str × Nat)} {ti : DTI} {g : DTG} {cs : List TCl}
def fCl (X : Cx) (W : WX) (tg iter : Expr) (ifs : List Expr) (ti : DTI) (g : DTG) (tt : DTT) (vs : List Nat) : Cl := ⟨tg, iter, ifs, lif X.K W (ItOk X.K) ti, lifGw X.K W0 g vs, lif X.K W0 RB tt, vs⟩
theorem lif_lc {σ : L2.St} {H : Hp} {Q : VK} (h : lif X.K W (RD X.K) (dLcM ti g tt vs (cs.map (·.c)) te) σ H Q) :
    tLcN (fCl X W tg iter ifs ti g tt vs) (cs.map (TCl.cl X.K)) (lif X.K W0 (RD X.K) te) σ H Q := by
  obtain ⟨τ, M, Q0, E0, S, h⟩ := h
  refine S.sub h fun ds M1 J H1 h1 r1 S1 s1 => ?_
  intro D hD
  exact turns_ok (nst_ok (em_ok D) cs) r1 S1.rs (fun M' H' n c' s' => S1.q (.ref D) M' (.ref D) H' n rfl c' s') (Stp.newM hD) (S1.co.newM hD (mo := .lst []) ⟨[], rfl, .nil⟩) (h1 D (S1.co.free hD))
/-- what the block's parts do -/
structure BlkD (B : Cx) (tg : Expr) (g : DTG) (ifs : List Expr) (tt : DTT) (vs : List Nat) (cs : List TCl) (elt : Expr) (te : DTE) : Prop where
  g : DGw B W0 tg g vs
  t : DTs B W0 ifs tt
  cs : ∀ c ∈ cs, DGw B W0 c.tg c.c.g c.c.vs ∧ DTs B W0 c.ifs c.c.tt ∧ DI B W0 c.tg c.iter c.c.ti ∧ ∀ x, foldedSetIterable c.iter B.env x = pure x
  e : DE B W0 elt te
def Dec2 : List Nat → List TCl → Bool
  | _, [] => true
  | vs, c :: cs => (c.c.vs.all fun i => decide (i ∈ vs)) && Dec2 c.c.vs cs
theorem dec_of (K : PySem.W.Frag) : ∀ {vs : List Nat} {cs : List TCl}, Dec2 vs cs = true → Dec vs (cs.map (TCl.cl K))
  | _, [], _ => trivial
  | vs, c :: cs, h => by
    unfold Dec2 at h
    rw [Bool.and_eq_true, List.all_eq_true] at h
    exact ⟨fun i hi => by simpa using h.1 i hi, dec_of K h.2⟩
theorem blk_ok {B : Cx} {W : WX} (hK : B.K = X.K) (h : BlkD B tg g ifs tt vs cs elt te) : ClOk B (fCl X W tg iter ifs ti g tt vs) ∧ (∀ x ∈ cs.map (TCl.cl X.K), ClIn B x) ∧ PE B elt (lif X.K W0 (RD X.K) te) := by
  rw [← hK]
  refine ⟨⟨by rw [fCl, ← hK]; exact h.g, by rw [fCl, ← hK]; exact h.t⟩, fun x hx => ?_, h.e⟩
  obtain ⟨c, hc, rfl⟩ := List.mem_map.mp hx
  obtain ⟨a, b, d, e⟩ := h.cs c hc
  exact ⟨⟨a, b⟩, d, e⟩
theorem de_lcN (own : List (Str × Nat)) (cs : List TCl) (G : Gd X W) (hi : DI X W tg iter ti) (hb : ∀ (s : Shared) (H : Hp) (C : Addr) (cl : List (Str × Addr)) (fp : List Addr), Gd (X.blk s H scope (compEnvC scope cl C X.env) fp) W0 → BlkD (X.blk s H scope (compEnvC scope cl C X.env) fp) tg g ifs tt (own.map (·.2)) cs elt te)
    (hd : Dec2 (own.map (·.2)) cs = true) (ok : blkC X.N X.env.scope scope own = true) (hs : ∀ x, foldedSetIterable iter X.env x = pure x) : DE X W (.ListComp elt (⟨tg, iter, ifs, 0⟩ :: cs.map (fun c => (TCl.cl X.K c).c)) scope pos) (dLcM ti g tt (own.map (·.2)) (cs.map (·.c)) te) := by
  rw [show cs.map (fun c => (TCl.cl X.K c).c) = (cs.map (TCl.cl X.K)).map Cl.c by rw [List.map_map]; rfl]
  exact PE.of (pe_lcN (c := fCl X W tg iter ifs ti g tt (@List.map (Str × Nat) Nat (fun p => p.2) own)) G.calm G.nd hi (blkOk_by ok) rfl (show Dec (own.map (·.2)) _ from dec_of X.K hd) (fun B ⟨s, H, C, cl, fp, e⟩ => by subst e; exact blk_ok rfl (hb s H C cl fp (G.blk ..))) hs) fun σ H Q h => lif_lc h
/-- name = [..] on the name's row -/
theorem ds_setLcN {spos py : Pos} {t : DTE} (j : Nat) (own : List (Str × Nat)) (cs : List TCl) (G : Gd X W) (hi : DI X W tg iter ti) (hb : ∀ (s : Shared) (H : Hp) (C : Addr) (cl : List (Str × Addr)) (fp : List Addr), Gd (X.blk s H scope (compEnvC scope cl C X.env) fp) W0 → BlkD (X.blk s H scope (compEnvC scope cl C X.env) fp) tg g ifs tt (own.map (·.2)) cs elt te)
    (hq : ∀ σ H Q, lif X.K W (RD X.K) t σ H Q → lif X.K W (RD X.K) (dLcM ti g tt (own.map (·.2)) (cs.map (·.c)) te) σ H Q)
    (hy : X.N[j]? = some x) (hyl : X.env.scope.names.lookup x = some .local) (hsw : swapsWith (.ListComp elt (⟨tg, iter, ifs, 0⟩ :: cs.map (fun c => (TCl.cl X.K c).c)) scope pos) (some (.Name x py)) spos.line X.env = pure true)
    (hd : Dec2 (own.map (·.2)) cs = true) (ok : blkC X.N X.env.scope scope own = true) (hs : ∀ x, foldedSetIterable iter X.env x = pure x) : DS X W (.Assign [.Name x py] (.ListComp elt (⟨tg, iter, ifs, 0⟩ :: cs.map (fun c => (TCl.cl X.K c).c)) scope pos) spos) (dSet j t) := by
  rw [show cs.map (fun c => (TCl.cl X.K c).c) = (cs.map (TCl.cl X.K)).map Cl.c by rw [List.map_map]; rfl] at hsw ⊢
  exact PS.of (ps_setLcN (c := fCl X W tg iter ifs ti g tt (@List.map (Str × Nat) Nat (fun p => p.2) own)) G.calm G.nd hy hyl hsw hi (blkOk_by ok) rfl (show Dec (own.map (·.2)) _ from dec_of X.K hd) (fun B ⟨s, H, C, cl, fp, e⟩ => by subst e; exact blk_ok rfl (hb s H C cl fp (G.blk ..))) hs) fun D1 σ H ⟨τ, M, D0, S, h⟩ =>
    lif_lc (hq σ H _ (S.sub h fun d M1 v H1 h1 r1 S1 s1 => S1.nx _ M1 _ H1 h1 (S1.rs.set r1 j) S1.co (Stp.refl M1 H1)))
theorem lc_keep {t : DTE} : ∀ (σ : L2.St) (H : Hp) (Q : VK), lif X.K W (RD X.K) t σ H Q → lif X.K W (RD X.K) t σ H Q := fun _ _ _ h => h
theorem lc_frz {t : DTE} : ∀ (σ : L2.St) (H : Hp) (Q : VK), lif X.K W (RD X.K) (dFrz t) σ H Q → lif X.K W (RD X.K) t σ H Q := fun σ H Q ⟨τ, M, Q0, E0, S, h⟩ => S.sub h fun d M1 v H1 h1 r1 S1 s1 => by
  match d, h1 with
  | .ref a, h1 =>
    cases r1
    have h2 : (match M1 a with
      | some (.lst ds) => Q0 (.lst ds) (del M1 a)
      | _ => False) := h1
    split at h2
    · rename_i ds e
      obtain ⟨vs, ha, ra⟩ := mu_lst S1.co e
      exact S1.q _ _ _ _ h2 (rep_lst ha del_same (ra.stp Stp.frz)) S1.co.frz Stp.frz
    · exact h2.elim
/-! one, two, three clauses -/
section
variable {tg1 iter1 tg2 iter2 : Expr} {ifs1 ifs2 : List Expr} {ti1 ti2 : DTI} {g1 g2 : DTG} {tt1 tt2 : DTT} {vs1 vs2 : List Nat}
theorem bk1 (hg : DGw X W0 tg g vs) (ht : DTs X W0 ifs tt) (he : DE X W0 elt te) : BlkD X tg g ifs tt vs [] elt te := ⟨hg, ht, fun _ h => (nomatch h), he⟩
theorem bk2 (hg : DGw X W0 tg g vs) (ht : DTs X W0 ifs tt) (hi1 : DI X W0 tg1 iter1 ti1) (hg1 : DGw X W0 tg1 g1 vs1) (ht1 : DTs X W0 ifs1 tt1) (he : DE X W0 elt te) (hs : ∀ x, foldedSetIterable iter1 X.env x = pure x := by intro _; rfl) :
    BlkD X tg g ifs tt vs [⟨tg1, iter1, ifs1, ⟨ti1, g1, tt1, vs1⟩⟩] elt te := by
  refine ⟨hg, ht, fun c h => ?_, he⟩
  rw [List.mem_singleton] at h; subst h
  exact ⟨hg1, ht1, hi1, hs⟩
theorem bk3 (hg : DGw X W0 tg g vs) (ht : DTs X W0 ifs tt) (hi1 : DI X W0 tg1 iter1 ti1) (hg1 : DGw X W0 tg1 g1 vs1) (ht1 : DTs X W0 ifs1 tt1) (hi2 : DI X W0 tg2 iter2 ti2) (hg2 : DGw X W0 tg2 g2 vs2) (ht2 : DTs X W0 ifs2 tt2) (he : DE X W0 elt te)
    (hs : ∀ x, foldedSetIterable iter1 X.env x = pure x := by intro _; rfl) (hs2 : ∀ x, foldedSetIterable iter2 X.env x = pure x := by intro _; rfl) :
    BlkD X tg g ifs tt vs [⟨tg1, iter1, ifs1, ⟨ti1, g1, tt1, vs1⟩⟩, ⟨tg2, iter2, ifs2, ⟨ti2, g2, tt2, vs2⟩⟩] elt te := by
  refine ⟨hg, ht, fun c h => ?_, he⟩
  simp only [List.mem_cons, List.not_mem_nil, or_false] at h
  rcases h with rfl | rfl
  · exact ⟨hg1, ht1, hi1, hs⟩
  · exact ⟨hg2, ht2, hi2, hs2⟩
theorem de_lc1 (own : List (Str × Nat)) (G : Gd X W) (hi : DI X W tg iter ti) (hb : ∀ (s : Shared) (H : Hp) (C : Addr) (cl : List (Str × Addr)) (fp : List Addr), Gd (X.blk s H scope (compEnvC scope cl C X.env) fp) W0 → BlkD (X.blk s H scope (compEnvC scope cl C X.env) fp) tg g ifs tt (own.map (·.2)) [] elt te) (ok : blkC X.N X.env.scope scope own = true := by first | kernel_rfl | decide +kernel) (hs : ∀ x, foldedSetIterable iter X.env x = pure x := by intro _; rfl) :
    DE X W (.ListComp elt [⟨tg, iter, ifs, 0⟩] scope pos) (dLcM ti g tt (own.map (·.2)) [] te) := de_lcN own [] G hi hb rfl ok hs
theorem ds_setLc1 {spos py : Pos} {t : DTE} (j : Nat) (own : List (Str × Nat)) (G : Gd X W) (hi : DI X W tg iter ti) (hb : ∀ (s : Shared) (H : Hp) (C : Addr) (cl : List (Str × Addr)) (fp : List Addr), Gd (X.blk s H scope (compEnvC scope cl C X.env) fp) W0 → BlkD (X.blk s H scope (compEnvC scope cl C X.env) fp) tg g ifs tt (own.map (·.2)) [] elt te) (hq : ∀ σ H Q, lif X.K W (RD X.K) t σ H Q → lif X.K W (RD X.K) (dLcM ti g tt (own.map (·.2)) [] te) σ H Q) (ok : blkC X.N X.env.scope scope own = true := by first | kernel_rfl | decide +kernel) (hs : ∀ x, foldedSetIterable iter X.env x = pure x := by intro _; rfl)
    (hy : X.N[j]? = some x := by rfl) (hyl : X.env.scope.names.lookup x = some .local := by rfl) (hsw : swapsWith (.ListComp elt [⟨tg, iter, ifs, 0⟩] scope pos) (some (.Name x py)) spos.line X.env = pure true := by rfl) :
    DS X W (.Assign [.Name x py] (.ListComp elt [⟨tg, iter, ifs, 0⟩] scope pos) spos) (dSet j t) := ds_setLcN j own [] G hi hb hq hy hyl hsw rfl ok hs
theorem de_lc2 (own : List (Str × Nat)) (vs1 : List Nat) (G : Gd X W) (hi : DI X W tg iter ti) (hb : ∀ (s : Shared) (H : Hp) (C : Addr) (cl : List (Str × Addr)) (fp : List Addr), Gd (X.blk s H scope (compEnvC scope cl C X.env) fp) W0 → BlkD (X.blk s H scope (compEnvC scope cl C X.env) fp) tg g ifs tt (own.map (·.2)) [⟨tg1, iter1, ifs1, ⟨ti1, g1, tt1, vs1⟩⟩] elt te) (hd : Dec2 (own.map (·.2)) ([⟨tg1, iter1, ifs1, ⟨ti1, g1, tt1, vs1⟩⟩] : List TCl) = true := by rfl) (ok : blkC X.N X.env.scope scope own = true := by first | kernel_rfl | decide +kernel) (hs : ∀ x, foldedSetIterable iter X.env x = pure x := by intro _; rfl) :
    DE X W (.ListComp elt [⟨tg, iter, ifs, 0⟩, ⟨tg1, iter1, ifs1, 0⟩] scope pos) (dLcM ti g tt (own.map (·.2)) [⟨ti1, g1, tt1, vs1⟩] te) := de_lcN own [⟨tg1, iter1, ifs1, ⟨ti1, g1, tt1, vs1⟩⟩] G hi hb hd ok hs
theorem ds_setLc2 {spos py : Pos} {t : DTE} (j : Nat) (own : List (Str × Nat)) (vs1 : List Nat) (G : Gd X W) (hi : DI X W tg iter ti) (hb : ∀ (s : Shared) (H : Hp) (C : Addr) (cl : List (Str × Addr)) (fp : List Addr), Gd (X.blk s H scope (compEnvC scope cl C X.env) fp) W0 → BlkD (X.blk s H scope (compEnvC scope cl C X.env) fp) tg g ifs tt (own.map (·.2)) [⟨tg1, iter1, ifs1, ⟨ti1, g1, tt1, vs1⟩⟩] elt te) (hq : ∀ σ H Q, lif X.K W (RD X.K) t σ H Q → lif X.K W (RD X.K) (dLcM ti g tt (own.map (·.2)) [⟨ti1, g1, tt1, vs1⟩] te) σ H Q) (hd : Dec2 (own.map (·.2)) ([⟨tg1, iter1, ifs1, ⟨ti1, g1, tt1, vs1⟩⟩] : List TCl) = true := by rfl) (ok : blkC X.N X.env.scope scope own = true := by first | kernel_rfl | decide +kernel) (hs : ∀ x, foldedSetIterable iter X.env x = pure x := by intro _; rfl)
    (hy : X.N[j]? = some x := by rfl) (hyl : X.env.scope.names.lookup x = some .local := by rfl) (hsw : swapsWith (.ListComp elt [⟨tg, iter, ifs, 0⟩, ⟨tg1, iter1, ifs1, 0⟩] scope pos) (some (.Name x py)) spos.line X.env = pure true := by rfl) :
    DS X W (.Assign [.Name x py] (.ListComp elt [⟨tg, iter, ifs, 0⟩, ⟨tg1, iter1, ifs1, 0⟩] scope pos) spos) (dSet j t) := ds_setLcN j own [⟨tg1, iter1, ifs1, ⟨ti1, g1, tt1, vs1⟩⟩] G hi hb hq hy hyl hsw hd ok hs
theorem de_lc3 (own : List (Str × Nat)) (vs1 vs2 : List Nat) (G : Gd X W) (hi : DI X W tg iter ti) (hb : ∀ (s : Shared) (H : Hp) (C : Addr) (cl : List (Str × Addr)) (fp : List Addr), Gd (X.blk s H scope (compEnvC scope cl C X.env) fp) W0 → BlkD (X.blk s H scope (compEnvC scope cl C X.env) fp) tg g ifs tt (own.map (·.2)) [⟨tg1, iter1, ifs1, ⟨ti1, g1, tt1, vs1⟩⟩, ⟨tg2, iter2, ifs2, ⟨ti2, g2, tt2, vs2⟩⟩] elt te) (hd : Dec2 (own.map (·.2)) ([⟨tg1, iter1, ifs1, ⟨ti1, g1, tt1, vs1⟩⟩, ⟨tg2, iter2, ifs2, ⟨ti2, g2, tt2, vs2⟩⟩] : List TCl) = true := by rfl) (ok : blkC X.N X.env.scope scope own = true := by first | kernel_rfl | decide +kernel) (hs : ∀ x, foldedSetIterable iter X.env x = pure x := by intro _; rfl) :
    DE X W (.ListComp elt [⟨tg, iter, ifs, 0⟩, ⟨tg1, iter1, ifs1, 0⟩, ⟨tg2, iter2, ifs2, 0⟩] scope pos) (dLcM ti g tt (own.map (·.2)) [⟨ti1, g1, tt1, vs1⟩, ⟨ti2, g2, tt2, vs2⟩] te) := de_lcN own [⟨tg1, iter1, ifs1, ⟨ti1, g1, tt1, vs1⟩⟩, ⟨tg2, iter2, ifs2, ⟨ti2, g2, tt2, vs2⟩⟩] G hi hb hd ok hs
theorem ds_setLc3 {spos py : Pos} {t : DTE} (j : Nat) (own : List (Str × Nat)) (vs1 vs2 : List Nat) (G : Gd X W) (hi : DI X W tg iter ti) (hb : ∀ (s : Shared) (H : Hp) (C : Addr) (cl : List (Str × Addr)) (fp : List Addr), Gd (X.blk s H scope (compEnvC scope cl C X.env) fp) W0 → BlkD (X.blk s H scope (compEnvC scope cl C X.env) fp) tg g ifs tt (own.map (·.2)) [⟨tg1, iter1, ifs1, ⟨ti1, g1, tt1, vs1⟩⟩, ⟨tg2, iter2, ifs2, ⟨ti2, g2, tt2, vs2⟩⟩] elt te) (hq : ∀ σ H Q, lif X.K W (RD X.K) t σ H Q → lif X.K W (RD X.K) (dLcM ti g tt (own.map (·.2)) [⟨ti1, g1, tt1, vs1⟩, ⟨ti2, g2, tt2, vs2⟩] te) σ H Q) (hd : Dec2 (own.map (·.2)) ([⟨tg1, iter1, ifs1, ⟨ti1, g1, tt1, vs1⟩⟩, ⟨tg2, iter2, ifs2, ⟨ti2, g2, tt2, vs2⟩⟩] : List TCl) = true := by rfl) (ok : blkC X.N X.env.scope scope own = true := by first | kernel_rfl | decide +kernel) (hs : ∀ x, foldedSetIterable iter X.env x = pure x := by intro _; rfl)
    (hy : X.N[j]? = some x := by rfl) (hyl : X.env.scope.names.lookup x = some .local := by rfl) (hsw : swapsWith (.ListComp elt [⟨tg, iter, ifs, 0⟩, ⟨tg1, iter1, ifs1, 0⟩, ⟨tg2, iter2, ifs2, 0⟩] scope pos) (some (.Name x py)) spos.line X.env = pure true := by rfl) :
    DS X W (.Assign [.Name x py] (.ListComp elt [⟨tg, iter, ifs, 0⟩, ⟨tg1, iter1, ifs1, 0⟩, ⟨tg2, iter2, ifs2, 0⟩] scope pos) spos) (dSet j t) := ds_setLcN j own [⟨tg1, iter1, ifs1, ⟨ti1, g1, tt1, vs1⟩⟩, ⟨tg2, iter2, ifs2, ⟨ti2, g2, tt2, vs2⟩⟩] G hi hb hq hy hyl hsw hd ok hs
end
end
end DL

namespace DL
open PySem L2
/-! ### f'..' -/
def dJs : List DTE → Tx → DSt → Mu → (Tx → Mu → Prop) → DX → Prop
  | [], acc, _, M, Q, _ => Q acc M
  | t :: ts, acc, τ, M, Q, E => t τ M (fun x M1 => match x with
    | .str y => (acc ++ y).length ≤ 16777216 ∧ dJs ts (acc ++ y) τ M1 Q E
    | _ => False) E
def dFs (ts : List DTE) : DTE := fun τ M Q E => dJs ts [] τ M (fun out M1 => Q (.str out) M1) E
def intT (i : Int) : Tx := T (toString i)
def dFmt (te : DTE) : DTE := fun τ M Q E => te τ M (fun x M1 => match x with
  | .str y => y.length ≤ 16777216 ∧ Q (.str y) M1
  | .int i => i.natAbs.log2 < 1920 ∧ Q (.str (intT i)) M1
  | _ => False) E
inductive DJ (X : Cx) (W : WX) : List Expr → List DTE → Prop where
  | nil : DJ X W [] []
  | cons {e : Expr} {t : DTE} {es : List Expr} {ts : List DTE} (h : DE X W e t) (r : DJ X W es ts) : DJ X W (e :: es) (t :: ts)
section
variable {X : Cx} {W : WX} {a b c e e1 e2 o : Expr} {rest es : List Expr} {ta tb tc te to : DTE} {ts : List DTE} {tl : DTA} {pos apos cpos p : Pos} {name : Str}
theorem de_fmt (h : DE X W e te) : DE X W (.FormattedValue e (-1) none pos) (dFmt te) := PE.of (pe_fmt h) fun σ H Q ⟨τ, M, Q0, E0, S, h⟩ => S.sub h fun d M1 v H1 h1 r1 S1 s1 => by
  cases d with
  | str y => exact .inl ⟨sx y, r1, by rw [sx_len, line24]; exact h1.1, S1.end_ h1.2 rfl⟩
  | int i => exact .inr ⟨i, r1, h1.1, S1.end_ h1.2 (by show V.str _ = V.str (sx (T _)); rw [sx_T])⟩
  | _ => exact h1.elim
theorem dj_pj : ∀ {es : List Expr} {ts : List DTE}, DJ X W es ts → PJ X es (ts.map (lif X.K W (RD X.K)))
  | _, _, .nil => .nil
  | _, _, .cons h r => .cons h (dj_pj r)
theorem js_ok {τ : DSt} {σ : L2.St} {Q : VK} {Q0 : DK} {E0 : DX} : ∀ {ts : List DTE} {acc : Tx} {M : Mu} {H : Hp}, Sit X.K W (RD X.K) τ M σ H Q0 E0 Q → dJs ts acc τ M (fun out M1 => Q0 (.str out) M1) E0 →
    tJs (ts.map (lif X.K W (RD X.K))) (sx acc) σ H fun out H1 => Q (.str out) H1
  | [], acc, M, H, S, h => S.end_ (d := .str acc) h rfl
  | t :: ts, acc, M, H, S, h => S.sub h fun d M1 v H1 h1 r1 S1 s1 => by
    cases d with
    | str y =>
      refine ⟨sx y, r1, by rw [sx_add, sx_len, line24]; exact h1.1, ?_⟩
      rw [sx_add]
      exact js_ok S1 h1.2
    | _ => exact h1.elim
theorem de_fs (h : DJ X W (e1 :: e2 :: rest) ts) : DE X W (.JoinedStr (e1 :: e2 :: rest) pos) (dFs ts) := PE.of (pe_joined (dj_pj h)) fun σ H Q ⟨τ, M, Q0, E0, S, h⟩ => js_ok (acc := []) S h
theorem de_fs1 (h : DE X W e te) : DE X W (.JoinedStr [e] pos) te := pe_joined1 h
end
/-! ### methods -/
/-- cut at a sign -/
def cutAt (c : Nat) : Tx → List Tx
  | [] => [[]]
  | x :: r => if x = c then [] :: cutAt c r else match cutAt c r with
    | y :: ys => (x :: y) :: ys
    | [] => [[x]]
theorem cutAt_ne (c : Nat) : ∀ t : Tx, cutAt c t ≠ []
  | [] => by simp [cutAt]
  | x :: r => by
    unfold cutAt
    split
    · simp
    · split <;> simp
def hd1 (acc : Tx) : List Tx → List Tx
  | [] => [acc]
  | y :: ys => (acc ++ y) :: ys
theorem spl_cut (c : Nat) : ∀ (t acc : Tx), TL.spl [c] 0 acc t = hd1 acc (cutAt c t)
  | [], acc => by simp [TL.spl_nil, cutAt, hd1]
  | x :: r, acc => by
    by_cases e : x = c
    · have hp : TL.pre [c] (x :: r) = true := by simp [TL.pre, e]
      rw [TL.spl_hit hp]
      show acc :: TL.spl [c] 0 [] r = _
      have hc : cutAt c (x :: r) = [] :: cutAt c r := if_pos e
      rw [spl_cut c r [], hc]
      cases h : cutAt c r with
      | nil => exact absurd h (cutAt_ne c r)
      | cons y ys => simp [hd1]
    · have hp : TL.pre [c] (x :: r) = false := by simp [TL.pre, e]
      have hc : cutAt c (x :: r) = (match cutAt c r with
        | y :: ys => (x :: y) :: ys
        | [] => [[x]]) := if_neg e
      rw [TL.spl_miss hp, spl_cut c r, hc]
      cases h : cutAt c r with
      | nil => exact absurd h (cutAt_ne c r)
      | cons y ys => simp [hd1]
theorem split_cut (c : Nat) (hc : c < 256) (t : Tx) : Txt.split (sx t) (sx [c]) = (cutAt c t).map sx := by
  have e : (Txt.split (sx t) (sx [c])).map TL.tl = TL.spl (TL.tl (sx [c])) 0 [] (TL.tl (sx t)) := TL.split_spl (sx t) (sx [c]) (by rw [tl_sx]; simp) (TL.kind_ok (by rw [← Array.all_toList]; simp [sx, hc]))
  rw [tl_sx, tl_sx, spl_cut] at e
  have e2 : hd1 [] (cutAt c t) = cutAt c t := by
    cases h : cutAt c t with
    | nil => exact absurd h (cutAt_ne c t)
    | cons y ys => simp [hd1]
  rw [e2] at e
  have := congrArg (List.map sx) e
  rw [List.map_map] at this
  have e3 : (sx ∘ TL.tl) = (id : Str → Str) := funext fun s => sx_T s
  rw [e3, List.map_id] at this
  exact this
def gSplit : DMt := fun x xs M Q => match x, xs with
  | .str a, [.str [c]] => c < 256 ∧ a.length + 2 ≤ 16777216 ∧ Q (.lst ((cutAt c a).map D.str)) M
  | _, _ => False
def gSplitM : DMt := fun x xs M Q => match x, xs with
  | .str a, [.str [c]] => c < 256 ∧ a.length + 2 ≤ 16777216 ∧ ∀ p, M p = none → Q (.ref p) (put M p (.lst ((cutAt c a).map D.str)))
  | _, _ => False
def endsT (a b : Tx) : Bool := b.reverse.isPrefixOf a.reverse
def gReverse : DMt := fun x xs M Q => match x, xs with
  | .ref a, [] => (match M a with
    | some (.lst ds) => Q .non (put M a (.lst ds.reverse))
    | _ => False)
  | _, _ => False
section
variable {K : PySem.W.Frag}
theorem md_split : MtD K gSplit (fun x xs H Q => ∃ a b, x = .str a ∧ xs = [.str b] ∧ (b.length == 0) = false ∧ a.length + 2 ≤ sizeLine ∧ rNewStrs (Txt.split a b) H Q) := fun M H x v xs vs Q0 Q c rx r h q => by
  match x, xs, h with
  | .str a, [.str [k]], h =>
    obtain ⟨u, us, rfl, r1, r2⟩ := r.uncons
    cases r2.unnil; cases rx; cases r1
    refine ⟨sx a, sx [k], rfl, rfl, by rw [sx_len]; rfl, by rw [sx_len, line24]; exact h.2.1, ?_⟩
    rw [split_cut k h.1]
    intro p hp
    exact q _ M _ _ h.2.2 (rep_lst upd_same (c.free hp) ((Reps.of_strs _).stp (Stp.new hp))) (c.new hp) (Stp.new hp)
theorem md_splitM : MtD K gSplitM (fun x xs H Q => ∃ a b, x = .str a ∧ xs = [.str b] ∧ (b.length == 0) = false ∧ a.length + 2 ≤ sizeLine ∧ rNewStrs (Txt.split a b) H Q) := fun M H x v xs vs Q0 Q c rx r h q => by
  match x, xs, h with
  | .str a, [.str [k]], h =>
    obtain ⟨u, us, rfl, r1, r2⟩ := r.uncons
    cases r2.unnil; cases rx; cases r1
    refine ⟨sx a, sx [k], rfl, rfl, by rw [sx_len]; rfl, by rw [sx_len, line24]; exact h.2.1, ?_⟩
    rw [split_cut k h.1]
    intro p hp
    exact q _ _ _ _ (h.2.2 p (c.free hp)) rfl (c.newM hp ⟨_, rfl, Reps.of_strs _⟩) (Stp.newM hp)
theorem md_reverse : MtD K gReverse rReverse := fun M H x v xs vs Q0 Q c rx r h q => by
  match x, xs, h with
  | .ref a, [], h =>
    cases r.unnil; cases rx
    have h2 : (match M a with
      | some (.lst ds) => Q0 .non (put M a (.lst ds.reverse))
      | _ => False) := h
    cases e : M a with
    | none => rw [e] at h2; exact h2.elim
    | some mo =>
      rw [e] at h2
      cases mo with
      | lst ds =>
        obtain ⟨vs, ha, ra⟩ := mu_lst c e
        exact ⟨a, vs, rfl, rfl, ha, q _ _ _ _ h2 rfl (c.write e ⟨_, rfl, ra.reverse⟩) (Stp.write e)⟩
      | _ => exact h2.elim
end
/-! ### all, any of a list -/
def blsOf : List D → Option (List Bool)
  | [] => some []
  | .bl b :: ds => (blsOf ds).map (b :: ·)
  | _ => none
def gAllA (f : List Bool → Bool) : DCb := fun xs M Q => match xs with
  | [.lst ds] => ∃ bs : List Bool, ds = bs.map D.bl ∧ Q (.bl (f bs)) M
  | _ => False
abbrev gAll : DCb := gAllA fun bs => bs.all id
abbrev gAnyL : DCb := gAllA fun bs => bs.any id
theorem cb_allA {K : PySem.W.Frag} {f : List Bool → Bool} : CbD K (gAllA f) (fun vs H Q => ∃ (a : Addr) (bs : List Bool), vs = [V.ref a] ∧ SqL K H a (bs.map V.bl) ∧ Q (.bl (f bs)) H) := fun M H xs vs Q0 Q c r h q => by
  match xs, h with
  | [.lst ds], h =>
    obtain ⟨bs, e, h⟩ := h
    subst e
    obtain ⟨v, u, rfl, r1, r2⟩ := r.uncons
    cases r2.unnil
    obtain ⟨a, ws, rfl, ha, ma, ra⟩ := rep_of_lst r1
    have e := ra.bls
    subst e
    exact ⟨a, bs, rfl, .inl (.inl ha), q _ M _ H h rfl c (Stp.refl M H)⟩
theorem cb_all {K : PySem.W.Frag} : CbD K gAll (rAll K) := cb_allA
theorem cb_anyL {K : PySem.W.Frag} : CbD K gAnyL (rAny K) := cb_allA
end DL

namespace DL
open PySem L2
/-- a statement that is not reached -/
def dNever : DTS := fun _ _ _ => False
theorem ds_never {X : Cx} {W : WX} {st : Stmt} : DS X W st dNever := ⟨fun pins s σ H D I ⟨τ, M, D0, S, h⟩ => h.elim⟩
/-! how the readings reduce -/
theorem lcM_ {ti : DTI} {g : DTG} {tt : DTT} {vs : List Nat} {cs : List DCl} {te : DTE} {τ : DSt} {M : Mu} {Q : DK} {E : DX} : dLcM ti g tt vs cs te τ M Q E = ti τ M (fun ds M1 => ∀ p, M1 p = none → wTs g tt vs τ (wNst (dEm p te) cs) (fun M2 => Q (.ref p) M2) ds (put M1 p (.lst []))) E := rfl
theorem wTs_nil {g : DTG} {tt : DTT} {vs : List Nat} {τ : DSt} {inn : DSt → Mu → (Mu → Prop) → Prop} {Nx : Mu → Prop} {M : Mu} : wTs g tt vs τ inn Nx [] M = Nx M := rfl
theorem wTs_cons {g : DTG} {tt : DTT} {vs : List Nat} {τ : DSt} {inn : DSt → Mu → (Mu → Prop) → Prop} {Nx : Mu → Prop} {M : Mu} {d : D} {ds : List D} :
    wTs g tt vs τ inn Nx (d :: ds) M = g d (wipeD τ vs) M (fun τ2 M2 => tt τ2 M2 (fun b M3 => if b = true then inn τ2 M3 (wTs g tt vs τ inn Nx ds) else wTs g tt vs τ inn Nx ds M3) noX) noX := rfl
/-- turn by turn -/
theorem wTs_by {g : DTG} {tt : DTT} {vs : List Nat} {τ : DSt} {inn : DSt → Mu → (Mu → Prop) → Prop} {Nx : Mu → Prop} (I : Nat → Mu → Prop) {ds : List D} (hs : ∀ i d M, ds[i]? = some d → I i M →
    g d (wipeD τ vs) M (fun τ2 M2 => tt τ2 M2 (fun b M3 => if b = true then ∀ N1 : Mu → Prop, (∀ M', I (i + 1) M' → N1 M') → inn τ2 M3 N1 else I (i + 1) M3) noX) noX)
    (mono_g : ∀ d τ M (Q Q' : DSt → Mu → Prop), (∀ a b, Q a b → Q' a b) → g d τ M Q noX → g d τ M Q' noX) (mono_t : ∀ τ M (Q Q' : Bool → Mu → Prop), (∀ a b, Q a b → Q' a b) → tt τ M Q noX → tt τ M Q' noX)
    (hd : ∀ M, I ds.length M → Nx M) : ∀ (k : Nat) (M : Mu), k ≤ ds.length → I k M → wTs g tt vs τ inn Nx (ds.drop k) M := by
  have go : ∀ (n k : Nat) (M : Mu), n + k = ds.length → I k M → wTs g tt vs τ inn Nx (ds.drop k) M := by
    intro n
    induction n with
    | zero =>
      intro k M e i
      have e2 : k = ds.length := by omega
      rw [e2, List.drop_length]
      rw [e2] at i
      exact hd M i
    | succ n ih =>
      intro k M e i
      have hlt : k < ds.length := by omega
      rw [List.drop_eq_getElem_cons hlt, wTs_cons]
      refine mono_g _ _ _ _ _ (fun τ2 M2 h => mono_t _ _ _ _ (fun b M3 h => ?_) h) (hs k ds[k] M (List.getElem?_eq_getElem hlt) i)
      cases b with
      | true => exact h _ fun M' i' => ih (k + 1) M' (by omega) i'
      | false => exact ih (k + 1) M3 (by omega) h
  exact fun k M hk i => go (ds.length - k) k M (by omega) i
/-! one name as the target -/
/-- turn by turn: the list so far -/
theorem lc_by {i : Nat} {tt : DTT} {vs : List Nat} {τ : DSt} {p : Addr} {te : DTE} {Nx : Mu → Prop} {ds : List D} {M : Mu} (I : Nat → List D → Mu → Prop) (h0 : I 0 [] M) (hM : M p = some (.lst []))
    (hs : ∀ k d acc M, ds[k]? = some d → M p = some (.lst acc) → I k acc M → ∀ N : Mu → Prop,
      (∀ y M1, M1 p = some (.lst acc) → I (k + 1) (acc ++ [y]) (put M1 p (.lst (acc ++ [y]))) → N (put M1 p (.lst (acc ++ [y])))) → (∀ M1, M1 p = some (.lst acc) → I (k + 1) acc M1 → N M1) →
      tt ((wipeD τ vs).set i (some d)) M (fun b M3 => if b = true then dEm p te ((wipeD τ vs).set i (some d)) M3 N else N M3) noX)
    (hd : ∀ acc M, M p = some (.lst acc) → I ds.length acc M → Nx M) : wTs (dgName i) tt vs τ (wNst (dEm p te) []) Nx ds M := by
  have go : ∀ (n k : Nat) (acc : List D) (M : Mu), n + k = ds.length → M p = some (.lst acc) → I k acc M → wTs (dgName i) tt vs τ (wNst (dEm p te) []) Nx (ds.drop k) M := by
    intro n
    induction n with
    | zero =>
      intro k acc M e hp hi
      have e2 : k = ds.length := by omega
      rw [e2, List.drop_length]
      rw [e2] at hi
      exact hd acc M hp hi
    | succ n ih =>
      intro k acc M e hp hi
      have hlt : k < ds.length := by omega
      rw [List.drop_eq_getElem_cons hlt, wTs_cons]
      exact hs k ds[k] acc M (List.getElem?_eq_getElem hlt) hp hi _ (fun y M1 _ i' => ih (k + 1) _ _ (by omega) put_same i') fun M1 hp' i' => ih (k + 1) _ _ (by omega) hp' i'
  exact go ds.length 0 [] M (by omega) hM h0
/-- nothing else is changed: the items' images, of those that pass -/
theorem lc_pure {i : Nat} {tt : DTT} {vs : List Nat} {τ : DSt} {p : Addr} {te : DTE} {Nx : Mu → Prop} {ds : List D} {M : Mu} (f : D → D) (g : D → Bool) (hl : ds.length < 16777216)
    (ht : ∀ d ∈ ds, ∀ acc (N : Bool → Mu → Prop), N (g d) (put M p (.lst acc)) → tt ((wipeD τ vs).set i (some d)) (put M p (.lst acc)) N noX)
    (he : ∀ d ∈ ds, g d = true → ∀ acc (N : D → Mu → Prop), N (f d) (put M p (.lst acc)) → te ((wipeD τ vs).set i (some d)) (put M p (.lst acc)) N noX)
    (h : Nx (put M p (.lst ((ds.filter g).map f)))) : wTs (dgName i) tt vs τ (wNst (dEm p te) []) Nx ds (put M p (.lst [])) := by
  refine lc_by (fun k acc M' => M' = put M p (.lst acc) ∧ acc = ((ds.take k).filter g).map f) ⟨rfl, by simp⟩ put_same ?_ ?_
  · rintro k d acc M' hk hp ⟨rfl, e⟩ N hy hn
    have hm := List.mem_of_getElem? hk
    have tk : ds.take (k + 1) = ds.take k ++ [d] := by rw [List.take_succ, hk]; rfl
    refine ht d hm acc _ ?_
    cases hg : g d with
    | true =>
      simp only [if_true]
      refine he d hm hg acc _ ⟨acc, put_same, ?_, ?_⟩
      · rw [e, List.length_map]
        have := List.length_filter_le g (ds.take k)
        have h2 : (ds.take k).length ≤ ds.length := by rw [List.length_take]; omega
        rw [line24] <;> omega
      · refine hy (f d) _ put_same ⟨by rw [put_put], ?_⟩
        rw [tk, List.filter_append, List.map_append, ← e]
        simp [hg]
    | false =>
      simp only [Bool.false_eq_true, if_false]
      refine hn _ put_same ⟨rfl, ?_⟩
      rw [tk, List.filter_append, List.map_append, ← e]
      simp [hg]
  · rintro acc M' hp ⟨rfl, e⟩
    rw [List.take_length] at e
    rw [e]
    exact h
theorem lc_map {i : Nat} {vs : List Nat} {τ : DSt} {p : Addr} {te : DTE} {Nx : Mu → Prop} {ds : List D} {M : Mu} (f : D → D) (hl : ds.length < 16777216)
    (he : ∀ d ∈ ds, ∀ acc (N : D → Mu → Prop), N (f d) (put M p (.lst acc)) → te ((wipeD τ vs).set i (some d)) (put M p (.lst acc)) N noX)
    (h : Nx (put M p (.lst (ds.map f)))) : wTs (dgName i) dYes vs τ (wNst (dEm p te) []) Nx ds (put M p (.lst [])) :=
  lc_pure f (fun _ => true) hl (fun d _ acc N h => h) (fun d hd _ => he d hd) (by rw [List.filter_eq_self.mpr fun _ _ => rfl]; exact h)
/-! clauses that change nothing else, one within another -/
def Adds (p : Addr) (M : Mu) (inn : DSt → Mu → (Mu → Prop) → Prop) (τ : DSt) (L : List D) : Prop := ∀ (acc : List D) (N : Mu → Prop), acc.length + L.length ≤ 16777216 → N (put M p (.lst (acc ++ L))) → inn τ (put M p (.lst acc)) N
theorem adds_em {p : Addr} {M : Mu} {te : DTE} {τ : DSt} {y : D} (h : ∀ (acc : List D) (N : D → Mu → Prop), N y (put M p (.lst acc)) → te τ (put M p (.lst acc)) N noX) : Adds p M (dEm p te) τ [y] := fun acc N hl hn =>
  h acc _ ⟨acc, put_same, by rw [line24]; simp at hl; omega, by rw [put_put]; exact hn⟩
theorem adds_ts {p : Addr} {M : Mu} {inn : DSt → Mu → (Mu → Prop) → Prop} {τ : DSt} {i : Nat} {vs : List Nat} {L : D → List D} {Nx : Mu → Prop} : ∀ {ds : List D} (acc : List D), (∀ d ∈ ds, Adds p M inn ((wipeD τ vs).set i (some d)) (L d)) →
    acc.length + (ds.flatMap L).length ≤ 16777216 → Nx (put M p (.lst (acc ++ ds.flatMap L))) → wTs (dgName i) dYes vs τ inn Nx ds (put M p (.lst acc))
  | [], acc, h, hl, hn => by
    rw [wTs_nil]
    simpa using hn
  | d :: ds, acc, h, hl, hn => by
    rw [wTs_cons]
    rw [List.flatMap_cons, List.length_append] at hl
    refine h d List.mem_cons_self acc _ (by omega) ?_
    refine adds_ts (acc ++ L d) (fun e he => h e (List.mem_cons_of_mem _ he)) (by rw [List.length_append]; omega) ?_
    rw [List.flatMap_cons, ← List.append_assoc] at hn
    exact hn
theorem adds_cl {p : Addr} {M : Mu} {em : DSt → Mu → (Mu → Prop) → Prop} {τ : DSt} {i : Nat} {vs : List Nat} {cs : List DCl} {ti : DTI} {ds : List D} {L : D → List D} (hi : ∀ (acc : List D) (N : List D → Mu → Prop), N ds (put M p (.lst acc)) → ti τ (put M p (.lst acc)) N noX)
    (h : ∀ d ∈ ds, Adds p M (wNst em cs) ((wipeD τ vs).set i (some d)) (L d)) : Adds p M (wNst em (⟨ti, dgName i, dYes, vs⟩ :: cs)) τ (ds.flatMap L) := fun acc N hl hn =>
  hi acc _ (adds_ts acc h hl hn)
end DL

namespace DL
open PySem L2 He
/-! ### the head's facts, with any further looks at the written part -/
def obsX (fa : List Fa) (fn : List DefD) (gb : List (PySem.W.Frag → Bool)) (K : PySem.W.Frag) : AlD := ((obsD fa fn K).1 && gb.all (fun f => f K), (obsD fa fn K).2)
def SaysX (fa : List Fa) (fn : List DefD) (gb : List (PySem.W.Frag → Bool)) (K : PySem.W.Frag) : Prop := obsX fa fn gb K = valD fn
def obsXG (n : Nat) (fa : List Fa) (fn : List DefD) (gb : List (PySem.W.Frag → Bool)) (g : Addr → Option Obj) : AlD := obsX fa fn gb (frG g (asD g n))
def hookX (n : Nat) (fa : List Fa) (fn : List DefD) (gb : List (PySem.W.Frag → Bool)) : PySem.W.Hook where
  α := AlD
  obs := fun s => obsXG n fa fn gb s.heap.get?
  val := fun _ => valD fn
  says := fun _ h => ∃ K : PySem.W.Frag, K.In h ∧ SaysX fa fn gb K
  of := fun _ _ e => ⟨_, frG_in, e⟩
  keeps := fun _ _ _ ⟨K, hK, c⟩ k => ⟨K, hK.keeps k, c⟩
theorem obsXG_eq {n : Nat} {fa : List Fa} {fn : List DefD} {gb : List (PySem.W.Frag → Bool)} {g : Addr → Option Obj} {s : Shared} (h : ∀ a, g a = s.heap.get? a) : obsXG n fa fn gb g = (hookX n fa fn gb).obs s := by
  rw [funext h] <;> rfl
section
variable {fa : List Fa} {fn : List DefD} {gb : List (PySem.W.Frag → Bool)} {K : PySem.W.Frag}
theorem SaysX.d (c : SaysX fa fn gb K) : SaysD fa fn K := by
  have c1 : ((obsD fa fn K).1 && gb.all (fun f => f K)) = true := congrArg (fun z : AlD => z.1) c
  have c2 : (obsD fa fn K).2 = fn.map DefD.val := congrArg (fun z : AlD => z.2) c
  exact Prod.ext (ba c1).1 c2
theorem SaysX.b (c : SaysX fa fn gb K) (i : Nat) {f : PySem.W.Frag → Bool} (h : gb[i]? = some f := by rfl) : f K = true := by
  have c1 : ((obsD fa fn K).1 && gb.all (fun f => f K)) = true := congrArg (fun z : AlD => z.1) c
  exact List.all_eq_true.mp (ba c1).2 f (List.mem_of_getElem? h)
end
/-- a tuple of texts in the module -/
def tupF (x : Str) (zs : List Str) (K : PySem.W.Frag) : Bool := tupB K x (zs.map Dv.str)
theorem tupF_ok {K : PySem.W.Frag} {x : Str} {zs : List Str} {mg : Str → Option Value} (hm : mg x = some (.ref (ga K x))) (h : tupF x zs K = true) : ∃ f, mg x = some (.ref f) ∧ WrT K f (zs.map V.str) := by
  refine ⟨_, hm, ?_⟩
  have q := tupB_ok h (fun _ => none)
  have e : (zs.map Dv.str).map (Dv.v K) = zs.map V.str := by rw [List.map_map]; rfl
  rw [e] at q
  rcases q with z | z
  · have no : ∀ u : HO, (none : Option HO) ≠ some u := fun _ h => by cases h
    rcases (show (none : Option HO) = some _ ∨ ∃ o, (none : Option HO) = some (.frz o _) from z) with z | ⟨_, z⟩
    · exact (no _ z).elim
    · exact (no _ z).elim
  · exact z
theorem de_gtx {X : Cx} {W : WX} {x : Str} {pos : Pos} {zs : List Str} {d : D} (h : ∃ f, X.mg x = some (.ref f) ∧ WrT X.K f (zs.map V.str)) (e : D.tup (zs.map fun z => D.str (T z)) = d) (hg : Gl X x := by rfl) (hd : (x == ("__debug__" : Str)) = false := by decide) :
    DE X W (.Name x pos) (dC d) := by
  obtain ⟨f, h1, h2⟩ := h
  rw [← e]
  exact de_gt h1 h2 hg hd
end DL

namespace DL
open PySem L2
/-! ### dicts: displays, stores -/
def putD (kvs : List (DKey × D)) (k : DKey) (d : D) : List (DKey × D) := if (kvs.any fun q => decide (q.1 = k)) = true then kvs.map (fun q => if q.1 = k then (q.1, d) else q) else kvs ++ [(k, d)]
def mergeD (kvs more : List (DKey × D)) : List (DKey × D) := more.foldl (fun acc q => putD acc q.1 q.2) kvs
section
variable {K : PySem.W.Frag} {M : Mu} {H : Hp}
theorem any_keys {k : DKey} : ∀ {kvs : List (DKey × D)} {ks : List (Key × V)}, ks.map (·.1) = kvs.map (fun q => kO q.1) → (ks.any fun q => decide (q.1 = kO k)) = kvs.any fun q => decide (q.1 = k)
  | [], [], _ => rfl
  | [], _ :: _, h => by cases h
  | _ :: _, [], h => by cases h
  | a :: kvs, b :: ks, h => by
    simp only [List.map_cons, List.cons.injEq] at h
    rw [List.any_cons, List.any_cons, any_keys h.2, h.1, kO_dec]
theorem map_keys {k : DKey} {d : D} {v : V} (r0 : Rep K M H d v) : ∀ {kvs : List (DKey × D)} {ks : List (Key × V)}, ks.map (·.1) = kvs.map (fun q => kO q.1) → Reps K M H (kvs.map (·.2)) (ks.map (·.2)) →
    ((ks.map fun q => if q.1 = kO k then (q.1, v) else q).map (·.1) = (kvs.map fun q => if q.1 = k then (q.1, d) else q).map (fun q => kO q.1)) ∧
      Reps K M H ((kvs.map fun q => if q.1 = k then (q.1, d) else q).map (·.2)) ((ks.map fun q => if q.1 = kO k then (q.1, v) else q).map (·.2))
  | [], [], _, _ => ⟨rfl, .nil⟩
  | [], _ :: _, h, _ => by cases h
  | _ :: _, [], h, _ => by cases h
  | a :: kvs, b :: ks, h, r => by
    simp only [List.map_cons, List.cons.injEq] at h
    obtain ⟨u, us, e, r1, r2⟩ := r.uncons
    simp only [List.map_cons, List.cons.injEq] at e
    obtain ⟨i1, i2⟩ := map_keys r0 h.2 (by rw [e.2]; exact r2)
    by_cases q : a.1 = k
    · have q2 : b.1 = kO k := by rw [h.1, q]
      simp only [List.map_cons, if_pos q, if_pos q2]
      exact ⟨by rw [i1, h.1], .cons r0 i2⟩
    · have q2 : ¬ b.1 = kO k := fun z => q (kO_inj (by rw [← h.1, z]))
      simp only [List.map_cons, if_neg q, if_neg q2]
      exact ⟨by rw [i1, h.1], .cons (by rw [e.1]; exact r1) i2⟩
theorem put_rep {k : DKey} {d : D} {v : V} (r0 : Rep K M H d v) {kvs : List (DKey × D)} {ks : List (Key × V)} (h : ks.map (·.1) = kvs.map (fun q => kO q.1)) (r : Reps K M H (kvs.map (·.2)) (ks.map (·.2))) :
    (putK ks (kO k) v).map (·.1) = (putD kvs k d).map (fun q => kO q.1) ∧ Reps K M H ((putD kvs k d).map (·.2)) ((putK ks (kO k) v).map (·.2)) := by
  unfold putK putD
  rw [any_keys h]
  split
  · exact map_keys r0 h r
  · rw [List.map_append, List.map_append, List.map_append, List.map_append, h]
    exact ⟨rfl, r.append (.cons r0 .nil)⟩
theorem merge_rep : ∀ {more : List (DKey × D)} {ms : List (Key × V)} {kvs : List (DKey × D)} {ks : List (Key × V)}, ms.map (·.1) = more.map (fun q => kO q.1) → Reps K M H (more.map (·.2)) (ms.map (·.2)) →
    ks.map (·.1) = kvs.map (fun q => kO q.1) → Reps K M H (kvs.map (·.2)) (ks.map (·.2)) →
    (mergeK ks ms).map (·.1) = (mergeD kvs more).map (fun q => kO q.1) ∧ Reps K M H ((mergeD kvs more).map (·.2)) ((mergeK ks ms).map (·.2))
  | [], [], _, _, _, _, h, r => ⟨h, r⟩
  | [], _ :: _, _, _, h, _, _, _ => by cases h
  | _ :: _, [], _, _, h, _, _, _ => by cases h
  | a :: more, b :: ms, kvs, ks, h0, r0, h, r => by
    simp only [List.map_cons, List.cons.injEq] at h0
    obtain ⟨u, us, e, r1, r2⟩ := r0.uncons
    simp only [List.map_cons, List.cons.injEq] at e
    have p := put_rep (k := a.1) r1 h r
    have q := merge_rep (more := more) (ms := ms) h0.2 (by rw [e.2]; exact r2) p.1 p.2
    unfold mergeK mergeD at q ⊢
    rw [List.foldl_cons, List.foldl_cons, h0.1, e.1]
    exact q
end
def dPairs : List (DTE × DTE) → DSt → Mu → (List (D × D) → Mu → Prop) → DX → Prop
  | [], _, M, Q, _ => Q [] M
  | (tk, tv) :: r, τ, M, Q, E => tk τ M (fun x M1 => tv τ M1 (fun y M2 => dPairs r τ M2 (fun ps M3 => Q ((x, y) :: ps) M3) E) E) E
/-- {k: v, ..} -/
def dDict (prs : List (DTE × DTE)) : DTE := fun τ M Q E => ∀ p, M p = none → dPairs prs τ (put M p (.dK [])) (fun ps M2 => M2 p = some (.dK []) ∧ ∃ kvs : List (DKey × D), ps = kvs.map (fun q => (kD q.1, q.2)) ∧ kvs.length ≤ 15 ∧ Q (.ref p) (put M2 p (.dK (mergeD [] kvs)))) E
/-- {} -/
def dDict0 : DTE := fun _ M Q _ => ∀ p, M p = none → Q (.ref p) (put M p (.dK []))
def lifP (K : PySem.W.Frag) (W : WX) (prs : List (DTE × DTE)) : List (TE × TE) := prs.map fun q => (lif K W (RD K) q.1, lif K W (RD K) q.2)
def DPs (X : Cx) (W : WX) (pos : Pos) (keys : List (Option Expr)) (values : List Expr) (prs : List (DTE × DTE)) : Prop := PPs X pos keys values (lifP X.K W prs)
section
variable {X : Cx} {W : WX} {a b c e o i k v : Expr} {rest es : List Expr} {ta tb tc te to ti tk tv : DTE} {tl : DTA} {tt : DTT} {pos apos cpos p : Pos} {x : Str} {keys ks : List (Option Expr)} {values vs : List Expr} {prs : List (DTE × DTE)} {st : Stmt} {t : DTS}
theorem dps_nil : DPs X W pos [] [] [] := pps_nil
theorem dps_cons (hk : DE X W k tk) (hv : DE X W v tv) (hr : DPs X W pos ks vs prs) : DPs X W pos (some k :: ks) (v :: vs) ((tk, tv) :: prs) := pps_cons hk hv hr
theorem kD_rep {K : PySem.W.Frag} {M : Mu} {H : Hp} (k : DKey) : Rep K M H (kD k) (kV (kO k)) := by
  cases k <;> exact rfl
theorem pairs_rep {K : PySem.W.Frag} {M : Mu} {H : Hp} : ∀ {kvs : List (DKey × D)} {ps : List (V × V)}, Paired (fun (q : D × D) (r : V × V) => Rep K M H q.1 r.1 ∧ Rep K M H q.2 r.2) (kvs.map fun q => (kD q.1, q.2)) ps →
    ∃ ks : List (Key × V), ps = ks.map (fun q => (kV q.1, q.2)) ∧ ks.map (·.1) = kvs.map (fun q => kO q.1) ∧ Reps K M H (kvs.map (·.2)) (ks.map (·.2))
  | [], _, h => by cases h; exact ⟨[], rfl, rfl, .nil⟩
  | a :: kvs, ps, h => by
    rw [List.map_cons] at h
    cases h with
    | cons h1 h2 =>
      rename_i q r
      obtain ⟨ks, e, e2, r2⟩ := pairs_rep h2
      obtain ⟨q1, q2⟩ := q
      have ek : q1 = kV (kO a.1) := by
        cases ea : a.1 with
        | inl i => rw [ea] at h1; exact h1.1
        | inr z => rw [ea] at h1; exact h1.1
      refine ⟨(kO a.1, q2) :: ks, by rw [List.map_cons, ← e, ek], by rw [List.map_cons, List.map_cons, e2], .cons h1.2 r2⟩
theorem prs_ok {K : PySem.W.Frag} {W : WX} {τ : DSt} {σ : L2.St} {E0 : DX} {G : List (D × D) → Mu → Prop} {Q : List (V × V) → Hp → Prop} : ∀ {prs : List (DTE × DTE)} {M : Mu} {H : Hp}, RepS K M H τ σ → Cor K M H → dPairs prs τ M G E0 →
    (∀ ds M' vs H', G ds M' → Paired (fun (q : D × D) (r : V × V) => Rep K M' H' q.1 r.1 ∧ Rep K M' H' q.2 r.2) ds vs → Cor K M' H' → Stp M H M' H' → Q vs H') →
    (∀ x M' c d H', E0 x M' → RepX K M' H' x c d → Cor K M' H' → Stp M H M' H' → W c d σ H') → tPairs (lifP K W prs) σ H Q
  | [], M, H, rs, co, h, q, e => q [] M [] H h .nil co (Stp.refl M H)
  | (tk, tv) :: prs, M, H, rs, co, h, q, e => by
    refine ⟨τ, M, _, E0, ⟨rs, co, fun d1 M1 v1 H1 h1 r1 c1 s1 => ?_, e⟩, h⟩
    refine ⟨τ, M1, _, E0, ⟨rs.stp s1, c1, fun d2 M2 v2 H2 h2 r2 c2 s2 => ?_, fun x M' c d H' h r c' s' => e x M' c d H' h r c' (s1.trans s')⟩, h1⟩
    refine prs_ok ((rs.stp s1).stp s2) c2 h2 (fun ds M' vs H' g r c' s' => ?_) fun x M' c d H' h r c' s' => e x M' c d H' h r c' ((s1.trans s2).trans s')
    exact q _ M' _ H' g (.cons ⟨(r1.stp s2).stp s', r2.stp s'⟩ r) c' ((s1.trans s2).trans s')
theorem de_dict (h : DPs X W pos keys values prs) (hall : keys.all (·.isSome) = true := by rfl) (hl : keys.length = values.length := by rfl) (h0 : keys ≠ [] := by intro h; cases h) (h15 : keys.length ≤ 15 := by decide) : DE X W (.Dict keys values pos) (dDict prs) :=
  PE.of (pe_disp h hall hl h0 h15) fun σ H Q ⟨τ, M, Q0, E0, S, h⟩ => by
    intro p hp
    have s0 := Stp.newM (M := M) (o := .dK []) (mo := .dK []) hp
    refine prs_ok (S.rs.stp s0) (S.co.newM hp ⟨[], rfl, rfl, .nil⟩) (h p (S.co.free hp)) (fun ds M2 vs H2 g r c s => ?_) fun x M' c d H' h r c' s' => S.e x M' c d H' h r c' (s0.trans s')
    obtain ⟨g1, kvs, rfl, g2, g3⟩ := g
    obtain ⟨ks, e, ek, rk⟩ := pairs_rep r
    obtain ⟨ks0, e0, e1, _⟩ := mu_dK c g1
    have e2 : ks0 = [] := by cases ks0 with
      | nil => rfl
      | cons _ _ => cases e1
    subst e2
    have hl := congrArg List.length ek
    rw [List.length_map, List.length_map] at hl
    refine ⟨e0, ks, e, by omega, ?_⟩
    have s1 := Stp.write (H := H2) (o := .dK (mergeK [] ks)) (mo' := .dK (mergeD [] kvs)) g1
    obtain ⟨m1, m2⟩ := merge_rep (kvs := []) (ks := []) ek rk rfl .nil
    exact S.q _ _ _ _ g3 rfl (c.write g1 ⟨_, rfl, m1, m2⟩) ((s0.trans s).trans s1)
theorem de_dict0 : DE X W (.Dict [] [] pos) dDict0 := PE.of pe_dnewK fun σ H Q ⟨τ, M, Q0, E0, S, h⟩ => fun p hp =>
  S.q _ _ _ _ (h p (S.co.free hp)) rfl (S.co.newM hp ⟨[], rfl, rfl, .nil⟩) (Stp.newM hp)
/-! ### a walk over a dict that stays as it is meanwhile -/
def keysOf (kvs : List (DKey × D)) : List D := kvs.map fun q => kD q.1
def wForK (a : Addr) (kvs : List (DKey × D)) (u : HO) (g : DTG) (tb : DTS) (D0 : DEnds) : List D → DSt → Mu → Prop
  | [], τ, M => M a = some (.fK kvs u) ∧ D0.nx τ M
  | d :: ds, τ, M => M a = some (.fK kvs u) ∧ g d τ M (fun τ1 M1 => tb { D0 with nx := wForK a kvs u g tb D0 ds, ct := wForK a kvs u g tb D0 ds, bk := D0.nx } τ1 M1) (D0.ex τ)
def dForK (te : DTE) (g : DTG) (tb : DTS) : DTS := fun D0 τ M => te τ M (fun d M1 => match d with
  | .ref a => (match M1 a with
    | some (.fK kvs u) => wForK a kvs u g tb D0 (keysOf kvs) τ M1
    | _ => False)
  | _ => False) (D0.ex τ)
theorem ds_forK {tg iter : Expr} {body : List Stmt} {te : DTE} {g : DTG} {tb : DTS} (G : Gd X W) (he : DE X W iter te) (hg : DG X W tg g) (hb : DSs X W body tb) (hs : ∀ x, foldedSetIterable iter X.env x = pure x := by intro _; rfl) :
    DS X W (.For tg iter body [] pos) (dForK te g tb) :=
  PS.of (ps_for G.own G.calm (pi_keys he) hg hb hs) fun D1 σ H ⟨τ, M, D0, S, h⟩ => S.sub h fun d M1 v H1 h1 r1 S1 s1 => by
    cases d with
    | ref a =>
      cases r1
      have h2 : (match M1 a with
        | some (.fK kvs u) => wForK a kvs u g tb D0 (keysOf kvs) τ M1
        | _ => False) := h1
      cases em : M1 a with
      | none => rw [em] at h2; exact h2.elim
      | some mo =>
        rw [em] at h2
        cases mo with
        | fK kvs u =>
          have h3 : wForK a kvs u g tb D0 (keysOf kvs) τ M1 := h2
          obtain ⟨od, ks, hf, eu, ek, rk⟩ := mu_fK S1.co em
          subst eu
          have hlen : ks.length = (keysOf kvs).length := by
            have := congrArg List.length ek
            rw [List.length_map, List.length_map] at this
            rw [this, keysOf, List.length_map]
          refine ⟨a, od, rfl, .inl ⟨ks, hf, ?_⟩⟩
          refine ⟨fun i m σ2 H2 => m = (keysOf kvs).length - i ∧ i ≤ (keysOf kvs).length ∧ ∃ τ2 M2, Stp M1 H1 M2 H2 ∧ SitS X.K W τ2 M2 σ2 H2 D0 D1 ∧ wForK a kvs (.frz od (.dK ks)) g tb D0 ((keysOf kvs).drop i) τ2 M2, ⟨(keysOf kvs).length, rfl, Nat.zero_le _, τ, M1, Stp.refl M1 H1, S1, h3⟩, ?_⟩
          rintro i m σ2 H2 ⟨rfl, hi, τ2, M2, s2, S2, h2⟩
          have at_ : M2 a = some (.fK kvs (.frz od (.dK ks))) → H2 a = some (.frz od (.dK ks)) := fun z => by
            obtain ⟨od', ks', q1, q2, _⟩ := mu_fK S2.co z
            rw [q1, q2]
          by_cases hlt : i < (keysOf kvs).length
          · have e : (keysOf kvs).drop i = (keysOf kvs)[i] :: (keysOf kvs).drop (i + 1) := List.drop_eq_getElem_cons hlt
            rw [e] at h2
            refine .inr ⟨⟨at_ h2.1, by omega⟩, fun σ3 H3 => ∃ τ3 M3, Stp M1 H1 M3 H3 ∧ SitS X.K W τ3 M3 σ3 H3 D0 D1 ∧ wForK a kvs (.frz od (.dK ks)) g tb D0 ((keysOf kvs).drop (i + 1)) τ3 M3, fun σ3 H3 q => ⟨(keysOf kvs).length - (i + 1), by omega, rfl, hlt, q⟩, fun x H3 y => ?_⟩
            obtain ⟨rfl, key, val, ykv, rfl⟩ := y
            have y1 : Rep X.K M2 H3 (keysOf kvs)[i] (kV key) := by
              have hk2 : i < kvs.length := by rw [keysOf, List.length_map] at hlt; exact hlt
              have q : (ks.map (·.1))[i]? = (kvs.map fun q => kO q.1)[i]? := by rw [ek]
              rw [List.getElem?_map, List.getElem?_map, ykv, List.getElem?_eq_getElem hk2] at q
              have q2 : key = kO kvs[i].1 := by simpa using q
              have q3 : (keysOf kvs)[i] = kD kvs[i].1 := by simp [keysOf]
              rw [q2, q3]
              exact kD_rep _
            refine ⟨(keysOf kvs)[i], τ2, M2, _, D0.ex τ2, y1, ⟨S2.rs, S2.co, fun τ4 M4 σ4 H4 h4 r4 c4 s4 => ?_, fun x M' c d H' h r c' s' => S2.xc x τ2 M' c d σ2 H' h r (S2.rs.stp s') c' s'⟩, h2.2⟩
            have S4 := S2.go r4 c4 s4
            exact ⟨τ4, M4, { D0 with nx := wForK a kvs (.frz od (.dK ks)) g tb D0 ((keysOf kvs).drop (i + 1)), ct := wForK a kvs (.frz od (.dK ks)) g tb D0 ((keysOf kvs).drop (i + 1)), bk := D0.nx }, ⟨S4.rs, S4.co, fun a b c d h r c' s => ⟨a, b, (s2.trans s4).trans s, S4.go r c' s, h⟩, S4.rt, S4.nx, fun a b c d h r c' s => ⟨a, b, (s2.trans s4).trans s, S4.go r c' s, h⟩, S4.xc⟩, h4⟩
          · have e : i = (keysOf kvs).length := by omega
            rw [e, List.drop_length] at h2
            exact .inl ⟨⟨at_ h2.1, by omega⟩, S2.next h2.2⟩
        | _ => exact h2.elim
    | _ => exact h1.elim
/-- while the statement runs, the dict in that slot is only read -/
def dLock (i : Nat) (t : DTS) : DTS := fun D0 τ M => match τ[i]? with
  | some (some (.ref a)) => (match M a with
    | some (.dK kvs) => ∀ u, t ⟨fun τ' M' => M' a = some (.fK kvs u) ∧ D0.nx τ' (put M' a (.dK kvs)), fun d M' => M' a = some (.fK kvs u) ∧ D0.rt d (put M' a (.dK kvs)), fun τ' M' => M' a = some (.fK kvs u) ∧ D0.bk τ' (put M' a (.dK kvs)),
      fun τ' M' => M' a = some (.fK kvs u) ∧ D0.ct τ' (put M' a (.dK kvs)), fun _ _ _ => False⟩ τ (put M a (.fK kvs u))
    | _ => False)
  | _ => False
theorem ds_lock (j : Nat) (h : DS X W st t) : DS X W st (dLock j t) := PS.of (ps_lock h) fun D1 σ H ⟨τ, M, D0, S, hh⟩ => by
  unfold dLock at hh
  split at hh
  · rename_i a e
    split at hh
    · rename_i kvs em
      obtain ⟨ks, ha, ek, rk⟩ := mu_dK S.co em
      refine ⟨a, .dK ks, ha, trivial, fun od => ?_⟩
      have s0 := Stp.write (H := H) (o := .frz od (.dK ks)) (mo' := .fK kvs (.frz od (.dK ks))) em
      have c0 := S.co.write (o := .frz od (.dK ks)) (mo' := .fK kvs (.frz od (.dK ks))) em ⟨rfl, od, ks, rfl, ek, rk⟩
      -- back
      have back : ∀ {M' : Mu} {H' : Hp}, M' a = some (.fK kvs (.frz od (.dK ks))) → Cor X.K M' H' → Stp (put M a (.fK kvs (.frz od (.dK ks)))) (upd H a (.frz od (.dK ks))) M' H' →
          H' a = some (.frz od (.dK ks)) ∧ Cor X.K (put M' a (.dK kvs)) (upd H' a (.dK ks)) ∧ Stp M' H' (put M' a (.dK kvs)) (upd H' a (.dK ks)) ∧ Stp M H (put M' a (.dK kvs)) (upd H' a (.dK ks)) := by
        intro M' H' m c s
        obtain ⟨od', ks', q1, q2, q3, q4⟩ := mu_fK c m
        injection q2 with q5 q6
        injection q6 with q7
        subst q5 q7
        have s1 := Stp.write (H := H') (o := .dK ks) (mo' := .dK kvs) m
        exact ⟨q1, c.write m ⟨_, rfl, q3, q4⟩, s1, (s0.trans s).trans s1⟩
      refine ⟨τ, _, _, ⟨S.rs.stp s0, c0, ?_, ?_, ?_, ?_, ?_⟩, hh (.frz od (.dK ks))⟩
      · rintro τ' M' σ' H' ⟨m, n⟩ r c s
        obtain ⟨b1, b2, b3, b4⟩ := back m c s
        exact ⟨b1, S.nx _ _ _ _ n (r.stp b3) b2 b4⟩
      · rintro d M' v H' ⟨m, n⟩ r c s
        obtain ⟨b1, b2, b3, b4⟩ := back m c s
        exact ⟨b1, S.rt _ _ _ _ n (r.stp b3) b2 b4⟩
      · rintro τ' M' σ' H' ⟨m, n⟩ r c s
        obtain ⟨b1, b2, b3, b4⟩ := back m c s
        exact ⟨b1, S.bk _ _ _ _ n (r.stp b3) b2 b4⟩
      · rintro τ' M' σ' H' ⟨m, n⟩ r c s
        obtain ⟨b1, b2, b3, b4⟩ := back m c s
        exact ⟨b1, S.ct _ _ _ _ n (r.stp b3) b2 b4⟩
      · exact fun _ _ _ _ _ _ _ z => z.elim
    · exact hh.elim
  · exact hh.elim
end
end DL

namespace DL
open PySem L2 He
/-! ### o[i] = d of a list, of a dict -/
def gSetA : DSet := fun o i d M Q => match o, i with
  | .ref a, .int k => (match M a with
    | some (.lst ds) => (match ixN ds.length k with
      | some j => Q (put M a (.lst (ds.set j d)))
      | none => False)
    | some (.dK kvs) => kvs.length < 16777216 ∧ Q (put M a (.dK (putD kvs (.inl k) d)))
    | _ => False)
  | .ref a, .str x => (match M a with
    | some (.dK kvs) => kvs.length < 16777216 ∧ Q (put M a (.dK (putD kvs (.inr x) d)))
    | _ => False)
  | _, _ => False
theorem set_any {X : Cx} (hu : X.A.units + 1 < cLine) : PSet X (fun o i v H Q => rSetL o i v H Q ∨ rSetD o i v H Q) := by
  intro pins s σ H o i v ov iv u Q I ro ri rv h
  rcases h with h | h
  · exact set_list pins s σ H o i v ov iv u Q I ro ri rv h
  · exact set_dict hu pins s σ H o i v ov iv u Q I ro ri rv h
section
variable {X : Cx} {W : WX} {a b c e o i : Expr} {rest es : List Expr} {ta tb tc te to ti : DTE} {tl : DTA} {tt : DTT} {pos apos cpos p : Pos} {x : Str}
theorem dg_setA (G : Gd X W) (ho : DE X W o to) (hi : DE X W i ti) (ha : ∀ v, assign (.Subscript o i pos) X.env v = (do
      let ov ← holding [v] (eval o X.env)
      let iv ← holding [v, ov] (eval i X.env)
      standAt pos
      holding [v, ov, iv] (setItem ov iv v)
      release [v, ov, iv] []) := by intro _; rfl) : DG X W (.Subscript o i pos) (dgSub to ti gSetA) :=
  PG.of (pg_sub ho hi (set_any G.hu1) ha) fun v σ H Q ⟨d, τ, M, Q0, E0, r, S, h⟩ => S.sub h fun x M1 v1 H1 h1 r1 S1 s1 => S1.sub h1 fun y M2 v2 H2 h2 r2 S2 s2 => by
    have dic : ∀ {a : Addr} {k : DKey} {kvs : List (DKey × D)}, M2 a = some (.dK kvs) → kvs.length < 16777216 ∧ Q0 τ (put M2 a (.dK (putD kvs k d))) → rSetD (.ref a) (kV (kO k)) v H2 (fun H' => Q σ H') := by
      intro a k kvs e z
      obtain ⟨ks, hv, ek, ra⟩ := mu_dK S2.co e
      have hl := congrArg List.length ek
      rw [List.length_map, List.length_map] at hl
      have st := Stp.write (H := H2) (o := .dK (putK ks (kO k) v)) (mo' := .dK (putD kvs k d)) e
      obtain ⟨p1, p2⟩ := put_rep (k := k) ((r.stp s1).stp s2) ek ra
      exact ⟨a, _, rfl, DPut.k hv (by rw [line24, hl]; exact z.1), S2.q _ _ _ _ z.2 (S2.rs.stp st) (S2.co.write e ⟨_, rfl, p1, p2⟩) st⟩
    match x, y, h2 with
    | .ref a, .int k, h2 =>
      cases r1; cases r2
      have h3 : (match M2 a with
        | some (.lst ds) => (match ixN ds.length k with
          | some j => Q0 τ (put M2 a (.lst (ds.set j d)))
          | none => False)
        | some (.dK kvs) => kvs.length < 16777216 ∧ Q0 τ (put M2 a (.dK (putD kvs (.inl k) d)))
        | _ => False) := h2
      cases e : M2 a with
      | none => rw [e] at h3; exact h3.elim
      | some mo =>
        rw [e] at h3
        cases mo with
        | lst ds =>
          obtain ⟨vs, hv, ra⟩ := mu_lst S2.co e
          have h4 : (match ixN ds.length k with
            | some j => Q0 τ (put M2 a (.lst (ds.set j d)))
            | none => False) := h3
          cases e2 : ixN ds.length k with
          | none => rw [e2] at h4; exact h4.elim
          | some j =>
            rw [e2] at h4
            refine .inl ⟨a, vs, k, j, rfl, rfl, hv, by rw [ra.length]; exact e2, ?_⟩
            have st := Stp.write (H := H2) (o := .lst (vs.set j v)) (mo' := .lst (ds.set j d)) e
            exact S2.q _ _ _ _ h4 (S2.rs.stp st) (S2.co.write e ⟨_, rfl, ra.set ((r.stp s1).stp s2) j⟩) st
        | dK kvs => exact .inr (dic (k := .inl k) e h3)
        | _ => exact h3.elim
    | .ref a, .str x, h2 =>
      cases r1; cases r2
      have h3 : (match M2 a with
        | some (.dK kvs) => kvs.length < 16777216 ∧ Q0 τ (put M2 a (.dK (putD kvs (.inr x) d)))
        | _ => False) := h2
      cases e : M2 a with
      | none => rw [e] at h3; exact h3.elim
      | some mo =>
        rw [e] at h3
        cases mo with
        | dK kvs => exact .inr (dic (k := .inr x) e h3)
        | _ => exact h3.elim
end
/-! ### endswith, insert -/
def gEnds : DMt := fun x xs M Q => match x, xs with
  | .str a, [.str b] => Q (.bl (b.isSuffixOf a)) M
  | _, _ => False
theorem ends_sx (a b : Tx) : PySem.Txt.endswith (sx a) (sx b) = b.isSuffixOf a := by
  show (decide (0 + (sx b).length ≤ (sx a).length) && Builtin.Str.subAt (sx a) (sx b) ((sx a).length - (sx b).length)) = _
  rw [PySem.StrLaws.subAt_eq]
  rw [Bool.eq_iff_iff, Bool.and_eq_true, decide_eq_true_iff, List.isSuffixOf_iff_suffix, sx_len, sx_len]
  show (0 + b.length ≤ a.length ∧ ((a.drop (a.length - b.length)).take b.length == b) = true) ↔ _
  rw [Nat.zero_add, beq_iff_eq, List.suffix_iff_eq_drop]
  constructor
  · rintro ⟨h, e⟩
    rw [List.take_of_length_le (by rw [List.length_drop]; omega)] at e
    exact e.symm
  · intro e
    have hl : b.length ≤ a.length := by
      have := congrArg List.length e
      rw [List.length_drop] at this
      omega
    refine ⟨hl, ?_⟩
    rw [List.take_of_length_le (by rw [List.length_drop]; omega)]
    exact e.symm
def gInsert : DMt := fun x xs M Q => match x, xs with
  | .ref a, [.int i, y] => (match M a with
    | some (.lst ds) => ds.length < 16777216 ∧ 0 ≤ i ∧ i < 2 ^ 62 ∧ Q .non (put M a (.lst (ds.take i.toNat ++ [y] ++ ds.drop i.toNat)))
    | _ => False)
  | _, _ => False
section
variable {K : PySem.W.Frag}
theorem md_ends : MtD K gEnds (fun x xs H Q => ∃ a b, x = .str a ∧ xs = [.str b] ∧ Q (.bl (PySem.Txt.endswith a b)) H) := fun M H x v xs vs Q0 Q c rx r h q => by
  match x, xs, h with
  | .str a, [.str b], h =>
    obtain ⟨u, us, rfl, r1, r2⟩ := r.uncons
    cases r2.unnil; cases rx; cases r1
    refine ⟨sx a, sx b, rfl, rfl, ?_⟩
    rw [ends_sx]
    exact q _ M _ H h rfl c (Stp.refl M H)
theorem md_insert : MtD K gInsert (fun x vs H Q => ∃ (l : Addr) (xs : List V) (i : Int) (y : V), x = .ref l ∧ vs = [.int i, y] ∧ H l = some (.lst xs) ∧ xs.length < sizeLine ∧ 0 ≤ i ∧ i < 2 ^ 63 ∧ Q .non (upd H l (.lst (xs.take i.toNat ++ [y] ++ xs.drop i.toNat)))) := fun M H x v xs vs Q0 Q c rx r h q => by
  match x, xs, h with
  | .ref a, [.int i, y], h =>
    obtain ⟨u, us, rfl, r1, r2⟩ := r.uncons
    obtain ⟨u2, us2, rfl, r3, r4⟩ := r2.uncons
    cases r4.unnil; cases rx; cases r1
    have h2 : (match M a with
      | some (.lst ds) => ds.length < 16777216 ∧ 0 ≤ i ∧ i < 2 ^ 62 ∧ Q0 .non (put M a (.lst (ds.take i.toNat ++ [y] ++ ds.drop i.toNat)))
      | _ => False) := h
    cases e : M a with
    | none => rw [e] at h2; exact h2.elim
    | some mo =>
      rw [e] at h2
      cases mo with
      | lst ds =>
        obtain ⟨ws, ha, ra⟩ := mu_lst c e
        have h2 : ds.length < 16777216 ∧ 0 ≤ i ∧ i < 2 ^ 62 ∧ Q0 .non (put M a (.lst (ds.take i.toNat ++ [y] ++ ds.drop i.toNat))) := h2
        obtain ⟨h3, h4, h5, h6⟩ := h2
        refine ⟨a, ws, i, u2, rfl, rfl, ha, by rw [ra.length, line24]; exact h3, h4, by omega, ?_⟩
        exact q _ _ _ _ h6 rfl (c.write e ⟨_, rfl, ((ra.take _).snoc r3).append (ra.drop _)⟩) (Stp.write e)
      | _ => exact h2.elim
end
/-! ### a dict of texts in the module -/
def dKd (kvs : List (Tx × Tx)) (te : DTE) : DTE := fun τ M Q E => te τ M (fun d M1 => match d with
  | .str z => (match kvs.lookup z with
    | some v => Q (.str v) M1
    | none => False)
  | _ => False) E
def KdW (K : PySem.W.Frag) (w : World) (f : Addr) (kvs : List (Str × Str)) : Prop := ∀ q ∈ kvs, KDct K w f q.1 (.str q.2)
theorem lookup_mem {α β : Type} [BEq α] [LawfulBEq α] {k : α} {v : β} : ∀ {l : List (α × β)}, l.lookup k = some v → (k, v) ∈ l
  | [], h => by cases h
  | (a, b) :: l, h => by
    rw [List.lookup_cons] at h
    split at h
    · rename_i e
      cases h
      rw [eq_of_beq e]
      exact List.mem_cons_self
    · exact List.mem_cons_of_mem _ (lookup_mem h)
section
variable {X : Cx} {W : WX} {a b c e o i : Expr} {ta tb te : DTE} {pos p : Pos} {x : Str}
theorem de_kd {zs : List (Str × Str)} {kvs : List (Tx × Tx)} (h : ∃ f, X.mg x = some (.ref f) ∧ KdW X.K X.w f zs) (e : zs.map (fun q => (T q.1, T q.2)) = kvs) (hb : DE X W b tb) (hs : PlainIx b := by intro _ _; rfl) (hg : Gl X x := by rfl) (hd : (x == ("__debug__" : Str)) = false := by decide) :
    DE X W (.Subscript (.Name x p) b pos) (dKd kvs tb) := by
  obtain ⟨f, hm, hk⟩ := h
  refine PE.of (pe_ix ix_kdict (pe_glob hg hm (v := .ref f) rfl hd) hb hs) fun σ H Q ⟨τ, M, Q0, E0, S, h⟩ => ?_
  refine S.sub h fun d M1 v H1 h1 r1 S1 s1 => ?_
  cases d with
  | str z =>
    cases r1
    have h2 : (match kvs.lookup z with
      | some v => Q0 (.str v) M1
      | none => False) := h1
    cases e2 : kvs.lookup z with
    | none => rw [e2] at h2; exact h2.elim
    | some v =>
      rw [e2] at h2
      have m := lookup_mem e2
      rw [← e] at m
      obtain ⟨q, hq, e3⟩ := List.mem_map.mp m
      injection e3 with e4 e5
      have kd := hk q hq
      refine ⟨f, sx z, .str (sx v), rfl, rfl, ?_, S1.end_ h2 rfl⟩
      rw [← e4, ← e5, sx_T, sx_T]
      exact kd
  | _ => exact h1.elim
end
/-! ### the head's facts, with tables of texts -/
abbrev AlY : Type := AlD × List (Option (List (Option (Str × Int))))
def obsY (fa : List Fa) (fn : List DefD) (gb : List (PySem.W.Frag → Bool)) (ts : List Tab) (K : PySem.W.Frag) : AlY := (obsX fa fn gb K, ts.map fun t => dicW K (t.1 K))
def valY (fn : List DefD) (ts : List Tab) (w : World) : AlY := (valD fn, ts.map fun t => some (keysIn w.params t.2))
def SaysY (fa : List Fa) (fn : List DefD) (gb : List (PySem.W.Frag → Bool)) (ts : List Tab) (w : World) (K : PySem.W.Frag) : Prop := obsY fa fn gb ts K = valY fn ts w
def obsYG (n : Nat) (fa : List Fa) (fn : List DefD) (gb : List (PySem.W.Frag → Bool)) (ts : List Tab) (g : Addr → Option Obj) : AlY := obsY fa fn gb ts (frG g (asD g n))
def hookY (n : Nat) (fa : List Fa) (fn : List DefD) (gb : List (PySem.W.Frag → Bool)) (ts : List Tab) : PySem.W.Hook where
  α := AlY
  obs := fun s => obsYG n fa fn gb ts s.heap.get?
  val := fun w => valY fn ts w
  says := fun w h => ∃ K : PySem.W.Frag, K.In h ∧ SaysY fa fn gb ts w K
  of := fun _ _ e => ⟨_, frG_in, e⟩
  keeps := fun _ _ _ ⟨K, hK, c⟩ k => ⟨K, hK.keeps k, c⟩
theorem obsYG_eq {n : Nat} {fa : List Fa} {fn : List DefD} {gb : List (PySem.W.Frag → Bool)} {ts : List Tab} {g : Addr → Option Obj} {s : Shared} (h : ∀ a, g a = s.heap.get? a) : obsYG n fa fn gb ts g = (hookY n fa fn gb ts).obs s := by
  rw [funext h] <;> rfl
section
variable {fa : List Fa} {fn : List DefD} {gb : List (PySem.W.Frag → Bool)} {ts : List Tab} {w : World} {K : PySem.W.Frag}
theorem SaysY.x (c : SaysY fa fn gb ts w K) : SaysX fa fn gb K := congrArg (fun z : AlY => z.1) c
theorem SaysY.tab (c : SaysY fa fn gb ts w K) (i : Nat) {t : Tab} (h : ts[i]? = some t := by rfl) : ∃ es n, KDict K w (t.1 K) es n := by
  have e : ts.map (fun t => dicW K (t.1 K)) = ts.map fun t => some (keysIn w.params t.2) := congrArg (fun z : AlY => z.2) c
  have e2 : (ts.map fun t => dicW K (t.1 K))[i]? = (ts.map fun t => some (keysIn w.params t.2))[i]? := by rw [e]
  rw [List.getElem?_map, List.getElem?_map, h] at e2
  exact dicW_ok (Option.some.inj e2)
theorem kdw_of {x : Str} {zs : List (Str × Str)} {mg : Str → Option Value} (hm : mg x = some (.ref (ga K x))) (d : ∃ es n, KDict K w (ga K x) es n) (v : valsB K (ga K x) (zs.map fun q => (q.1, Dv.str q.2)) = true) : ∃ f, mg x = some (.ref f) ∧ KdW K w f zs := by
  refine ⟨_, hm, fun q hq => ?_⟩
  obtain ⟨es, n, D⟩ := d
  obtain ⟨u, e1, e2⟩ := valsB_ok v (List.mem_map.mpr ⟨q, hq, rfl⟩)
  exact ⟨es, n, u, D.at_, D.lit, e1, e2⟩
end
end DL

namespace DL
open PySem L2
/-! ### lists of texts compared -/
def okT (x : Tx) : Prop := ∀ c ∈ x, c < 1114112
theorem canLay_strs : ∀ {xs : List Tx}, (∀ x ∈ xs, okT x) → PyData.canLayAll0 (pds (xs.map D.str)) = true
  | [], _ => by simp [pds, PyData.canLayAll0]
  | x :: xs, h => by
    have h1 : PyData.canLay0 (pd (.str x)) = true := by
      unfold pd PyData.canLay0
      show (sx x).cps.all (· < 0x110000) = true
      rw [Array.all_eq_true]
      intro i hi
      have := h x (List.mem_cons_self ..) ((sx x).cps[i]) (by
        have : (sx x).cps[i] ∈ (sx x).cps.toList := by rw [Array.mem_toList_iff]; exact Array.getElem_mem hi
        exact this)
      exact decide_eq_true this
    rw [List.map_cons]
    unfold pds PyData.canLayAll0
    rw [h1, canLay_strs fun y hy => h y (List.mem_cons_of_mem _ hy)]
    rfl
theorem plains_strs : ∀ (xs : List Tx), plains (xs.map D.str) = true
  | [] => rfl
  | x :: xs => by
    rw [List.map_cons]
    unfold plains
    rw [plains_strs xs]
    rfl
theorem eqv_strs : ∀ (xs ys : List Tx), PyData.eqvAll (pds (xs.map D.str)) (pds (ys.map D.str)) = decide (xs = ys)
  | [], [] => by simp [pds, PyData.eqvAll]
  | [], _ :: _ => by simp [pds, PyData.eqvAll]
  | _ :: _, [] => by simp [pds, PyData.eqvAll]
  | x :: xs, y :: ys => by
    rw [List.map_cons, List.map_cons]
    unfold pds PyData.eqvAll
    rw [eqv_strs xs ys]
    unfold pd PyData.eqv
    rw [Bool.eq_iff_iff, Bool.and_eq_true, beq_iff_eq, decide_eq_true_iff, decide_eq_true_iff]
    constructor
    · rintro ⟨h1, h2⟩; rw [sx_inj h1, h2]
    · intro h; injection h with h1 h2; rw [h1, h2]; exact ⟨rfl, rfl⟩
theorem eqvL_strs (xs ys : List Tx) : PyData.eqv (.list (pds (xs.map D.str))) (.list (pds (ys.map D.str))) = decide (xs = ys) := by
  unfold PyData.eqv
  exact eqv_strs xs ys
theorem depth_strs : ∀ (xs : List Tx), PyData.depthAll (pds (xs.map D.str)) = 0
  | [] => by simp [pds, PyData.depthAll]
  | x :: xs => by
    rw [List.map_cons]
    unfold pds PyData.depthAll
    rw [depth_strs xs]
    unfold pd PyData.depth
    rfl
theorem eqOk_strs {xs : List Tx} (h : ∀ x ∈ xs, okT x) : eqOk (.lst (xs.map D.str)) = true := by
  unfold eqOk
  rw [Bool.and_eq_true]
  refine ⟨by unfold plain; exact plains_strs xs, ?_⟩
  unfold SeqAt.shaped
  rw [Bool.and_eq_true]
  unfold pd
  refine ⟨by unfold PyData.canLay0; exact canLay_strs h, ?_⟩
  unfold PyData.depth
  rw [depth_strs]
  decide
/-! ### rows of texts -/
def txs (ts : List Tx) : List D := ts.map D.str
theorem txs_app (a b : List Tx) : txs (a ++ b) = txs a ++ txs b := List.map_append
theorem inD_txs {w : Tx} : ∀ {ws : List Tx}, inD (.str w) (txs ws) = decide (w ∈ ws)
  | [] => rfl
  | x :: ws => by
    have h := inD_txs (w := w) (ws := ws)
    show (eqF (.str x) (.str w) || inD (.str w) (txs ws)) = _
    rw [h]
    have e : eqF (.str x) (.str w) = decide (w = x) := by
      show (x == w) = decide (w = x)
      rw [Bool.eq_iff_iff, beq_iff_eq, decide_eq_true_iff]
      exact eq_comm
    rw [e, ← Bool.decide_or]
    exact decide_eq_decide.mpr (by simp [List.mem_cons])
theorem flat_txs : ∀ {ws : List Tx}, (txs ws).all flatD = true
  | [] => rfl
  | x :: ws => by
    show (flatD (.str x) && (txs ws).all flatD) = true
    rw [flat_txs]; rfl
end DL

namespace DL
open PySem L2
/-! ### how the readings reduce: rows for simp, one a form -/
/-- the rows are no rows by rfl: then a proof by simp names each step, and nothing is unfolded twice -/
theorem pq {a b : Prop} (h : a ↔ b) : a = b := propext h
/-- simp looks not into what stands in the type of another argument: so the continuations are kept as they are until they are reached -/
inductive Lk {α : Type} (a : α) : Type where
  | mk
def onSome {α : Type} {K : α → Prop} (_ : Lk K) (o : Option α) : Prop := match o with
  | some a => K a
  | none => False
def onBl {K : Bool → Prop} (_ : Lk K) (d : D) : Prop := match d with
  | .bl b => K b
  | _ => False
def onInt {K : Int → Prop} (_ : Lk K) (d : D) : Prop := match d with
  | .int i => K i
  | _ => False
def onStr {K : Tx → Prop} (_ : Lk K) (d : D) : Prop := match d with
  | .str y => K y
  | _ => False
def onVar {K : D → Prop} (_ : Lk K) (o : Option (Option D)) : Prop := match o with
  | some (some d) => K d
  | _ => False
def onML {K : List D → Prop} (_ : Lk K) (o : Option MO) : Prop := match o with
  | some (.lst ds) => K ds
  | _ => False
def onML2 {K : List D → Prop} {L : List (DKey × D) → Prop} (_ : Lk K) (_ : Lk L) (o : Option MO) : Prop := match o with
  | some (.lst ds) => K ds
  | some (.dK kvs) => L kvs
  | _ => False
def onML3 {K : List D → Prop} {L : List (DKey × D) → Prop} (_ : Lk K) (_ : Lk L) (o : Option MO) : Prop := match o with
  | some (.lst ds) => K ds
  | some (.dK kvs) => L kvs
  | some (.fK kvs _) => L kvs
  | _ => False
def onDR {K : List (DKey × D) → Prop} (_ : Lk K) (o : Option MO) : Prop := match o with
  | some (.dK kvs) => K kvs
  | some (.fK kvs _) => K kvs
  | _ => False
def onFK {K : List (DKey × D) → HO → Prop} (_ : Lk K) (o : Option MO) : Prop := match o with
  | some (.fK kvs u) => K kvs u
  | _ => False
theorem onML3_l {K : List D → Prop} {L : List (DKey × D) → Prop} {ds : List D} : onML3 (K := K) (L := L) ⟨⟩ ⟨⟩ (some (.lst ds)) = K ds := pq Iff.rfl
theorem onML3_d {K : List D → Prop} {L : List (DKey × D) → Prop} {ds : List (DKey × D)} : onML3 (K := K) (L := L) ⟨⟩ ⟨⟩ (some (.dK ds)) = L ds := pq Iff.rfl
theorem onML3_f {K : List D → Prop} {L : List (DKey × D) → Prop} {ds : List (DKey × D)} {u : HO} : onML3 (K := K) (L := L) ⟨⟩ ⟨⟩ (some (.fK ds u)) = L ds := pq Iff.rfl
theorem onDR_d {L : List (DKey × D) → Prop} {ds : List (DKey × D)} : onDR (K := L) ⟨⟩ (some (.dK ds)) = L ds := pq Iff.rfl
theorem onDR_f {L : List (DKey × D) → Prop} {ds : List (DKey × D)} {u : HO} : onDR (K := L) ⟨⟩ (some (.fK ds u)) = L ds := pq Iff.rfl
theorem onFK_f {L : List (DKey × D) → HO → Prop} {ds : List (DKey × D)} {u : HO} : onFK (K := L) ⟨⟩ (some (.fK ds u)) = L ds u := pq Iff.rfl
def onDK {K : List (DKey × D) → Prop} (_ : Lk K) (o : Option MO) : Prop := match o with
  | some (.dK kvs) => K kvs
  | _ => False
def truK {K : Bool → Prop} (_ : Lk K) (M : Mu) (d : D) : Prop := match d with
  | .str x => x.length ≤ 16777216 ∧ K (!x.isEmpty)
  | d => match truD M d with
    | some b => K b
    | none => False
def frzK {K : DK} (_ : Lk K) (d : D) (M : Mu) : Prop := match d with
  | .ref a => (match M a with
    | some (.lst ds) => K (.lst ds) (del M a)
    | _ => False)
  | _ => False
def isiK {K : Bool → Prop} (_ : Lk K) (o : Option String) (T : String) : Prop := match o with
  | some n => ["bool", "int", "str", "list", "tuple", "dict"].contains T = true ∧ K (isaB n T)
  | none => False
def rng1K {K : List D → Mu → Prop} (_ : Lk K) (ds : List D) (M : Mu) : Prop := match ds with
  | [.int j] => -(2 ^ 62) ≤ j ∧ j < 2 ^ 62 ∧ K (upTo 0 j.toNat) M
  | _ => False
def rng2K {K : List D → Mu → Prop} (_ : Lk K) (ds : List D) (M : Mu) : Prop := match ds with
  | [.int i, .int j] => (-(2 ^ 62) ≤ i ∧ i < 2 ^ 62 ∧ -(2 ^ 62) ≤ j ∧ j < 2 ^ 62) ∧ K (upTo i (j - i).toNat) M
  | _ => False
def fzK {K : Addr → List D → Prop} (_ : Lk K) (o : Option (Option D)) (M : Mu) : Prop := match o with
  | some (some (.ref a)) => (match M a with
    | some (.lst ds) => K a ds
    | _ => False)
  | _ => False
def fmtK {K : DK} (_ : Lk K) (d : D) (M : Mu) : Prop := match d with
  | .str y => y.length ≤ 16777216 ∧ K (.str y) M
  | .int i => i.natAbs.log2 < 1920 ∧ K (.str (intT i)) M
  | _ => False
def opK {K : DK} (_ : Lk K) (g : DOp) (x y : D) (M : Mu) : Prop := g x y M K
def unK {K : DK} (_ : Lk K) (g : DUn) (x : D) (M : Mu) : Prop := g x M K
def cbK {K : DK} (_ : Lk K) (g : DCb) (ds : List D) (M : Mu) : Prop := g ds M K
def mtK {K : DK} (_ : Lk K) (g : DMt) (x : D) (ds : List D) (M : Mu) : Prop := g x ds M K
def slK {K : DK} (_ : Lk K) (x : D) (lo hi : Option Int) (M : Mu) : Prop := gSl x lo hi M K
def callK {K : DK} {L : DX} (_ : Lk K) (_ : Lk L) (sp : DSp) (ds : List D) (M : Mu) : Prop := sp ds M K L
theorem onSome_s {α : Type} {a : α} {k : α → Prop} : onSome (K := k) ⟨⟩ (some a) = k a := pq Iff.rfl
theorem onBl_b {b : Bool} {k : Bool → Prop} : onBl (K := k) ⟨⟩ (.bl b) = k b := pq Iff.rfl
theorem onInt_i {b : Int} {k : Int → Prop} : onInt (K := k) ⟨⟩ (.int b) = k b := pq Iff.rfl
theorem onVar_s {d : D} {k : D → Prop} : onVar (K := k) ⟨⟩ (some (some d)) = k d := pq Iff.rfl
theorem onML_l {ds : List D} {k : List D → Prop} : onML (K := k) ⟨⟩ (some (.lst ds)) = k ds := pq Iff.rfl
theorem onML2_l {ds : List D} {k : List D → Prop} {l : List (DKey × D) → Prop} : onML2 (K := k) (L := l) ⟨⟩ ⟨⟩ (some (.lst ds)) = k ds := pq Iff.rfl
theorem onML2_d {ds : List (DKey × D)} {k : List D → Prop} {l : List (DKey × D) → Prop} : onML2 (K := k) (L := l) ⟨⟩ ⟨⟩ (some (.dK ds)) = l ds := pq Iff.rfl
theorem onDK_d {ds : List (DKey × D)} {l : List (DKey × D) → Prop} : onDK (K := l) ⟨⟩ (some (.dK ds)) = l ds := pq Iff.rfl
section
variable {M : Mu} {Q : DK} {k : Bool → Prop} {τ : DSt} {E : DX} {te ta tb : DTE} {tl : DTA}
theorem tru_n : truK (K := k) ⟨⟩ M .non = k false := pq Iff.rfl
theorem tru_b {b : Bool} : truK (K := k) ⟨⟩ M (.bl b) = k b := pq Iff.rfl
theorem tru_i {i : Int} : truK (K := k) ⟨⟩ M (.int i) = k (i != 0) := pq Iff.rfl
theorem tru_s {x : Tx} : truK (K := k) ⟨⟩ M (.str x) = (x.length ≤ 16777216 ∧ k (!x.isEmpty)) := pq Iff.rfl
theorem tru_l {x : List D} : truK (K := k) ⟨⟩ M (.lst x) = k (!x.isEmpty) := pq Iff.rfl
theorem tru_t {x : List D} : truK (K := k) ⟨⟩ M (.tup x) = k (!x.isEmpty) := pq Iff.rfl
theorem tru_r {a : Addr} : truK (K := k) ⟨⟩ M (.ref a) = onML2 (K := fun ds => k !ds.isEmpty) (L := fun kvs => k !kvs.isEmpty) ⟨⟩ ⟨⟩ (M a) := by
  show (match (match M a with
    | some (.lst ds) => some !ds.isEmpty
    | some (.dK kvs) => some !kvs.isEmpty
    | _ => none) with
    | some b => k b
    | none => False) = _
  unfold onML2
  cases M a with
  | none => rfl
  | some mo => cases mo <;> rfl
theorem r_var {i : Nat} : dVar i τ M Q E = onVar (K := fun d => Q d M) ⟨⟩ τ[i]? := pq Iff.rfl
theorem r_test {Qb : Bool → Mu → Prop} : dTest te τ M Qb E = te τ M (fun d M1 => onBl (K := fun b => Qb b M1) ⟨⟩ d) E := pq Iff.rfl
theorem r_tru {Qb : Bool → Mu → Prop} : dTru te τ M Qb E = te τ M (fun d M1 => truK (K := fun b => Qb b M1) ⟨⟩ M1 d) E := pq Iff.rfl
theorem r_andV : dAndV ta tb τ M Q E = ta τ M (fun d M1 => onBl (K := fun b => if b = true then tb τ M1 Q E else Q (.bl false) M1) ⟨⟩ d) E := pq Iff.rfl
theorem r_orV : dOrV ta tb τ M Q E = ta τ M (fun d M1 => onBl (K := fun b => if b = true then Q (.bl true) M1 else tb τ M1 Q E) ⟨⟩ d) E := pq Iff.rfl
theorem r_notV : dNotV ta τ M Q E = ta τ M (fun d M1 => onBl (K := fun b => Q (.bl (!b)) M1) ⟨⟩ d) E := pq Iff.rfl
theorem r_frz : dFrz te τ M Q E = te τ M (fun d M1 => frzK (K := Q) ⟨⟩ d M1) E := pq Iff.rfl
theorem frz_r {a : Addr} : frzK (K := Q) ⟨⟩ (.ref a) M = onML (K := fun ds => Q (.lst ds) (del M a)) ⟨⟩ (M a) := pq Iff.rfl
theorem r_osome {Qo : Option Int → Mu → Prop} : doSome te τ M Qo E = te τ M (fun d M1 => onInt (K := fun i => Qo (some i) M1) ⟨⟩ d) E := pq Iff.rfl
theorem sl_s {x : Tx} {lo hi : Option Int} : slK (K := Q) ⟨⟩ (.str x) lo hi M = (x.length ≤ 16777216 ∧ Q (.str (cut x lo hi)) M) := pq Iff.rfl
theorem sl_l {x : List D} {lo hi : Option Int} : slK (K := Q) ⟨⟩ (.lst x) lo hi M = Q (.lst (cut x lo hi)) M := pq Iff.rfl
theorem sl_t {x : List D} {lo hi : Option Int} : slK (K := Q) ⟨⟩ (.tup x) lo hi M = (¬ (HT.sIx x.length 0 lo = 0 ∧ HT.sIx x.length x.length hi = x.length) ∧ Q (.tup (cut x lo hi)) M) := pq Iff.rfl
theorem sl_r {a : Addr} {lo hi : Option Int} : slK (K := Q) ⟨⟩ (.ref a) lo hi M = onML (K := fun ds => Q (.lst (cut ds lo hi)) M) ⟨⟩ (M a) := pq Iff.rfl
/-! operators -/
theorem add_i {i j : Int} : opK (K := Q) ⟨⟩ gAdd (.int i) (.int j) M = Q (.int (i + j)) M := pq Iff.rfl
theorem add_s {a b : Tx} : opK (K := Q) ⟨⟩ gAdd (.str a) (.str b) M = (a.length + b.length ≤ 16777216 ∧ Q (.str (a ++ b)) M) := pq Iff.rfl
theorem add_l {a b : List D} : opK (K := Q) ⟨⟩ gAdd (.lst a) (.lst b) M = (a.length + b.length ≤ 16777216 ∧ Q (.lst (a ++ b)) M) := pq Iff.rfl
theorem add_t {a b : List D} : opK (K := Q) ⟨⟩ gAdd (.tup a) (.tup b) M = (a ≠ [] ∧ a.length + b.length ≤ 16777216 ∧ Q (.tup (a ++ b)) M) := pq Iff.rfl
theorem add_rl {p : Addr} {b : List D} : opK (K := Q) ⟨⟩ gAdd (.ref p) (.lst b) M = onML (K := fun a => a.length + b.length ≤ 16777216 ∧ Q (.lst (a ++ b)) M) ⟨⟩ (M p) := pq Iff.rfl
theorem add_lr {p : Addr} {a : List D} : opK (K := Q) ⟨⟩ gAdd (.lst a) (.ref p) M = onML (K := fun b => a.length + b.length ≤ 16777216 ∧ Q (.lst (a ++ b)) M) ⟨⟩ (M p) := pq Iff.rfl
theorem sub_i {i j : Int} : opK (K := Q) ⟨⟩ gSub (.int i) (.int j) M = Q (.int (i - j)) M := pq Iff.rfl
theorem mul_i {i j : Int} : opK (K := Q) ⟨⟩ gMul (.int i) (.int j) M = (CMul i j ∧ Q (.int (i * j)) M) := pq Iff.rfl
theorem div_i {i j : Int} : opK (K := Q) ⟨⟩ gDiv (.int i) (.int j) M = (CDiv i j ∧ Q (.int (i / j)) M) := pq Iff.rfl
theorem mod_i {i j : Int} : opK (K := Q) ⟨⟩ gMod (.int i) (.int j) M = (0 < j ∧ Q (.int (i % j)) M) := pq Iff.rfl
theorem pow_i {i j : Int} : opK (K := Q) ⟨⟩ gPow (.int i) (.int j) M = (CPow i j ∧ Q (.int (i ^ j.toNat)) M) := pq Iff.rfl
theorem neg_i {i : Int} : unK (K := Q) ⟨⟩ gNeg (.int i) M = Q (.int (-i)) M := pq Iff.rfl
theorem cmp_i {p : Int → Int → Bool} {i j : Int} : opK (K := Q) ⟨⟩ (gInt p) (.int i) (.int j) M = Q (.bl (p i j)) M := pq Iff.rfl
variable {nb : Bool → Bool}
theorem eq_i {i j : Int} : opK (K := Q) ⟨⟩ (gEqN nb) (.int i) (.int j) M = Q (.bl (nb (decide (i = j)))) M := pq Iff.rfl
theorem eq_s {i j : Tx} : opK (K := Q) ⟨⟩ (gEqN nb) (.str i) (.str j) M = Q (.bl (nb (decide (i = j)))) M := pq Iff.rfl
theorem eq_b {i j : Bool} : opK (K := Q) ⟨⟩ (gEqN nb) (.bl i) (.bl j) M = Q (.bl (nb (decide (i = j)))) M := pq Iff.rfl
theorem eq_n : opK (K := Q) ⟨⟩ (gEqN nb) .non .non M = Q (.bl (nb true)) M := pq Iff.rfl
theorem eq_l {a b : List D} : opK (K := Q) ⟨⟩ (gEqN nb) (.lst a) (.lst b) M = (eqOk (.lst a) = true ∧ eqOk (.lst b) = true ∧ Q (.bl (nb (PyData.eqv (.list (pds a)) (.list (pds b))))) M) := pq Iff.rfl
theorem eq_t {a b : List D} : opK (K := Q) ⟨⟩ (gEqN nb) (.tup a) (.tup b) M = (eqOk (.tup a) = true ∧ eqOk (.tup b) = true ∧ Q (.bl (nb (PyData.eqv (.tuple (pds a)) (.tuple (pds b))))) M) := pq Iff.rfl
theorem eq_rl {p : Addr} {b : List D} : opK (K := Q) ⟨⟩ (gEqN nb) (.ref p) (.lst b) M = onML (K := fun a => eqOk (.lst a) = true ∧ eqOk (.lst b) = true ∧ Q (.bl (nb (PyData.eqv (.list (pds a)) (.list (pds b))))) M) ⟨⟩ (M p) := pq Iff.rfl
theorem eq_lr {p : Addr} {a : List D} : opK (K := Q) ⟨⟩ (gEqN nb) (.lst a) (.ref p) M = onML (K := fun b => eqOk (.lst a) = true ∧ eqOk (.lst b) = true ∧ Q (.bl (nb (PyData.eqv (.list (pds a)) (.list (pds b))))) M) ⟨⟩ (M p) := pq Iff.rfl
theorem tt {P : Prop} : (true = true ∧ P) = P := by simp
theorem eq_ni {i : Int} : opK (K := Q) ⟨⟩ (gEqN nb) .non (.int i) M = Q (.bl (nb false)) M := tt
theorem eq_in {i : Int} : opK (K := Q) ⟨⟩ (gEqN nb) (.int i) .non M = Q (.bl (nb false)) M := tt
theorem eq_ns {i : Tx} : opK (K := Q) ⟨⟩ (gEqN nb) .non (.str i) M = Q (.bl (nb false)) M := tt
theorem eq_sn {i : Tx} : opK (K := Q) ⟨⟩ (gEqN nb) (.str i) .non M = Q (.bl (nb false)) M := tt
theorem eq_nb {i : Bool} : opK (K := Q) ⟨⟩ (gEqN nb) .non (.bl i) M = Q (.bl (nb false)) M := tt
theorem eq_bn {i : Bool} : opK (K := Q) ⟨⟩ (gEqN nb) (.bl i) .non M = Q (.bl (nb false)) M := tt
theorem eq_is {i : Int} {x : Tx} : opK (K := Q) ⟨⟩ (gEqN nb) (.int i) (.str x) M = Q (.bl (nb false)) M := tt
theorem eq_si {i : Int} {x : Tx} : opK (K := Q) ⟨⟩ (gEqN nb) (.str x) (.int i) M = Q (.bl (nb false)) M := tt
theorem ix_l {ds : List D} {i : Int} : opK (K := Q) ⟨⟩ gIx (.lst ds) (.int i) M = onSome (K := fun d => Q d M) ⟨⟩ (atI ds i) := by
  show (match atI ds i with | some d => Q d M | none => False) = _
  cases atI ds i <;> rfl
theorem ix_t {ds : List D} {i : Int} : opK (K := Q) ⟨⟩ gIx (.tup ds) (.int i) M = onSome (K := fun d => Q d M) ⟨⟩ (atI ds i) := by
  show (match atI ds i with | some d => Q d M | none => False) = _
  cases atI ds i <;> rfl
theorem ix_s {x : Tx} {i : Int} : opK (K := Q) ⟨⟩ gIx (.str x) (.int i) M = (x.length ≤ 16777216 ∧ onSome (K := fun c => Q (.str [c]) M) ⟨⟩ (atI x i)) := by
  show (x.length ≤ 16777216 ∧ (match atI x i with | some c => Q (.str [c]) M | none => False)) = _
  cases atI x i <;> rfl
theorem ix_ri {a : Addr} {i : Int} : opK (K := Q) ⟨⟩ gIx (.ref a) (.int i) M = onML3 (K := fun ds => onSome (K := fun d => Q d M) ⟨⟩ (atI ds i)) (L := fun kvs => onSome (K := fun d => Q d M) ⟨⟩ (lookK kvs (.inl i))) ⟨⟩ ⟨⟩ (M a) := by
  show (match M a with
    | some (.lst ds) => (match atI ds i with | some d => Q d M | none => False)
    | some (.dK kvs) => (match lookK kvs (.inl i) with | some d => Q d M | none => False)
    | some (.fK kvs _) => (match lookK kvs (.inl i) with | some d => Q d M | none => False)
    | _ => False) = _
  cases M a with
  | none => rfl
  | some mo => cases mo with
    | lst ds => show (match atI ds i with | some d => Q d M | none => False) = onSome (K := fun d => Q d M) ⟨⟩ (atI ds i); cases atI ds i <;> rfl
    | dK kvs => show (match lookK kvs (.inl i) with | some d => Q d M | none => False) = onSome (K := fun d => Q d M) ⟨⟩ (lookK kvs (.inl i)); cases lookK kvs (.inl i) <;> rfl
    | fK kvs u => show (match lookK kvs (.inl i) with | some d => Q d M | none => False) = onSome (K := fun d => Q d M) ⟨⟩ (lookK kvs (.inl i)); cases lookK kvs (.inl i) <;> rfl
    | _ => rfl
theorem ix_rs {a : Addr} {x : Tx} : opK (K := Q) ⟨⟩ gIx (.ref a) (.str x) M = onDR (K := fun kvs => onSome (K := fun d => Q d M) ⟨⟩ (lookK kvs (.inr x))) ⟨⟩ (M a) := by
  show (match M a with
    | some (.dK kvs) => (match lookK kvs (.inr x) with | some d => Q d M | none => False)
    | some (.fK kvs _) => (match lookK kvs (.inr x) with | some d => Q d M | none => False)
    | _ => False) = _
  cases M a with
  | none => rfl
  | some mo => cases mo with
    | dK kvs => show (match lookK kvs (.inr x) with | some d => Q d M | none => False) = onSome (K := fun d => Q d M) ⟨⟩ (lookK kvs (.inr x)); cases lookK kvs (.inr x) <;> rfl
    | fK kvs u => show (match lookK kvs (.inr x) with | some d => Q d M | none => False) = onSome (K := fun d => Q d M) ⟨⟩ (lookK kvs (.inr x)); cases lookK kvs (.inr x) <;> rfl
    | _ => rfl
theorem in_ss {c : Nat} {z : Tx} : opK (K := Q) ⟨⟩ (gInN nb) (.str [c]) (.str z) M = Q (.bl (nb (decide (c ∈ z)))) M := pq Iff.rfl
theorem in_l {x : D} {ys : List D} : opK (K := Q) ⟨⟩ (gInN nb) x (.lst ys) M = (flatD x = true ∧ ys.all flatD = true ∧ Q (.bl (nb (inD x ys))) M) := by
  cases x <;> first
    | rfl
    | (rename_i w; cases w with
      | nil => rfl
      | cons a l => cases l <;> rfl)
theorem in_t {x : D} {ys : List D} : opK (K := Q) ⟨⟩ (gInN nb) x (.tup ys) M = (flatD x = true ∧ ys.all flatD = true ∧ Q (.bl (nb (inD x ys))) M) := by
  cases x <;> first
    | rfl
    | (rename_i w; cases w with
      | nil => rfl
      | cons a l => cases l <;> rfl)
theorem in_ir {i : Int} {a : Addr} : opK (K := Q) ⟨⟩ (gInN nb) (.int i) (.ref a) M = onML3 (K := fun ys => ys.all flatD = true ∧ Q (.bl (nb (inD (.int i) ys))) M) (L := fun kvs => Q (.bl (nb (lookK kvs (.inl i)).isSome)) M) ⟨⟩ ⟨⟩ (M a) := pq Iff.rfl
theorem in_sr {x : Tx} {a : Addr} : opK (K := Q) ⟨⟩ (gInN nb) (.str x) (.ref a) M = onML3 (K := fun ys => ys.all flatD = true ∧ Q (.bl (nb (inD (.str x) ys))) M) (L := fun kvs => Q (.bl (nb (lookK kvs (.inr x)).isSome)) M) ⟨⟩ ⟨⟩ (M a) := by
  cases x with
  | nil => rfl
  | cons c l => cases l <;> rfl
theorem isn_n : opK (K := Q) ⟨⟩ (gIsNN nb) .non .non M = Q (.bl (nb true)) M := pq Iff.rfl
theorem isn_b {b : Bool} : opK (K := Q) ⟨⟩ (gIsNN nb) (.bl b) .non M = Q (.bl (nb false)) M := pq Iff.rfl
theorem isn_i {b : Int} : opK (K := Q) ⟨⟩ (gIsNN nb) (.int b) .non M = Q (.bl (nb false)) M := pq Iff.rfl
theorem isn_s {b : Tx} : opK (K := Q) ⟨⟩ (gIsNN nb) (.str b) .non M = Q (.bl (nb false)) M := pq Iff.rfl
theorem isn_r {b : Addr} : opK (K := Q) ⟨⟩ (gIsNN nb) (.ref b) .non M = Q (.bl (nb false)) M := pq Iff.rfl
theorem isn_l {b : List D} : opK (K := Q) ⟨⟩ (gIsNN nb) (.lst b) .non M = Q (.bl (nb false)) M := pq Iff.rfl
theorem isn_t {b : List D} : opK (K := Q) ⟨⟩ (gIsNN nb) (.tup b) .non M = Q (.bl (nb false)) M := pq Iff.rfl
/-! built-in functions -/
theorem len_s {x : Tx} : cbK (K := Q) ⟨⟩ gLen [.str x] M = (x.length ≤ 16777216 ∧ Q (.int x.length) M) := pq Iff.rfl
theorem len_l {x : List D} : cbK (K := Q) ⟨⟩ gLen [.lst x] M = Q (.int x.length) M := pq Iff.rfl
theorem len_t {x : List D} : cbK (K := Q) ⟨⟩ gLen [.tup x] M = Q (.int x.length) M := pq Iff.rfl
theorem len_r {a : Addr} : cbK (K := Q) ⟨⟩ gLen [.ref a] M = onML2 (K := fun ds => Q (.int ds.length) M) (L := fun kvs => Q (.int kvs.length) M) ⟨⟩ ⟨⟩ (M a) := pq Iff.rfl
theorem int_i {i : Int} : cbK (K := Q) ⟨⟩ gInt1 [.int i] M = Q (.int i) M := pq Iff.rfl
theorem int_b {b : Bool} : cbK (K := Q) ⟨⟩ gInt1 [.bl b] M = Q (.int (if b then 1 else 0)) M := pq Iff.rfl
theorem min_ii {i j : Int} : cbK (K := Q) ⟨⟩ gMin2 [.int i, .int j] M = Q (.int (if j < i then j else i)) M := pq Iff.rfl
theorem max_ii {i j : Int} : cbK (K := Q) ⟨⟩ gMax2 [.int i, .int j] M = Q (.int (if j > i then j else i)) M := pq Iff.rfl
theorem list_l {x : List D} : cbK (K := Q) ⟨⟩ gList [.lst x] M = Q (.lst x) M := pq Iff.rfl
theorem list_t {x : List D} : cbK (K := Q) ⟨⟩ gList [.tup x] M = Q (.lst x) M := pq Iff.rfl
theorem list_r {a : Addr} : cbK (K := Q) ⟨⟩ gList [.ref a] M = onML (K := fun ds => Q (.lst ds) M) ⟨⟩ (M a) := pq Iff.rfl
theorem list_c {ns : List Int} : cbK (K := Q) ⟨⟩ gList [.scr ns] M = Q (.lst (ns.map D.int)) M := pq Iff.rfl
theorem listM_l {x : List D} : cbK (K := Q) ⟨⟩ gListM [.lst x] M = (∀ p, M p = none → Q (.ref p) (put M p (.lst x))) := pq Iff.rfl
theorem listM_t {x : List D} : cbK (K := Q) ⟨⟩ gListM [.tup x] M = (∀ p, M p = none → Q (.ref p) (put M p (.lst x))) := pq Iff.rfl
theorem listM_r {a : Addr} : cbK (K := Q) ⟨⟩ gListM [.ref a] M = onML (K := fun ds => ∀ p, M p = none → Q (.ref p) (put M p (.lst ds))) ⟨⟩ (M a) := pq Iff.rfl
theorem isi_ {d : D} {T : String} : cbK (K := Q) ⟨⟩ gIsi [d, .ty T] M = isiK (K := fun b => Q (.bl b) M) ⟨⟩ (tyD M d) T := pq Iff.rfl
theorem isi_k {n T : String} {k : Bool → Prop} : isiK (K := k) ⟨⟩ (some n) T = (["bool", "int", "str", "list", "tuple", "dict"].contains T = true ∧ k (isaB n T)) := pq Iff.rfl
theorem ty_n : tyD M .non = some "NoneType" := rfl
theorem ty_b {b : Bool} : tyD M (.bl b) = some "bool" := rfl
theorem ty_i {b : Int} : tyD M (.int b) = some "int" := rfl
theorem ty_s {b : Tx} : tyD M (.str b) = some "str" := rfl
theorem ty_l {b : List D} : tyD M (.lst b) = some "list" := rfl
theorem ty_t {b : List D} : tyD M (.tup b) = some "tuple" := rfl
theorem it_s {x : Tx} : isTy "str" M (.str x) = True := by show ("str" = "str") = True; simp
theorem it_l {x : List D} : isTy "list" M (.lst x) = True := by show ("list" = "list") = True; simp
def isTyM (T : String) (o : Option MO) : Prop := match o with
  | some (.lst _) => T = "list"
  | some (.dK _) => T = "dict"
  | _ => False
theorem it_r {T : String} {a : Addr} : isTy T M (.ref a) = isTyM T (M a) := pq Iff.rfl
theorem itM_l {x : List D} : isTyM "list" (some (.lst x)) = True := by show ("list" = "list") = True; simp
theorem itM_d {x : List (DKey × D)} : isTyM "dict" (some (.dK x)) = True := by show ("dict" = "dict") = True; simp
theorem app_r {a : Addr} {y : D} : mtK (K := Q) ⟨⟩ gAppend (.ref a) [y] M = onML (K := fun ds => ds.length < 16777216 ∧ Q .non (put M a (.lst (ds ++ [y])))) ⟨⟩ (M a) := pq Iff.rfl
theorem rev_r {a : Addr} : mtK (K := Q) ⟨⟩ gReverse (.ref a) [] M = onML (K := fun ds => Q .non (put M a (.lst ds.reverse))) ⟨⟩ (M a) := pq Iff.rfl
theorem join_l {s : Tx} {ds : List D} : mtK (K := Q) ⟨⟩ gJoin (.str s) [.lst ds] M = (∃ ys : List Tx, ds = ys.map D.str ∧ (ys.map (·.length)).sum + ys.length * s.length ≤ 16777216 ∧ Q (.str (joinT s ys)) M) := pq Iff.rfl
theorem join_t {s : Tx} {ds : List D} : mtK (K := Q) ⟨⟩ gJoin (.str s) [.tup ds] M = (∃ ys : List Tx, ds = ys.map D.str ∧ (ys.map (·.length)).sum + ys.length * s.length ≤ 16777216 ∧ Q (.str (joinT s ys)) M) := pq Iff.rfl
theorem join_r {s : Tx} {a : Addr} : mtK (K := Q) ⟨⟩ gJoin (.str s) [.ref a] M = onML (K := fun ds => ∃ ys : List Tx, ds = ys.map D.str ∧ (ys.map (·.length)).sum + ys.length * s.length ≤ 16777216 ∧ Q (.str (joinT s ys)) M) ⟨⟩ (M a) := pq Iff.rfl
theorem starts_s {a b : Tx} : mtK (K := Q) ⟨⟩ gStarts (.str a) [.str b] M = Q (.bl (b.isPrefixOf a)) M := pq Iff.rfl
/-! targets, walks -/
variable {d : D} {Qs : DSt → Mu → Prop}
def tupK (n : Nat) (u : DTGs) (d : D) (τ : DSt) (M : Mu) (Q : DSt → Mu → Prop) : Prop := match d with
  | .tup ds => ds.length = n ∧ u ds τ M Q (fun _ _ => False)
  | _ => False
theorem r_gtup {n : Nat} {u : DTGs} {ds : List D} : dgTup n u (.tup ds) τ M Qs E = (ds.length = n ∧ u ds τ M Qs (fun _ _ => False)) := pq Iff.rfl
theorem r_glst {n : Nat} {u : DTGs} {ds : List D} : dgLst n u (.lst ds) τ M Qs E = (ds.length = n ∧ u ds τ M Qs (fun _ _ => False)) := pq Iff.rfl
theorem r_gnil : dgNil [] τ M Qs E = Qs τ M := pq Iff.rfl
theorem r_gcons {i : Nat} {u : DTGs} {r : List D} : dgCons i u (d :: r) τ M Qs E = u r (τ.set i (some d)) M Qs E := pq Iff.rfl
def setK {K : Mu → Prop} (_ : Lk K) (g : DSet) (o i d : D) (M : Mu) : Prop := g o i d M K
theorem set_r {a : Addr} {k : Int} {Qm : Mu → Prop} : setK (K := Qm) ⟨⟩ gSetA (.ref a) (.int k) d M = onML2 (K := fun ds => onSome (K := fun j => Qm (put M a (.lst (ds.set j d)))) ⟨⟩ (ixN ds.length k)) (L := fun kvs => kvs.length < 16777216 ∧ Qm (put M a (.dK (putD kvs (.inl k) d)))) ⟨⟩ ⟨⟩ (M a) := by
  show (match M a with
    | some (.lst ds) => (match ixN ds.length k with | some j => Qm (put M a (.lst (ds.set j d))) | none => False)
    | some (.dK kvs) => kvs.length < 16777216 ∧ Qm (put M a (.dK (putD kvs (.inl k) d)))
    | _ => False) = _
  cases M a with
  | none => rfl
  | some mo => cases mo with
    | lst ds => show (match ixN ds.length k with | some j => Qm (put M a (.lst (ds.set j d))) | none => False) = onSome (K := fun j => Qm (put M a (.lst (ds.set j d)))) ⟨⟩ (ixN ds.length k); cases ixN ds.length k <;> rfl
    | _ => rfl
theorem set_rs {a : Addr} {x : Tx} {Qm : Mu → Prop} : setK (K := Qm) ⟨⟩ gSetA (.ref a) (.str x) d M = onDK (K := fun kvs => kvs.length < 16777216 ∧ Qm (put M a (.dK (putD kvs (.inr x) d)))) ⟨⟩ (M a) := pq Iff.rfl
theorem ends_s {a b : Tx} : mtK (K := Q) ⟨⟩ gEnds (.str a) [.str b] M = Q (.bl (b.isSuffixOf a)) M := pq Iff.rfl
theorem ins_r {a : Addr} {i : Int} {y : D} : mtK (K := Q) ⟨⟩ gInsert (.ref a) [.int i, y] M = onML (K := fun ds => ds.length < 16777216 ∧ 0 ≤ i ∧ i < 2 ^ 62 ∧ Q .non (put M a (.lst (ds.take i.toNat ++ [y] ++ ds.drop i.toNat)))) ⟨⟩ (M a) := pq Iff.rfl
theorem r_any {Ql : List D → Mu → Prop} : diAny te τ M Ql E = te τ M (fun d M1 => onSome (K := fun ds => Ql ds M1) ⟨⟩ (itemsD d)) E := by
  unfold diAny
  congr 1
  funext d M1
  cases itemsD d <;> rfl
theorem items_s {x : Tx} : itemsD (.str x) = some (x.map fun c => D.str [c]) := rfl
theorem items_l {x : List D} : itemsD (.lst x) = some x := rfl
theorem items_t {x : List D} : itemsD (.tup x) = some x := rfl
theorem r_rng1 {Ql : List D → Mu → Prop} : diRng1 tl τ M Ql E = tl τ M (fun ds M1 => rng1K (K := Ql) ⟨⟩ ds M1) E := pq Iff.rfl
theorem r_rng2 {Ql : List D → Mu → Prop} : diRng2 tl τ M Ql E = tl τ M (fun ds M1 => rng2K (K := Ql) ⟨⟩ ds M1) E := pq Iff.rfl
theorem rng1_i {j : Int} {Ql : List D → Mu → Prop} : rng1K (K := Ql) ⟨⟩ [.int j] M = (-(2 ^ 62) ≤ j ∧ j < 2 ^ 62 ∧ Ql (upTo 0 j.toNat) M) := pq Iff.rfl
theorem rng2_i {i j : Int} {Ql : List D → Mu → Prop} : rng2K (K := Ql) ⟨⟩ [.int i, .int j] M = ((-(2 ^ 62) ≤ i ∧ i < 2 ^ 62 ∧ -(2 ^ 62) ≤ j ∧ j < 2 ^ 62) ∧ Ql (upTo i (j - i).toNat) M) := pq Iff.rfl
theorem r_fz {i : Nat} {t : DTS} {D0 : DEnds} : dFz i t D0 τ M = fzK (K := fun a ds => t D0 (τ.set i (some (.lst ds))) (del M a)) ⟨⟩ τ[i]? M := by
  unfold dFz fzK
  cases τ[i]? with
  | none => rfl
  | some o => cases o with
    | none => rfl
    | some d => cases d with
      | ref a => show (match M a with | some (.lst ds) => t D0 (τ.set i (some (.lst ds))) (del M a) | _ => False) = (match M a with | some (.lst ds) => t D0 (τ.set i (some (.lst ds))) (del M a) | _ => False); rfl
      | _ => rfl
theorem fz_r {a : Addr} {k : Addr → List D → Prop} : fzK (K := k) ⟨⟩ (some (some (.ref a))) M = onML (K := fun ds => k a ds) ⟨⟩ (M a) := pq Iff.rfl
end
/-! unfolding, whole readings only -/
theorem onStr_s {y : Tx} {k : Tx → Prop} : onStr (K := k) ⟨⟩ (.str y) = k y := pq Iff.rfl
theorem fmt_s {y : Tx} {M : Mu} {Q : DK} : fmtK (K := Q) ⟨⟩ (.str y) M = (y.length ≤ 16777216 ∧ Q (.str y) M) := pq Iff.rfl
theorem fmt_i {i : Int} {M : Mu} {Q : DK} : fmtK (K := Q) ⟨⟩ (.int i) M = (i.natAbs.log2 < 1920 ∧ Q (.str (intT i)) M) := pq Iff.rfl
theorem ex_mk {nx : DSt → Mu → Prop} {rt : DK} {bk ct : DSt → Mu → Prop} {xc : XD → DSt → Mu → Prop} {τ : DSt} : DEnds.ex ⟨nx, rt, bk, ct, xc⟩ τ = (fun x M => xc x τ M) := funext fun _ => funext fun _ => pq Iff.rfl
section
variable {nx : DSt → Mu → Prop} {rt : DK} {bk ct : DSt → Mu → Prop} {xc : XD → DSt → Mu → Prop}
theorem nx_mk : DEnds.nx ⟨nx, rt, bk, ct, xc⟩ = nx := funext fun _ => funext fun _ => pq Iff.rfl
theorem rt_mk : DEnds.rt ⟨nx, rt, bk, ct, xc⟩ = rt := funext fun _ => funext fun _ => pq Iff.rfl
theorem bk_mk : DEnds.bk ⟨nx, rt, bk, ct, xc⟩ = bk := funext fun _ => funext fun _ => pq Iff.rfl
theorem ct_mk : DEnds.ct ⟨nx, rt, bk, ct, xc⟩ = ct := funext fun _ => funext fun _ => pq Iff.rfl
theorem xc_mk : DEnds.xc ⟨nx, rt, bk, ct, xc⟩ = xc := funext fun _ => funext fun _ => funext fun _ => pq Iff.rfl
end
section
variable {d : D} {g : DOp} {gu : DUn} {gc : DCb} {gm : DMt} {gs : DSet} {tg : DTG} {T : String} {ta tb te to : DTE} {t u : DTT} {tl : DTA} {sp : DSp} {a b : DTS} {ti : DTI} {i : Nat} {l h : DTO} {τ : DSt} {M : Mu} {Q : DK} {E : DX} {Qb : Bool → Mu → Prop} {Ql : List D → Mu → Prop} {Qo : Option Int → Mu → Prop} {Qs : DSt → Mu → Prop} {D0 : DEnds} {ts : List DTE} {acc : Tx} {Qt : Tx → Mu → Prop} {p : Addr} {Nx : Mu → Prop}
theorem u_c : dC d τ M Q E = Q d M := pq Iff.rfl
theorem u_op : dOp g ta tb τ M Q E = ta τ M (fun x M1 => tb τ M1 (fun y M2 => opK (K := Q) ⟨⟩ g x y M2) E) E := pq Iff.rfl
theorem u_un : dUn gu ta τ M Q E = ta τ M (fun x M1 => unK (K := Q) ⟨⟩ gu x M1) E := pq Iff.rfl
theorem u_and : dAnd t u τ M Qb E = t τ M (fun b M1 => if b = true then u τ M1 Qb E else Qb false M1) E := pq Iff.rfl
theorem u_or : dOr t u τ M Qb E = t τ M (fun b M1 => if b = true then Qb true M1 else u τ M1 Qb E) E := pq Iff.rfl
theorem u_not : dNot t τ M Qb E = t τ M (fun b M1 => Qb (!b) M1) E := pq Iff.rfl
theorem u_if : dIf t ta tb τ M Q E = t τ M (fun b M1 => if b = true then ta τ M1 Q E else tb τ M1 Q E) E := pq Iff.rfl
theorem u_anil : daNil τ M Ql E = Ql [] M := pq Iff.rfl
theorem u_acons : daCons te tl τ M Ql E = te τ M (fun d M1 => tl τ M1 (fun ds M2 => Ql (d :: ds) M2) E) E := pq Iff.rfl
theorem u_lst : dLst tl τ M Q E = tl τ M (fun ds M1 => ds.length ≤ 16777216 ∧ Q (.lst ds) M1) E := pq Iff.rfl
theorem u_lstM : dLstM tl τ M Q E = tl τ M (fun ds M1 => ds.length ≤ 16777216 ∧ ∀ p, M1 p = none → Q (.ref p) (put M1 p (.lst ds))) E := pq Iff.rfl
theorem u_tup : dTup tl τ M Q E = tl τ M (fun ds M1 => ds.length ≤ 16777216 ∧ Q (.tup ds) M1) E := pq Iff.rfl
theorem u_call : dCall sp tl τ M Q E = tl τ M (fun ds M1 => callK (K := Q) (L := E) ⟨⟩ ⟨⟩ sp ds M1) E := pq Iff.rfl
theorem u_sl : dSl te l h τ M Q E = te τ M (fun d M1 => l τ M1 (fun lo M2 => h τ M2 (fun hi M3 => slK (K := Q) ⟨⟩ d lo hi M3) E) E) E := pq Iff.rfl
theorem u_onone : doNone τ M Qo E = Qo none M := pq Iff.rfl
theorem u_cb : dCB gc tl τ M Q E = tl τ M (fun ds M1 => cbK (K := Q) ⟨⟩ gc ds M1) E := pq Iff.rfl
theorem u_mt : dMt T gm to tl τ M Q E = to τ M (fun d M1 => isTy T M1 d ∧ tl τ M1 (fun ds M2 => mtK (K := Q) ⟨⟩ gm d ds M2) E) E := pq Iff.rfl
theorem u_mt0 : dMt0 T gm to τ M Q E = to τ M (fun d M1 => isTy T M1 d ∧ mtK (K := Q) ⟨⟩ gm d [] M1) E := pq Iff.rfl
theorem u_pass : dPass D0 τ M = D0.nx τ M := pq Iff.rfl
theorem u_seq : dSeq a b D0 τ M = a { D0 with nx := b D0 } τ M := pq Iff.rfl
theorem u_set : dSet i te D0 τ M = te τ M (fun d M1 => D0.nx (τ.set i (some d)) M1) (D0.ex τ) := pq Iff.rfl
theorem u_asg : dAsg te tg D0 τ M = te τ M (fun d M1 => tg d τ M1 D0.nx (D0.ex τ)) (D0.ex τ) := pq Iff.rfl
theorem u_drop : dDrop te D0 τ M = te τ M (fun _ M1 => D0.nx τ M1) (D0.ex τ) := pq Iff.rfl
theorem u_ret : dRet te D0 τ M = te τ M D0.rt (D0.ex τ) := pq Iff.rfl
theorem u_retN : dRetN D0 τ M = D0.rt .non M := pq Iff.rfl
theorem u_ifs : dIfS t a b D0 τ M = t τ M (fun c M1 => if c = true then a D0 τ M1 else b D0 τ M1) (D0.ex τ) := pq Iff.rfl
theorem u_brk : dBrk D0 τ M = D0.bk τ M := pq Iff.rfl
theorem u_cnt : dCnt D0 τ M = D0.ct τ M := pq Iff.rfl
theorem u_for : dFor ti tg a D0 τ M = ti τ M (fun ds M1 => wFor tg a D0 ds τ M1) (D0.ex τ) := pq Iff.rfl
theorem u_gname : dgName i d τ M Qs E = Qs (τ.set i (some d)) M := pq Iff.rfl
theorem u_gsub : dgSub ta tb gs d τ M Qs E = ta τ M (fun o M1 => tb τ M1 (fun i M2 => setK (K := fun M3 => Qs τ M3) ⟨⟩ gs o i d M2) E) E := pq Iff.rfl
theorem u_fs : dFs ts τ M Q E = dJs ts [] τ M (fun out M1 => Q (.str out) M1) E := pq Iff.rfl
theorem u_fmt : dFmt te τ M Q E = te τ M (fun x M1 => fmtK (K := Q) ⟨⟩ x M1) E := pq Iff.rfl
theorem u_js0 : dJs [] acc τ M Qt E = Qt acc M := pq Iff.rfl
theorem u_js : dJs (te :: ts) acc τ M Qt E = te τ M (fun x M1 => onStr (K := fun y => (acc ++ y).length ≤ 16777216 ∧ dJs ts (acc ++ y) τ M1 Qt E) ⟨⟩ x) E := pq Iff.rfl
theorem u_em : dEm p te τ M Nx = te τ M (fun y M1 => ∃ acc, M1 p = some (.lst acc) ∧ acc.length < sizeLine ∧ Nx (put M1 p (.lst (acc ++ [y])))) noX := pq Iff.rfl
def onRef {K : Addr → Prop} (_ : Lk K) (d : D) : Prop := match d with
  | .ref a => K a
  | _ => False
theorem onRef_r {K : Addr → Prop} {a : Addr} : onRef (K := K) ⟨⟩ (.ref a) = K a := pq Iff.rfl
theorem u_dict {prs : List (DTE × DTE)} : dDict prs τ M Q E = ∀ p, M p = none → dPairs prs τ (put M p (.dK [])) (fun ps M2 => M2 p = some (.dK []) ∧ ∃ kvs : List (DKey × D), ps = kvs.map (fun q => (kD q.1, q.2)) ∧ kvs.length ≤ 15 ∧ Q (.ref p) (put M2 p (.dK (mergeD [] kvs)))) E := pq Iff.rfl
theorem u_dict0 : dDict0 τ M Q E = ∀ p, M p = none → Q (.ref p) (put M p (.dK [])) := pq Iff.rfl
theorem u_dp0 {Qp : List (D × D) → Mu → Prop} : dPairs [] τ M Qp E = Qp [] M := pq Iff.rfl
theorem u_dp1 {Qp : List (D × D) → Mu → Prop} {prs : List (DTE × DTE)} : dPairs ((ta, tb) :: prs) τ M Qp E = ta τ M (fun x M1 => tb τ M1 (fun y M2 => dPairs prs τ M2 (fun ps M3 => Qp ((x, y) :: ps) M3) E) E) E := pq Iff.rfl
theorem u_forK : dForK te tg a D0 τ M = te τ M (fun d M1 => onRef (K := fun p => onFK (K := fun kvs u => wForK p kvs u tg a D0 (keysOf kvs) τ M1) ⟨⟩ (M1 p)) ⟨⟩ d) (D0.ex τ) := pq Iff.rfl
theorem u_lock : dLock i a D0 τ M = onVar (K := fun d => onRef (K := fun p => onDK (K := fun kvs => ∀ u, a ⟨fun τ' M' => M' p = some (.fK kvs u) ∧ D0.nx τ' (put M' p (.dK kvs)), fun d M' => M' p = some (.fK kvs u) ∧ D0.rt d (put M' p (.dK kvs)), fun τ' M' => M' p = some (.fK kvs u) ∧ D0.bk τ' (put M' p (.dK kvs)),
    fun τ' M' => M' p = some (.fK kvs u) ∧ D0.ct τ' (put M' p (.dK kvs)), fun _ _ _ => False⟩ τ (put M p (.fK kvs u))) ⟨⟩ (M p)) ⟨⟩ d) ⟨⟩ τ[i]? := by
  unfold dLock
  cases τ[i]? with
  | none => rfl
  | some o => cases o with
    | none => rfl
    | some d => cases d with
      | _ => rfl
theorem u_kd {kvs : List (Tx × Tx)} : dKd kvs te τ M Q E = te τ M (fun d M1 => onStr (K := fun z => onSome (K := fun v => Q (.str v) M1) ⟨⟩ (kvs.lookup z)) ⟨⟩ d) E := by
  unfold dKd
  congr 1
  funext d M1
  cases d with
  | str z => show (match kvs.lookup z with | some v => Q (.str v) M1 | none => False) = onSome (K := fun v => Q (.str v) M1) ⟨⟩ (kvs.lookup z); cases kvs.lookup z <;> rfl
  | _ => rfl
theorem u_yes : dYes τ M Qb E = Qb true M := pq Iff.rfl
theorem u_never : dNever D0 τ M = False := pq Iff.rfl
end
end DL

namespace DL
open PySem L2
/-! ### places in lists -/
theorem atI_nat {α : Type} {xs : List α} {i : Nat} (h : i < xs.length) : atI xs (i : Int) = some xs[i] := by
  unfold atI ixN
  rw [if_pos (by omega), if_pos (by omega)]
  show xs[(i : Int).toNat]? = _
  rw [Int.toNat_natCast, List.getElem?_eq_getElem h]
theorem atI_of {α : Type} {xs : List α} {i : Int} {x : α} (h0 : 0 ≤ i) (h : xs[i.toNat]? = some x) : atI xs i = some x := by
  have hl := (List.getElem?_eq_some_iff.mp h).1
  unfold atI ixN
  rw [if_pos h0, if_pos (by omega)]
  exact h
theorem atI_0 {α : Type} {a : α} {l : List α} : atI (a :: l) 0 = some a := atI_of (by decide) rfl
theorem atI_1 {α : Type} {a b : α} {l : List α} : atI (a :: b :: l) 1 = some b := atI_of (by decide) rfl
theorem atI_2 {α : Type} {a b c : α} {l : List α} : atI (a :: b :: c :: l) 2 = some c := atI_of (by decide) rfl
theorem atI_3 {α : Type} {a b c d : α} {l : List α} : atI (a :: b :: c :: d :: l) 3 = some d := atI_of (by decide) rfl
theorem atI_4 {α : Type} {a b c d e : α} {l : List α} : atI (a :: b :: c :: d :: e :: l) 4 = some e := atI_of (by decide) rfl
theorem ixN_m1 {n : Nat} : ixN (n + 1) (-1) = some n := by
  unfold ixN
  rw [if_neg (by decide), if_pos (by omega)]
  congr 1
  omega
theorem atI_m1 {α : Type} {xs : List α} {x : α} : atI (xs ++ [x]) (-1) = some x := by
  unfold atI
  rw [List.length_append, show ([x] : List α).length = 1 from rfl, ixN_m1]
  show (xs ++ [x])[xs.length]? = _
  simp
theorem ixN_nat {n i : Nat} (h : i < n) : ixN n (i : Int) = some i := by
  unfold ixN
  rw [if_pos (by omega), if_pos (by omega), Int.toNat_natCast]
theorem ixN_of {n : Nat} {i : Int} (h0 : 0 ≤ i) (h : i < n) : ixN n i = some i.toNat := by
  unfold ixN
  rw [if_pos h0, if_pos h]
theorem atI_is {α : Type} {xs : List α} {i : Int} (h0 : 0 ≤ i) (h : i < xs.length) : ∃ x, x ∈ xs ∧ atI xs i = some x ∧ xs[i.toNat]? = some x := by
  have hl : i.toNat < xs.length := by omega
  exact ⟨xs[i.toNat], List.getElem_mem hl, atI_of h0 (List.getElem?_eq_getElem hl), List.getElem?_eq_getElem hl⟩
theorem atI_map {α β : Type} {f : α → β} {xs : List α} {i : Int} : atI (xs.map f) i = (atI xs i).map f := by
  unfold atI
  rw [List.length_map]
  cases ixN xs.length i with
  | none => rfl
  | some j => show (xs.map f)[j]? = (xs[j]?).map f; rw [List.getElem?_map]
theorem ixN_40 : ixN 4 0 = some 0 := rfl
theorem ixN_41 : ixN 4 1 = some 1 := rfl
theorem ixN_42 : ixN 4 2 = some 2 := rfl
theorem ixN_43 : ixN 4 3 = some 3 := rfl
/-! ### cuts -/
theorem cut_to {α : Type} {xs : List α} {i : Int} (h0 : 0 ≤ i) (h : i ≤ xs.length) : cut xs none (some i) = xs.take i.toNat := by
  unfold cut HT.sIx
  simp only [List.drop_zero, Nat.sub_zero]
  rw [if_neg (by omega)]
  congr 1
  omega
theorem cut_from {α : Type} {xs : List α} {i : Int} (h0 : 0 ≤ i) : cut xs (some i) none = xs.drop i.toNat := by
  unfold cut HT.sIx
  simp only []
  rw [if_neg (by omega)]
  rw [List.take_of_length_le (by rw [List.length_drop]; omega)]
  by_cases h : i.toNat ≤ xs.length
  · congr 1; omega
  · rw [List.drop_eq_nil_of_le (by omega), List.drop_eq_nil_of_le (by omega)]
theorem cut_nat {α : Type} {xs : List α} {n : Nat} : cut xs (some (n : Int)) none = xs.drop n := by rw [cut_from (by omega), Int.toNat_natCast]
theorem cut_init {α : Type} {xs : List α} {x : α} : cut (xs ++ [x]) none (some (-1)) = xs := by
  unfold cut HT.sIx
  simp only [List.drop_zero, Nat.sub_zero]
  rw [if_pos (by decide)]
  rw [List.length_append, show ([x] : List α).length = 1 from rfl]
  rw [show (((-1 : Int) + ((xs.length + 1 : Nat) : Int)).toNat) = xs.length by omega]
  first
    | simp
    | (rw [Nat.min_eq_left (by omega)]; simp)
/-! ### loops -/
theorem wFor_by {g : DTG} {tb : DTS} {D0 : DEnds} {ds : List D} {τ : DSt} {M : Mu} (I : Nat → DSt → Mu → Prop) (h0 : I 0 τ M)
    (step : ∀ i d τ M, ds[i]? = some d → I i τ M → ∀ nxt : DSt → Mu → Prop, (∀ τ2 M2, I (i + 1) τ2 M2 → nxt τ2 M2) → g d τ M (fun τ1 M1 => tb { D0 with nx := nxt, ct := nxt, bk := D0.nx } τ1 M1) (D0.ex τ))
    (done : ∀ τ M, I ds.length τ M → D0.nx τ M) : wFor g tb D0 ds τ M := by
  have all : ∀ (rest pre : List D) (τ : DSt) (M : Mu), ds = pre ++ rest → I pre.length τ M → wFor g tb D0 rest τ M := by
    intro rest
    induction rest with
    | nil =>
      intro pre τ M e h
      rw [List.append_nil] at e
      rw [← e] at h
      exact done τ M h
    | cons d rest ih =>
      intro pre τ M e h
      refine step pre.length d τ M (by rw [e]; simp) h _ fun τ2 M2 h2 => ?_
      refine ih (pre ++ [d]) τ2 M2 (by rw [e]; simp) ?_
      rw [List.length_append]
      exact h2
  exact all ds [] τ M rfl h0
theorem wFor_nil {g : DTG} {tb : DTS} {D0 : DEnds} {τ : DSt} {M : Mu} (h : D0.nx τ M) : wFor g tb D0 [] τ M := h
theorem wFor_cons {g : DTG} {tb : DTS} {D0 : DEnds} {τ : DSt} {M : Mu} {d : D} {ds : List D} (h : g d τ M (fun τ1 M1 => tb { D0 with nx := wFor g tb D0 ds, ct := wFor g tb D0 ds, bk := D0.nx } τ1 M1) (D0.ex τ)) : wFor g tb D0 (d :: ds) τ M := h
theorem wForK_by {g : DTG} {tb : DTS} {D0 : DEnds} {ds : List D} {τ : DSt} {M : Mu} {a : Addr} {kvs : List (DKey × D)} {u : HO} (I : Nat → DSt → Mu → Prop) (h0 : I 0 τ M) (hk : ∀ i τ M, I i τ M → M a = some (.fK kvs u))
    (step : ∀ i d τ M, ds[i]? = some d → I i τ M → ∀ nxt : DSt → Mu → Prop, (∀ τ2 M2, I (i + 1) τ2 M2 → nxt τ2 M2) → g d τ M (fun τ1 M1 => tb { D0 with nx := nxt, ct := nxt, bk := D0.nx } τ1 M1) (D0.ex τ))
    (done : ∀ τ M, I ds.length τ M → D0.nx τ M) : wForK a kvs u g tb D0 ds τ M := by
  have all : ∀ (rest pre : List D) (τ : DSt) (M : Mu), ds = pre ++ rest → I pre.length τ M → wForK a kvs u g tb D0 rest τ M := by
    intro rest
    induction rest with
    | nil =>
      intro pre τ M e h
      rw [List.append_nil] at e
      rw [← e] at h
      exact ⟨hk _ _ _ h, done τ M h⟩
    | cons d rest ih =>
      intro pre τ M e h
      refine ⟨hk _ _ _ h, step pre.length d τ M (by rw [e]; simp) h _ fun τ2 M2 h2 => ?_⟩
      refine ih (pre ++ [d]) τ2 M2 (by rw [e]; simp) ?_
      rw [List.length_append]
      exact h2
  exact all ds [] τ M rfl h0
theorem upTo_at {lo : Int} {n i : Nat} {d : D} (h : (upTo lo n)[i]? = some d) : d = .int (lo + i) ∧ i < n := ⟨upTo_get h, by have := (List.getElem?_eq_some_iff.mp h).1; rwa [upTo_len] at this⟩
end DL

namespace DL
open PySem L2
/-! ### a law's end -/
theorem no_err {P : Program} {w : World} {H : Hp} {s s' : Shared} {e : Value} (h : L2.CX P w [] H s (fun _ _ _ => False) e s') : False := by
  obtain ⟨_, _, _, _, _, _, _, _, _, _, _, _, z⟩ := h
  exact z
theorem law_start {K : PySem.W.Frag} {H : Hp} {a : Addr} {ns : List Int} {sp : DSp} (hO : Only H) (hS : SqL K H a (ns.map V.int)) (h : sp [.scr ns] (fun _ => none) (fun d _ => d = .bl true) (fun _ _ => False)) : lsp K sp [.ref a] H (fun v _ => v = .bl true) (fun _ _ _ => False) := by
  refine ⟨[.scr ns], fun _ => none, fun d _ => d = .bl true, fun _ _ => False, ?_, fun _ _ e => (nomatch e), h, fun d M' v H' q r _ _ => ?_, fun _ _ _ _ _ q => q.elim⟩
  · refine Reps.cons ?_ Reps.nil
    refine ⟨a, rfl, ?_⟩
    rcases hS with (hS | hS) | hS
    · rcases hO a with z | ⟨o, xs, z⟩
      · rw [hS] at z; cases z
      · rw [hS] at z; cases z
    · exact .inl ⟨hS, rfl⟩
    · exact .inr hS
  · subst q
    exact r
theorem law_walk {l : PySem.W.OpenLaw} {sp : DSp} {k : Nat} {q : Program} {loose : List Str} {XP : (Str → Option Value) → Heap → Prop} {YP : World → Heap → Prop} {d : DefRec} {x : Str} (h63 : l.most = some 63) (hdf : d.params.defaults = []) (hr : Room k callerA)
    (hsp : ∀ ns, sp [.scr ns] (fun _ => none) (fun d _ => d = .bl true) (fun _ _ => False))
    (F : ∀ (w : World) (mg : Str → Option Value) (fa : Addr) (h : Heap), YP w h → h.Ns mainGlobals mg → mg d.name = some (.ref fa) → ∃ (K : PySem.W.Frag) (fd : FuncData), K.In h ∧ (∀ (s : Shared) (u : Value), BindsTo s fd ⟨[u], []⟩ [(x, u)]) ∧
      ∀ base : Heap, K.In base → base.Ns mainGlobals mg → FnOk l.prog w K mg base (L2.CX l.prog w) k fa fd [x] (lsp K sp)) : PySem.W.WalkO q loose XP YP l.row.toRowW d [] (fun f vs => PySem.call f vs) :=
  Att.attach_call h63 hdf fun w s0 s1 mg mb fa o pm cd doc a vs ns G Y ho hd hcd hmg hobj his hlen hgen => by
    obtain ⟨K, fd, hK, hb, hF⟩ := F w mg fa _ Y G.T.g hmg
    exact law_call hK G.T.g G.T.b G.T.builtins G.T.nolimit hgen hobj his (Nat.le_trans hlen (by decide)) hr hF hb (fun H hO hS => law_start hO hS (hsp ns)) fun H e s' z => no_err z
theorem FnM.never {P : Program} {w : World} {K : PySem.W.Frag} {mg : Str → Option Value} {base : Heap} {k : Nat} {x : Str} {f : Addr} {fd : FuncData} {ps : List Str} {sp : DSp} (hno : ∀ ds M Q E, ¬ sp ds M Q E) (hm : mg x = some (.ref f)) (hk : PySem.W.keepIn K (.ref f) = true) (hb : Binds K fd ps []) : FnM P w K mg base k x sp :=
  ⟨f, fd, ps, ⟨fun vs H Q E ⟨ds, M, Q0, E0, _, _, h, _⟩ => (hno _ _ _ _ h).elim, fun A outer s H args us vs Q E _ _ _ _ ⟨ds, M, Q0, E0, _, _, h, _⟩ => (hno _ _ _ _ h).elim⟩, hm, hk, hb⟩
end DL

namespace DL
open PySem L2
local macro_rules | `(tactic| walk_at "dl") => `(tactic| try simp (config := { proj := false }) only [↓ex_mk, ↓nx_mk, ↓rt_mk, ↓bk_mk, ↓ct_mk, ↓xc_mk, ↓u_c, ↓u_op, ↓u_un, ↓u_and, ↓u_or, ↓u_not, ↓u_if, ↓u_anil, ↓u_acons, ↓u_lst, ↓u_lstM, ↓u_tup, ↓u_call, ↓u_sl, ↓u_onone, ↓u_cb, ↓u_mt, ↓u_mt0, ↓u_pass, ↓u_seq, ↓u_set, ↓u_asg, ↓u_drop, ↓u_ret, ↓u_retN, ↓u_ifs, ↓u_brk, ↓u_cnt, ↓u_for, ↓u_gname, ↓u_gsub, ↓u_fs, ↓u_fmt, ↓u_js0, ↓u_js, ↓u_em, ↓u_yes, ↓u_never, ↓u_dict, ↓u_dict0, ↓u_dp0, ↓u_dp1, ↓u_forK, ↓u_lock, ↓u_kd,
  ↓r_var, ↓r_test, ↓r_andV, ↓r_orV, ↓r_notV, ↓r_tru, ↓r_frz, ↓r_osome, ↓r_any, ↓r_rng1, ↓r_rng2, ↓r_fz, wipeD,
  onSome_s, onBl_b, onInt_i, onStr_s, onVar_s, onML_l, onML2_l, onML2_d, onDK_d, fmt_s, fmt_i, tru_n, tru_b, tru_i, tru_s, tru_l, tru_t, tru_r, frz_r, sl_s, sl_l, sl_t, sl_r, add_i, add_s, add_l, add_t, add_rl, add_lr, sub_i, mul_i, div_i, mod_i, pow_i, neg_i, cmp_i, eq_i, eq_s, eq_b, eq_n, eq_l, eq_t, eq_rl, eq_lr, eq_ni, eq_in, eq_ns, eq_sn, eq_nb, eq_bn, eq_is, eq_si,
  ix_l, ix_t, ix_s, ix_ri, ix_rs, in_ss, in_l, in_t, in_ir, in_sr, isn_n, isn_b, isn_i, isn_s, isn_r, isn_l, isn_t, len_s, len_l, len_t, len_r, int_i, int_b, min_ii, max_ii, list_l, list_t, list_r, list_c, listM_l, listM_t, listM_r, isi_, isi_k, ty_n, ty_b, ty_i, ty_s, ty_l, ty_t, it_s, it_l, it_r, itM_l, itM_d, app_r, rev_r, ends_s, ins_r, set_rs, onRef_r, onML3_l, onML3_d, onML3_f, onDR_d, onDR_f, onFK_f, join_l, join_t, join_r, starts_s, r_gtup, r_glst, r_gnil, r_gcons, set_r, items_s, items_l, items_t, rng1_i, rng2_i, fz_r,
  List.map_cons, List.map_nil, List.cons_append, List.nil_append, List.length_cons, List.length_nil, List.replicate, List.getElem?_cons_zero, List.getElem?_cons_succ, List.set_cons_zero, List.set_cons_succ, id, decide_eq_true_eq, if_true, if_false, Bool.false_eq_true, reduceIte, Bool.not_true, Bool.not_false, true_and, Nat.reduceAdd, Nat.reduceSub, Int.reduceToNat, Int.toNat_natCast, put_same, put_put, atI_0, atI_1, atI_2, atI_3, atI_4, ixN_40, ixN_41, ixN_42, ixN_43])
abbrev Ret (Q : DK) (E : DX) : DEnds := { nx := fun _ M' => Q .non M', rt := Q, xc := fun x _ M' => E x M' }
/-! ### the reader of draws -/
def Src (M : Mu) (a : Addr) : Prop := ∃ (ns : List Int) (at_ r d : Int), M a = some (.lst [.lst (ns.map D.int), .int at_, .int r, .int d]) ∧ 0 ≤ at_
def SrcTo (a : Addr) (M M' : Mu) : Prop := Src M' a ∧ ∀ b, b ≠ a → M' b = M b
theorem SrcTo.trans {a : Addr} {M M1 M2 : Mu} (h1 : SrcTo a M M1) (h2 : SrcTo a M1 M2) : SrcTo a M M2 := ⟨h2.1, fun b hb => (h2.2 b hb).trans (h1.2 b hb)⟩
theorem SrcTo.refl {a : Addr} {M : Mu} (h : Src M a) : SrcTo a M M := ⟨h, fun _ _ => rfl⟩
theorem src_other {a p : Addr} {M : Mu} {m : MO} (h : Src M a) (hp : M p = none) : Src (put M p m) a ∧ a ≠ p := by
  obtain ⟨ns, t, r, d, e, h0⟩ := h
  have hn : a ≠ p := fun z => by rw [z, hp] at e; cases e
  exact ⟨⟨ns, t, r, d, by rw [put_ne hn]; exact e, h0⟩, hn⟩
def sp_l_begin : DSp := fun ds M Q _ => ∃ (ns : List Int), ds = [.scr ns] ∧ ∀ p M', M p = none → SrcTo p M M' → Q (.ref p) M'
def sp_l_draw : DSp := fun ds M Q _ => ∃ (a : Addr) (n : Int), ds = [.ref a, .int n] ∧ Src M a ∧ 0 < n ∧ n < 1073741824 ∧ ∀ i M', 0 ≤ i → i < n → SrcTo a M M' → Q (.int i) M'
/-- the items of a row of things (a list that may change, too) -/
def rowI (M : Mu) (a : Addr) : D → Option (List D)
  | .ref q => if q = a then none else match M q with
    | some (.lst ds) => some ds
    | _ => none
  | d => itemsD d
theorem rowI_of {M : Mu} {a : Addr} {row : D} {xs : List D} (h : itemsD row = some xs) : rowI M a row = some xs := by
  cases row <;> first | exact h | cases h
theorem rowI_ref {M : Mu} {a q : Addr} {xs : List D} (n : q ≠ a) (h : M q = some (.lst xs)) : rowI M a (.ref q) = some xs := by
  show (if q = a then none else match M q with
    | some (.lst ds) => some ds
    | _ => none) = some xs
  rw [if_neg n, h]
def sp_l_pick : DSp := fun ds M Q _ => ∃ (a : Addr) (row : D) (xs : List D), ds = [.ref a, row] ∧ rowI M a row = some xs ∧ 0 < xs.length ∧ xs.length < 1000000 ∧ Src M a ∧ ∀ d M', d ∈ xs → SrcTo a M M' → Q d M'
theorem draw_ {a : Addr} {n : Int} {M : Mu} {Q : DK} {E : DX} (h : Src M a) (h0 : 0 < n) (h1 : n < 1073741824) (k : ∀ i M', 0 ≤ i → i < n → SrcTo a M M' → Q (.int i) M') : sp_l_draw [.ref a, .int n] M Q E := ⟨a, n, rfl, h, h0, h1, k⟩
theorem pick_ {a : Addr} {row : D} {xs : List D} {M : Mu} {Q : DK} {E : DX} (h : Src M a) (hi : itemsD row = some xs) (h0 : 0 < xs.length) (h1 : xs.length < 1000000) (k : ∀ d M', d ∈ xs → SrcTo a M M' → Q d M') : sp_l_pick [.ref a, row] M Q E := ⟨a, row, xs, rfl, rowI_of hi, h0, h1, h, k⟩
def w_l_begin : DTS := dRet (dLstM (daCons (dCB gList (daCons (dVar 0) (daNil))) (daCons (dC (.int 0)) (daCons (dUn gNeg (dC (.int 1))) (daCons (dC (.int 0)) (daNil))))))
def w_l_draw_c1 : DTS := dSeq (dAsg (dOp gAdd (dOp gIx (dVar 0) (dC (.int 1))) (dC (.int 1))) (dgSub (dVar 0) (dC (.int 1)) gSetA)) (dSeq (dAsg (dUn gNeg (dC (.int 1))) (dgSub (dVar 0) (dC (.int 2)) gSetA)) (dRet (dVar 3)))
def w_l_draw_c2 : DTS := dSeq (dAsg (dOp gAdd (dOp gIx (dVar 0) (dC (.int 3))) (dC (.int 1))) (dgSub (dVar 0) (dC (.int 3)) gSetA)) (dSeq (dIfS (dTest (dOp gGe (dVar 2) (dOp gPow (dC (.int 10)) (dC (.int 18))))) (dSeq (dSet 3 (dOp gMod (dCB gInt1 (daCons (dOp gIx (dVar 0) (dC (.int 2))) (daNil))) (dVar 1))) (dSeq (dAsg (dOp gDiv (dOp gIx (dVar 0) (dC (.int 2))) (dVar 1)) (dgSub (dVar 0) (dC (.int 2)) gSetA)) (dIfS (dAnd (dTest (dOp gGt (dOp gIx (dVar 0) (dC (.int 2))) (dC (.int 0)))) (dTest (dOp gLt (dOp gIx (dVar 0) (dC (.int 3))) (dC (.int 60))))) (dRet (dVar 3)) (dPass)))) (dIfS (dTest (dOp gEq (dOp gIx (dVar 0) (dC (.int 3))) (dC (.int 1)))) (dSeq (dSet 4 (dOp gMod (dCB gInt1 (daCons (dOp gAdd (dOp gAdd (dOp gMul (dVar 2) (dC (.int 48271))) (dOp gMul (dOp gIx (dVar 0) (dC (.int 1))) (dC (.int 7919)))) (dC (.int 12345))) (daNil))) (dC (.int 2147483647)))) (dRet (dOp gMod (dCB gInt1 (daCons (dOp gMod (dCB gInt1 (daCons (dOp gAdd (dOp gMul (dVar 4) (dC (.int 69621))) (dC (.int 101))) (daNil))) (dC (.int 1000003))) (daNil))) (dVar 1)))) (dSeq (dSet 4 (dOp gMod (dCB gInt1 (daCons (dOp gAdd (dOp gAdd (dOp gMul (dVar 2) (dC (.int 16807))) (dOp gMul (dOp gIx (dVar 0) (dC (.int 1))) (dC (.int 104729)))) (dC (.int 54321))) (daNil))) (dC (.int 2147483399)))) (dSet 3 (dOp gMod (dCB gInt1 (daCons (dOp gMod (dCB gInt1 (daCons (dOp gAdd (dOp gMul (dVar 4) (dC (.int 40692))) (dC (.int 211))) (daNil))) (dC (.int 999983))) (daNil))) (dVar 1)))))) (w_l_draw_c1))
def w_l_draw_c3 : DTS := dSeq (dIfS (dTest (dOp gLt (dOp gIx (dVar 0) (dC (.int 2))) (dC (.int 0)))) (dSeq (dAsg (dVar 2) (dgSub (dVar 0) (dC (.int 2)) gSetA)) (dAsg (dC (.int 0)) (dgSub (dVar 0) (dC (.int 3)) gSetA))) (dPass)) (w_l_draw_c2)
def w_l_draw : DTS := dSeq (dIfS (dTest (dOp gGe (dOp gIx (dVar 0) (dC (.int 1))) (dCB gLen (daCons (dOp gIx (dVar 0) (dC (.int 0))) (daNil))))) (dRet (dC (.int 0))) (dPass)) (dSeq (dSet 2 (dOp gIx (dOp gIx (dVar 0) (dC (.int 0))) (dOp gIx (dVar 0) (dC (.int 1))))) (dSeq (dIfS (dTest (dOp gLt (dVar 2) (dC (.int 0)))) (dSet 2 (dOp gSub (dUn gNeg (dC (.int 1))) (dVar 2))) (dPass)) (w_l_draw_c3)))
def w_l_pick : DTS := dRet (dOp gIx (dVar 1) (dCall sp_l_draw (daCons (dVar 0) (daCons (dCB gLen (daCons (dVar 1) (daNil))) (daNil)))))
theorem p_l_begin : ∀ ds M Q E, sp_l_begin ds M Q E → w_l_begin (Ret Q E) (ds.map some ++ List.replicate (1 - 1) none) M := by
  rintro ds M Q E ⟨ns, rfl, hQ⟩
  unfold w_l_begin
  walk_at "dl"
  exact ⟨by decide, fun p hp => hQ p _ hp ⟨⟨ns, 0, -1, 0, put_same, by decide⟩, fun b hb => put_ne hb⟩⟩
theorem src_mk {M M0 : Mu} {a : Addr} {ns : List Int} {t r d : Int} (h : M a = some (.lst [.lst (ns.map D.int), .int t, .int r, .int d])) (h0 : 0 ≤ t) (hb : ∀ b, b ≠ a → M b = M0 b) : SrcTo a M0 M := ⟨⟨ns, t, r, d, h, h0⟩, hb⟩
theorem draw_c1 {a : Addr} {n j : Int} {x4 : Option D} {x2 : Option D} {ns : List Int} {t r d : Int} {M0 M : Mu} {Q : DK} {E : DX} (hM : M a = some (.lst [.lst (ns.map D.int), .int t, .int r, .int d])) (ht : 0 ≤ t) (hb : ∀ b, b ≠ a → M b = M0 b)
    (hj : 0 ≤ j ∧ j < n) (hQ : ∀ i M', 0 ≤ i → i < n → SrcTo a M0 M' → Q (.int i) M') : w_l_draw_c1 (Ret Q E) [some (.ref a), some (.int n), x2, some (.int j), x4] M := by
  unfold w_l_draw_c1
  walk_at "dl"
  try simp only [hM, atI_1]
  walk_at "dl"
  try simp only [hM, atI_1]
  walk_at "dl"
  walk_at "dl"
  try simp only [hM]
  walk_at "dl"
  try simp only [hM]
  walk_at "dl"
  walk_at "dl"
  try simp only [ixN_of (n := 4) (i := 1) (by decide) (by decide), put_same]
  walk_at "dl"
  try simp only [ixN_of (n := 4) (i := 1) (by decide) (by decide), put_same]
  walk_at "dl"
  walk_at "dl"
  try simp only [ixN_of (n := 4) (i := 2) (by decide) (by decide)]
  walk_at "dl"
  try simp only [ixN_of (n := 4) (i := 2) (by decide) (by decide)]
  walk_at "dl"
  walk_at "dl"
  refine hQ j _ hj.1 hj.2 (src_mk put_same (by omega) fun b z => ?_)
  rw [put_ne z, hb b z]
theorem draw_c2 {a : Addr} {n m : Int} {x3 x4 : Option D} {ns : List Int} {t r d : Int} {M0 M : Mu} {Q : DK} {E : DX} (hM : M a = some (.lst [.lst (ns.map D.int), .int t, .int r, .int d])) (ht : 0 ≤ t) (hb : ∀ b, b ≠ a → M b = M0 b)
    (hn : 0 < n ∧ n < 1073741824) (hQ : ∀ i M', 0 ≤ i → i < n → SrcTo a M0 M' → Q (.int i) M') : w_l_draw_c2 (Ret Q E) [some (.ref a), some (.int n), some (.int m), x3, x4] M := by
  have mod : ∀ x : Int, 0 ≤ x % n ∧ x % n < n := fun x => ⟨Int.emod_nonneg _ (by omega), Int.emod_lt_of_pos _ hn.1⟩
  unfold w_l_draw_c2
  walk_at "dl"
  try simp only [hM, atI_3]
  walk_at "dl"
  try simp only [hM, atI_3]
  walk_at "dl"
  walk_at "dl"
  try simp only [hM]
  walk_at "dl"
  try simp only [hM]
  walk_at "dl"
  walk_at "dl"
  try simp only [ixN_of (n := 4) (i := 3) (by decide) (by decide)]
  walk_at "dl"
  try simp only [ixN_of (n := 4) (i := 3) (by decide) (by decide)]
  walk_at "dl"
  walk_at "dl"
  try simp only [put_same, atI_1, atI_2, atI_3]
  walk_at "dl"
  try simp only [put_same, atI_1, atI_2, atI_3]
  walk_at "dl"
  walk_at "dl"
  refine ⟨by unfold CPow; decide, ?_⟩
  by_cases hm : (10 : Int) ^ 18 ≤ m
  · rw [if_pos hm]
    refine ⟨hn.1, ⟨hn.1, hn.2⟩, ?_⟩
    try simp only [ixN_of (n := 4) (i := 2) (by decide) (by decide), put_same, put_put]
    walk_at "dl"
    try simp only [ixN_of (n := 4) (i := 2) (by decide) (by decide), put_same, put_put]
    walk_at "dl"
    walk_at "dl"
    try simp only [put_same, atI_2, atI_3]
    walk_at "dl"
    try simp only [put_same, atI_2, atI_3]
    walk_at "dl"
    walk_at "dl"
    by_cases h1 : 0 < r / n
    · rw [if_pos h1]
      by_cases h2 : d + 1 < 60
      · rw [if_pos h2]
        refine hQ _ _ (mod r).1 (mod r).2 (src_mk put_same ht fun b z => ?_)
        rw [put_ne z, hb b z]
      · rw [if_neg h2]
        refine draw_c1 (M0 := M0) put_same ht (fun b z => by rw [put_ne z, hb b z]) (mod r) hQ
    · rw [if_neg h1]
      exact draw_c1 (M0 := M0) put_same ht (fun b z => by rw [put_ne z, hb b z]) (mod r) hQ
  · rw [if_neg hm]
    have c : ∀ x : Int, 0 < x → x < 2 ^ 64 → ∀ y, CMul y x := fun x h1 h2 y => .inr ⟨by omega, h2⟩
    by_cases h1 : d + 1 = 1
    · rw [if_pos h1]
      refine ⟨c _ (by decide) (by decide) _, c _ (by decide) (by decide) _, by decide, c _ (by decide) (by decide) _, by decide, hn.1, ?_⟩
      refine hQ _ _ (mod _).1 (mod _).2 (src_mk put_same ht fun b z => ?_)
      rw [put_ne z, hb b z]
    · rw [if_neg h1]
      refine ⟨c _ (by decide) (by decide) _, c _ (by decide) (by decide) _, by decide, c _ (by decide) (by decide) _, by decide, hn.1, ?_⟩
      exact draw_c1 (M0 := M0) put_same ht (fun b z => by rw [put_ne z, hb b z]) (mod _) hQ
theorem draw_c3 {a : Addr} {n m : Int} {x3 x4 : Option D} {ns : List Int} {t r d : Int} {M0 M : Mu} {Q : DK} {E : DX} (hM : M a = some (.lst [.lst (ns.map D.int), .int t, .int r, .int d])) (ht : 0 ≤ t) (hb : ∀ b, b ≠ a → M b = M0 b)
    (hn : 0 < n ∧ n < 1073741824) (hQ : ∀ i M', 0 ≤ i → i < n → SrcTo a M0 M' → Q (.int i) M') : w_l_draw_c3 (Ret Q E) [some (.ref a), some (.int n), some (.int m), x3, x4] M := by
  unfold w_l_draw_c3
  walk_at "dl"
  try simp only [hM, atI_2]
  walk_at "dl"
  try simp only [hM, atI_2]
  walk_at "dl"
  walk_at "dl"
  by_cases h1 : r < 0
  · rw [if_pos h1]
    try simp only [hM]
    walk_at "dl"
    try simp only [hM]
    walk_at "dl"
    walk_at "dl"
    try simp only [ixN_of (n := 4) (i := 2) (by decide) (by decide), put_same]
    walk_at "dl"
    try simp only [ixN_of (n := 4) (i := 2) (by decide) (by decide), put_same]
    walk_at "dl"
    walk_at "dl"
    try simp only [ixN_of (n := 4) (i := 3) (by decide) (by decide)]
    walk_at "dl"
    try simp only [ixN_of (n := 4) (i := 3) (by decide) (by decide)]
    walk_at "dl"
    exact draw_c2 (M0 := M0) put_same ht (fun b z => by rw [put_ne z, hb b z]) hn hQ
  · rw [if_neg h1]
    exact draw_c2 (M0 := M0) hM ht hb hn hQ
theorem p_l_draw : ∀ ds M Q E, sp_l_draw ds M Q E → w_l_draw (Ret Q E) (ds.map some ++ List.replicate (5 - 2) none) M := by
  rintro ds M Q E ⟨a, n, rfl, ⟨ns, t, r, d, hM, ht⟩, h0, h1, hQ⟩
  unfold w_l_draw
  walk_at "dl"
  try simp only [hM, atI_1]
  walk_at "dl"
  try simp only [hM, atI_1]
  walk_at "dl"
  walk_at "dl"
  try simp only [hM, atI_0]
  walk_at "dl"
  try simp only [hM, atI_0]
  walk_at "dl"
  walk_at "dl"
  try simp only [List.length_map]
  walk_at "dl"
  try simp only [List.length_map]
  walk_at "dl"
  by_cases hl : (ns.length : Int) ≤ t
  · rw [if_pos hl]
    exact hQ 0 M (by decide) h0 (src_mk hM ht fun _ _ => rfl)
  · rw [if_neg hl]
    try simp only [hM, atI_0]
    walk_at "dl"
    try simp only [hM, atI_0]
    walk_at "dl"
    walk_at "dl"
    try simp only [hM, atI_1]
    walk_at "dl"
    try simp only [hM, atI_1]
    walk_at "dl"
    walk_at "dl"
    obtain ⟨x, _, e, _⟩ := atI_is (xs := ns) ht (by omega)
    try simp only [atI_map, e, Option.map_some]
    walk_at "dl"
    try simp only [atI_map, e, Option.map_some]
    walk_at "dl"
    walk_at "dl"
    by_cases hx : x < 0
    · rw [if_pos hx]
      exact draw_c3 hM ht (fun _ _ => rfl) ⟨h0, h1⟩ hQ
    · rw [if_neg hx]
      exact draw_c3 hM ht (fun _ _ => rfl) ⟨h0, h1⟩ hQ
theorem p_l_pick : ∀ ds M Q E, sp_l_pick ds M Q E → w_l_pick (Ret Q E) (ds.map some ++ List.replicate (2 - 2) none) M := by
  rintro ds M Q E ⟨a, row, xs, rfl, hi, h0, h1, hs, hQ⟩
  unfold w_l_pick
  walk_at "dl"
  cases row with
  | lst ds =>
    have hi : some ds = some xs := hi
    cases hi
    walk_at "dl"
    refine draw_ hs (by omega) (by omega) fun i M' i0 i1 hM' => ?_
    obtain ⟨x, hx, e, _⟩ := atI_is (xs := xs) i0 i1
    walk_at "dl"
    try simp only [e]
    walk_at "dl"
    try simp only [e]
    walk_at "dl"
    exact hQ x M' hx hM'
  | tup ds =>
    have hi : some ds = some xs := hi
    cases hi
    walk_at "dl"
    refine draw_ hs (by omega) (by omega) fun i M' i0 i1 hM' => ?_
    obtain ⟨x, hx, e, _⟩ := atI_is (xs := xs) i0 i1
    walk_at "dl"
    try simp only [e]
    walk_at "dl"
    try simp only [e]
    walk_at "dl"
    exact hQ x M' hx hM'
  | str z =>
    have hi : some (z.map fun c => D.str [c]) = some xs := hi
    cases hi
    rw [List.length_map] at h0 h1
    walk_at "dl"
    refine ⟨by omega, ?_⟩
    refine draw_ hs (by omega) (by omega) fun i M' i0 i1 hM' => ?_
    obtain ⟨x, hx, e, _⟩ := atI_is (xs := z) i0 i1
    walk_at "dl"
    try simp only [e]
    walk_at "dl"
    try simp only [e]
    walk_at "dl"
    exact ⟨by omega, hQ (.str [x]) M' (List.mem_map.mpr ⟨x, hx, rfl⟩) hM'⟩
  | ref q =>
    have hi : (if q = a then none else match M q with
      | some (.lst ds) => some ds
      | _ => none) = some xs := hi
    split at hi
    · cases hi
    · rename_i n
      split at hi
      · rename_i ds e
        cases hi
        try simp only [e]
        walk_at "dl"
        try simp only [e]
        walk_at "dl"
        refine draw_ hs (by omega) (by omega) fun i M' i0 i1 hM' => ?_
        obtain ⟨x, hx, e2, _⟩ := atI_is (xs := xs) i0 i1
        have e3 : M' q = some (.lst xs) := by rw [hM'.2 q n]; exact e
        walk_at "dl"
        try simp only [e3, e2]
        walk_at "dl"
        try simp only [e3, e2]
        walk_at "dl"
        exact hQ x M' hx hM'
      · cases hi
  | _ => cases hi
end DL

namespace DL
open PySem L2
local macro_rules | `(tactic| walk_at "dl") => `(tactic| try simp (config := { proj := false }) only [↓ex_mk, ↓nx_mk, ↓rt_mk, ↓bk_mk, ↓ct_mk, ↓xc_mk, ↓u_c, ↓u_op, ↓u_un, ↓u_and, ↓u_or, ↓u_not, ↓u_if, ↓u_anil, ↓u_acons, ↓u_lst, ↓u_lstM, ↓u_tup, ↓u_call, ↓u_sl, ↓u_onone, ↓u_cb, ↓u_mt, ↓u_mt0, ↓u_pass, ↓u_seq, ↓u_set, ↓u_asg, ↓u_drop, ↓u_ret, ↓u_retN, ↓u_ifs, ↓u_brk, ↓u_cnt, ↓u_for, ↓u_gname, ↓u_gsub, ↓u_fs, ↓u_fmt, ↓u_js0, ↓u_js, ↓u_em, ↓u_yes, ↓u_never, ↓u_dict, ↓u_dict0, ↓u_dp0, ↓u_dp1, ↓u_forK, ↓u_lock, ↓u_kd,
  ↓r_var, ↓r_test, ↓r_andV, ↓r_orV, ↓r_notV, ↓r_tru, ↓r_frz, ↓r_osome, ↓r_any, ↓r_rng1, ↓r_rng2, ↓r_fz, wipeD,
  onSome_s, onBl_b, onInt_i, onStr_s, onVar_s, onML_l, onML2_l, onML2_d, onDK_d, fmt_s, fmt_i, tru_n, tru_b, tru_i, tru_s, tru_l, tru_t, tru_r, frz_r, sl_s, sl_l, sl_t, sl_r, add_i, add_s, add_l, add_t, add_rl, add_lr, sub_i, mul_i, div_i, mod_i, pow_i, neg_i, cmp_i, eq_i, eq_s, eq_b, eq_n, eq_l, eq_t, eq_rl, eq_lr, eq_ni, eq_in, eq_ns, eq_sn, eq_nb, eq_bn, eq_is, eq_si,
  ix_l, ix_t, ix_s, ix_ri, ix_rs, in_ss, in_l, in_t, in_ir, in_sr, isn_n, isn_b, isn_i, isn_s, isn_r, isn_l, isn_t, len_s, len_l, len_t, len_r, int_i, int_b, min_ii, max_ii, list_l, list_t, list_r, list_c, listM_l, listM_t, listM_r, isi_, isi_k, ty_n, ty_b, ty_i, ty_s, ty_l, ty_t, it_s, it_l, it_r, itM_l, itM_d, app_r, rev_r, ends_s, ins_r, set_rs, onRef_r, onML3_l, onML3_d, onML3_f, onDR_d, onDR_f, onFK_f, join_l, join_t, join_r, starts_s, r_gtup, r_glst, r_gnil, r_gcons, set_r, items_s, items_l, items_t, rng1_i, rng2_i, fz_r,
  List.map_cons, List.map_nil, List.cons_append, List.nil_append, List.length_cons, List.length_nil, List.replicate, List.getElem?_cons_zero, List.getElem?_cons_succ, List.set_cons_zero, List.set_cons_succ, id, decide_eq_true_eq, if_true, if_false, Bool.false_eq_true, reduceIte, Bool.not_true, Bool.not_false, true_and, Nat.reduceAdd, Nat.reduceSub, Int.reduceToNat, Int.toNat_natCast, put_same, put_put, atI_0, atI_1, atI_2, atI_3, atI_4, ixN_40, ixN_41, ixN_42, ixN_43])
/-! ### equal, and of the same kinds -/
mutual
def eqD : D → D → Bool
  | .non, .non => true
  | .bl a, .bl b => a == b
  | .int a, .int b => a == b
  | .str a, .str b => a == b
  | .lst a, .lst b => eqDs a b
  | .tup a, .tup b => eqDs a b
  | .ref a, .ref b => a == b
  | .ty a, .ty b => a == b
  | .scr a, .scr b => a == b
  | _, _ => false
def eqDs : List D → List D → Bool
  | [], [] => true
  | a :: as, b :: bs => eqD a b && eqDs as bs
  | _, _ => false
end
mutual
theorem eqD_refl : ∀ d : D, eqD d d = true
  | .non => rfl
  | .bl a => by simp [eqD]
  | .int a => by simp [eqD]
  | .str a => by simp [eqD]
  | .ref a => by simp [eqD]
  | .ty a => by simp [eqD]
  | .scr a => by simp [eqD]
  | .lst a => by unfold eqD; exact eqDs_refl a
  | .tup a => by unfold eqD; exact eqDs_refl a
theorem eqDs_refl : ∀ d : List D, eqDs d d = true
  | [] => rfl
  | a :: as => by unfold eqDs; rw [eqD_refl a, eqDs_refl as]; rfl
end
mutual
theorem eqD_eq : ∀ {a b : D}, eqD a b = true → a = b
  | .non, b, h => by cases b <;> first | rfl | cases h
  | .bl a, b, h => by cases b <;> first | (rw [show a = _ from eq_of_beq h]) | cases h
  | .int a, b, h => by cases b <;> first | (rw [show a = _ from eq_of_beq h]) | cases h
  | .str a, b, h => by cases b <;> first | (rw [show a = _ from eq_of_beq h]) | cases h
  | .ref a, b, h => by cases b <;> first | (rw [show a = _ from eq_of_beq h]) | cases h
  | .ty a, b, h => by cases b <;> first | (rw [show a = _ from eq_of_beq h]) | cases h
  | .scr a, b, h => by cases b <;> first | (rw [show a = _ from eq_of_beq h]) | cases h
  | .lst a, b, h => by cases b <;> first | (rw [show a = _ from eqDs_eq h]) | cases h
  | .tup a, b, h => by cases b <;> first | (rw [show a = _ from eqDs_eq h]) | cases h
theorem eqDs_eq : ∀ {a b : List D}, eqDs a b = true → a = b
  | [], b, h => by cases b <;> first | rfl | cases h
  | a :: as, b, h => by
    cases b with
    | nil => cases h
    | cons b bs =>
      obtain ⟨h1, h2⟩ := ba (show (eqD a b && eqDs as bs) = true from h)
      rw [eqD_eq h1, eqDs_eq h2]
end
mutual
/-- plain data of that depth, lists of bounded length -/
def pln : Nat → D → Bool
  | _, .ref _ => false
  | _, .ty _ => false
  | _, .scr _ => false
  | n, .lst ds => decide (ds.length ≤ 1000000) && plnIn n ds
  | n, .tup ds => decide (ds.length ≤ 1000000) && plnIn n ds
  | _, _ => true
def plnIn : Nat → List D → Bool
  | 0, _ => false
  | n + 1, ds => plns n ds
def plns : Nat → List D → Bool
  | _, [] => true
  | n, d :: ds => pln n d && plns n ds
end
theorem plns_all : ∀ {n : Nat} {ds : List D}, plns n ds = true → ∀ d ∈ ds, pln n d = true
  | n, [], _, d, hd => by cases hd
  | n, e :: ds, h, d, hd => by
    obtain ⟨h1, h2⟩ := ba (show (pln n e && plns n ds) = true from by unfold plns at h; exact h)
    rcases List.mem_cons.mp hd with rfl | hd
    · exact h1
    · exact plns_all h2 d hd
theorem plns_of : ∀ {n : Nat} {ds : List D}, (∀ d ∈ ds, pln n d = true) → plns n ds = true
  | n, [], _ => by unfold plns; rfl
  | n, e :: ds, h => by
    unfold plns
    rw [h e (List.mem_cons_self ..), plns_of fun d hd => h d (List.mem_cons_of_mem _ hd)]
    rfl
def isPl : D → Bool
  | .ref _ => false
  | .ty _ => false
  | .scr _ => false
  | _ => true
theorem pln_is {n : Nat} {d : D} (h : pln n d = true) : isPl d = true := by
  cases d <;> first | rfl | (unfold pln at h; cases h)
/-- the data, lists that may change read as they are -/
def vw (M : Mu) : Nat → D → D
  | n + 1, .ref a => (match M a with
    | some (.lst ds) => .lst (ds.map (vw M n))
    | _ => .ref a)
  | n + 1, .lst ds => .lst (ds.map (vw M n))
  | n + 1, .tup ds => .tup (ds.map (vw M n))
  | _, d => d
theorem vw_pln (M : Mu) : ∀ {n : Nat} {d : D}, pln n d = true → vw M n d = d
  | 0, d, h => by cases d <;> rfl
  | n + 1, d, h => by
    have go : ∀ ds : List D, plnIn (n + 1) ds = true → ds.map (vw M n) = ds := fun ds hp => by
      have q := plns_all (show plns n ds = true by unfold plnIn at hp; exact hp)
      calc ds.map (vw M n) = ds.map id := List.map_congr_left fun d hd => vw_pln M (q d hd)
        _ = ds := List.map_id _
    cases d with
    | ref a => unfold pln at h; cases h
    | lst ds => show D.lst (ds.map (vw M n)) = _; rw [go ds (ba (show (decide (ds.length ≤ 1000000) && plnIn (n + 1) ds) = true by unfold pln at h; exact h)).2]
    | tup ds => show D.tup (ds.map (vw M n)) = _; rw [go ds (ba (show (decide (ds.length ≤ 1000000) && plnIn (n + 1) ds) = true by unfold pln at h; exact h)).2]
    | _ => rfl
def sp_l_same (n : Nat) : DSp := fun ds M Q _ => ∃ x y, ds = [x, y] ∧ pln n (vw M n x) = true ∧ pln n (vw M n y) = true ∧ Q (.bl (eqD (vw M n x) (vw M n y))) M
def rowOf (M : Mu) : D → Option (List D)
  | .lst ds => some ds
  | .tup ds => some ds
  | .ref a => (match M a with
    | some (.lst ds) => some ds
    | _ => none)
  | _ => none
def sp_l_same_row (n : Nat) : DSp := fun ds M Q _ => ∃ x y xs ys, ds = [x, y] ∧ rowOf M x = some xs ∧ rowOf M y = some ys ∧ pln n (vw M n x) = true ∧ pln n (vw M n y) = true ∧ Q (.bl (eqDs (xs.map (vw M (n - 1))) (ys.map (vw M (n - 1))))) M
def w_l_same_row_b1 (n : Nat) : DTS := dIfS (dNot (dTru (dCall (sp_l_same n) (daCons (dOp gIx (dVar 0) (dVar 2)) (daCons (dOp gIx (dVar 1) (dVar 2)) (daNil)))))) (dRet (dC (.bl false))) (dPass)
def w_l_same_row (n : Nat) : DTS := dSeq (dIfS (dTest (dOp gNe (dCB gLen (daCons (dVar 0) (daNil))) (dCB gLen (daCons (dVar 1) (daNil))))) (dRet (dC (.bl false))) (dPass)) (dSeq (dFor (diRng1 (daCons (dCB gLen (daCons (dVar 1) (daNil))) (daNil))) (dgName 2) (w_l_same_row_b1 n)) (dRet (dC (.bl true))))
def w_l_same (n : Nat) : DTS := dSeq (dIfS (dTest (dOp gIsN (dVar 1) (dC .non))) (dRet (dOp gIsN (dVar 0) (dC .non))) (dPass)) (dSeq (dIfS (dTru (dCB gIsi (daCons (dVar 1) (daCons (dC (.ty "bool")) (daNil))))) (dRet (dAndV (dCB gIsi (daCons (dVar 0) (daCons (dC (.ty "bool")) (daNil)))) (dOp gEq (dVar 0) (dVar 1)))) (dPass)) (dSeq (dIfS (dTru (dCB gIsi (daCons (dVar 1) (daCons (dC (.ty "int")) (daNil))))) (dRet (dAndV (dCB gIsi (daCons (dVar 0) (daCons (dC (.ty "int")) (daNil)))) (dAndV (dNotV (dCB gIsi (daCons (dVar 0) (daCons (dC (.ty "bool")) (daNil))))) (dOp gEq (dVar 0) (dVar 1))))) (dPass)) (dSeq (dIfS (dTru (dCB gIsi (daCons (dVar 1) (daCons (dC (.ty "str")) (daNil))))) (dRet (dAndV (dCB gIsi (daCons (dVar 0) (daCons (dC (.ty "str")) (daNil)))) (dOp gEq (dVar 0) (dVar 1)))) (dPass)) (dSeq (dIfS (dTru (dCB gIsi (daCons (dVar 1) (daCons (dC (.ty "list")) (daNil))))) (dRet (dAndV (dCB gIsi (daCons (dVar 0) (daCons (dC (.ty "list")) (daNil)))) (dCall (sp_l_same_row n) (daCons (dVar 0) (daCons (dVar 1) (daNil)))))) (dPass)) (dRet (dAndV (dCB gIsi (daCons (dVar 0) (daCons (dC (.ty "tuple")) (daNil)))) (dCall (sp_l_same_row n) (daCons (dVar 0) (daCons (dVar 1) (daNil))))))))))
theorem eqDs_len : ∀ {xs ys : List D}, xs.length ≠ ys.length → eqDs xs ys = false
  | [], [], h => absurd rfl h
  | [], _ :: _, _ => rfl
  | _ :: _, [], _ => rfl
  | x :: xs, y :: ys, h => by
    unfold eqDs
    rw [eqDs_len (fun e => h (by rw [List.length_cons, List.length_cons, e])), Bool.and_false]
theorem eqDs_take : ∀ {xs ys : List D} {k : Nat} {a b : D}, xs[k]? = some a → ys[k]? = some b → eqDs (xs.take (k + 1)) (ys.take (k + 1)) = (eqDs (xs.take k) (ys.take k) && eqD a b)
  | [], _, k, _, _, h, _ => by cases h
  | _ :: _, [], k, _, _, _, h => by cases h
  | x :: xs, y :: ys, 0, a, b, h1, h2 => by
    cases h1; cases h2
    simp [eqDs]
  | x :: xs, y :: ys, k + 1, a, b, h1, h2 => by
    rw [List.take_succ_cons, List.take_succ_cons, List.take_succ_cons, List.take_succ_cons]
    unfold eqDs
    rw [eqDs_take (k := k) (by simpa using h1) (by simpa using h2), Bool.and_assoc]
theorem eqDs_ne : ∀ {xs ys : List D} {k : Nat} {a b : D}, xs[k]? = some a → ys[k]? = some b → eqD a b = false → eqDs xs ys = false
  | [], _, k, _, _, h, _, _ => by cases h
  | _ :: _, [], k, _, _, _, h, _ => by cases h
  | x :: xs, y :: ys, 0, a, b, h1, h2, h => by
    cases h1; cases h2
    unfold eqDs
    rw [h, Bool.false_and]
  | x :: xs, y :: ys, k + 1, a, b, h1, h2, h => by
    unfold eqDs
    rw [eqDs_ne (k := k) (by simpa using h1) (by simpa using h2) h, Bool.and_false]
theorem row_len {M : Mu} {x : D} {xs : List D} {Q : DK} (h : rowOf M x = some xs) (q : Q (.int xs.length) M) : gLen [x] M Q := by
  cases x with
  | lst ds => cases h; exact q
  | tup ds => cases h; exact q
  | ref a =>
    show (match M a with
      | some (.lst ds) => Q (.int ds.length) M
      | some (.dK kvs) => Q (.int kvs.length) M
      | _ => False)
    have h2 : (match M a with
      | some (.lst ds) => some ds
      | _ => none) = some xs := h
    split at h2
    · rename_i ds e; cases h2; rw [e]; exact q
    · cases h2
  | _ => cases h
theorem row_ix {M : Mu} {x : D} {xs : List D} {Q : DK} {k : Nat} {a : D} (h : rowOf M x = some xs) (e : xs[k]? = some a) (q : Q a M) : gIx x (.int (k : Int)) M Q := by
  have hk := (List.getElem?_eq_some_iff.mp e).1
  have e2 : atI xs (k : Int) = some a := by rw [atI_nat hk, ← List.getElem?_eq_getElem hk, e]
  cases x with
  | lst ds => cases h; show (match atI xs (k : Int) with | some d => Q d M | none => False); rw [e2]; exact q
  | tup ds => cases h; show (match atI xs (k : Int) with | some d => Q d M | none => False); rw [e2]; exact q
  | ref b =>
    show (match M b with
      | some (.lst ds) => (match atI ds (k : Int) with | some d => Q d M | none => False)
      | some (.dK kvs) => (match lookK kvs (.inl (k : Int)) with | some d => Q d M | none => False)
      | some (.fK kvs _) => (match lookK kvs (.inl (k : Int)) with | some d => Q d M | none => False)
      | _ => False)
    have h2 : (match M b with
      | some (.lst ds) => some ds
      | _ => none) = some xs := h
    split at h2
    · rename_i ds e3; cases h2; rw [e3]; show (match atI xs (k : Int) with | some d => Q d M | none => False); rw [e2]; exact q
    · cases h2
  | _ => cases h
theorem row_vw {M : Mu} {n : Nat} {x : D} {xs : List D} (h : rowOf M x = some xs) : vw M (n + 1) x = .lst (xs.map (vw M n)) ∨ vw M (n + 1) x = .tup (xs.map (vw M n)) := by
  cases x with
  | lst ds => cases h; exact .inl rfl
  | tup ds => cases h; exact .inr rfl
  | ref b =>
    have h2 : (match M b with
      | some (.lst ds) => some ds
      | _ => none) = some xs := h
    split at h2
    · rename_i ds e3
      cases h2
      refine .inl ?_
      show (match M b with
        | some (.lst ds) => D.lst (ds.map (vw M n))
        | _ => .ref b) = _
      rw [e3]
    · cases h2
  | _ => cases h
theorem row_pln {M : Mu} {n : Nat} {x : D} {xs : List D} (h : rowOf M x = some xs) (p : pln (n + 1) (vw M (n + 1) x) = true) : xs.length ≤ 1000000 ∧ ∀ d ∈ xs, pln n (vw M n d) = true := by
  have k : ∀ ds : List D, (decide (ds.length ≤ 1000000) && plnIn (n + 1) ds) = true → ds = xs.map (vw M n) → xs.length ≤ 1000000 ∧ ∀ d ∈ xs, pln n (vw M n d) = true := fun ds hp e => by
    obtain ⟨p1, p2⟩ := ba hp
    have p1 := of_decide_eq_true p1
    rw [e, List.length_map] at p1
    refine ⟨p1, fun d hd => plns_all (show plns n ds = true by unfold plnIn at p2; exact p2) _ ?_⟩
    rw [e]; exact List.mem_map_of_mem hd
  rcases row_vw (n := n) h with e | e
  · rw [e] at p; unfold pln at p; exact k _ p rfl
  · rw [e] at p; unfold pln at p; exact k _ p rfl
theorem p_l_same_row (n : Nat) : ∀ ds M Q E, sp_l_same_row (n + 1) ds M Q E → w_l_same_row n (Ret Q E) (ds.map some ++ List.replicate (3 - 2) none) M := by
  rintro ds M Q E ⟨x, y, xs, ys, rfl, rx, ry, px, py, hQ⟩
  obtain ⟨lx, qx⟩ := row_pln rx px
  obtain ⟨ly, qy⟩ := row_pln ry py
  unfold w_l_same_row
  simp only [dSeq, dIfS, dTest, dOp, dCB, daCons, daNil, dVar, dRet, dC, dPass, dFor, diRng1, List.map_cons, List.map_nil, List.cons_append, List.nil_append, List.replicate, List.getElem?_cons_zero, List.getElem?_cons_succ, Nat.reduceSub]
  refine row_len rx (row_len ry ?_)
  simp only [gEqN]
  by_cases hl : xs.length = ys.length
  · have e : (!decide ((xs.length : Int) = (ys.length : Int))) = false := by simp [hl]
    rw [e]
    simp only [Bool.false_eq_true, if_false]
    refine row_len ry ?_
    refine ⟨by omega, by omega, ?_⟩
    rw [Int.toNat_natCast]
    refine wFor_by (fun i τ M' => M' = M ∧ (∃ z, τ = [some x, some y, z]) ∧ eqDs ((xs.take i).map (vw M n)) ((ys.take i).map (vw M n)) = true) ⟨rfl, ⟨none, rfl⟩, rfl⟩ ?_ ?_
    · rintro i d τ M' hd ⟨rfl, ⟨z, rfl⟩, he⟩ nxt hn
      obtain ⟨rfl, hi⟩ := upTo_at hd
      rw [Int.zero_add]
      have ex := List.getElem?_eq_getElem (l := xs) (i := i) (by omega)
      have ey := List.getElem?_eq_getElem (l := ys) (i := i) hi
      unfold w_l_same_row_b1
      simp only [dgName, dIfS, dNot, dTru, dCall, dOp, daCons, daNil, dVar, dRet, dC, dPass, List.set_cons_zero, List.set_cons_succ, List.getElem?_cons_zero, List.getElem?_cons_succ]
      refine row_ix rx ex (row_ix ry ey ⟨_, _, rfl, qx _ (List.getElem_mem _), qy _ (List.getElem_mem _), ?_⟩)
      simp only [truD]
      have ex2 : (xs.map (vw M' n))[i]? = some (vw M' n xs[i]) := by rw [List.getElem?_map, ex]; rfl
      have ey2 : (ys.map (vw M' n))[i]? = some (vw M' n ys[i]) := by rw [List.getElem?_map, ey]; rfl
      cases e : eqD (vw M' n xs[i]) (vw M' n ys[i]) with
      | true => exact hn _ _ ⟨rfl, ⟨_, rfl⟩, by rw [List.map_take, List.map_take] at he ⊢; rw [eqDs_take ex2 ey2, he, e]; rfl⟩
      | false =>
        show Q (.bl false) _
        rw [Nat.add_sub_cancel, eqDs_ne ex2 ey2 e] at hQ
        exact hQ
    · rintro τ M' ⟨rfl, ⟨z, rfl⟩, he⟩
      rw [upTo_len, List.take_of_length_le (by omega), List.take_of_length_le (by omega)] at he
      rw [Nat.add_sub_cancel, he] at hQ
      exact hQ
  · have e : (!decide ((xs.length : Int) = (ys.length : Int))) = true := by
      rw [Bool.not_eq_true', decide_eq_false_iff_not]; omega
    rw [e]
    simp only [if_true]
    rw [eqDs_len (by rw [List.length_map, List.length_map]; exact hl)] at hQ
    exact hQ
inductive Vk (M : Mu) : Nat → D → D → Prop where
  | non {n : Nat} : Vk M n .non .non
  | bl {n : Nat} (b : Bool) : Vk M n (.bl b) (.bl b)
  | int {n : Nat} (b : Int) : Vk M n (.int b) (.int b)
  | str {n : Nat} (b : Tx) : Vk M n (.str b) (.str b)
  | lst {m : Nat} (ds : List D) : Vk M (m + 1) (.lst ds) (.lst (ds.map (vw M m)))
  | tup {m : Nat} (ds : List D) : Vk M (m + 1) (.tup ds) (.tup (ds.map (vw M m)))
  | ref {m : Nat} (a : Addr) (ds : List D) (h : M a = some (.lst ds)) : Vk M (m + 1) (.ref a) (.lst (ds.map (vw M m)))
theorem vk_of {M : Mu} {n : Nat} {x : D} (p : pln n (vw M n x) = true) : Vk M n x (vw M n x) := by
  cases n with
  | zero =>
    cases x with
    | non => exact .non
    | bl b => exact .bl b
    | int b => exact .int b
    | str b => exact .str b
    | lst ds => have q := (ba (show (decide (ds.length ≤ 1000000) && plnIn 0 ds) = true from by have := p; unfold vw pln at this; exact this)).2; unfold plnIn at q; cases q
    | tup ds => have q := (ba (show (decide (ds.length ≤ 1000000) && plnIn 0 ds) = true from by have := p; unfold vw pln at this; exact this)).2; unfold plnIn at q; cases q
    | _ => unfold vw pln at p; cases p
  | succ m =>
    cases x with
    | non => exact .non
    | bl b => exact .bl b
    | int b => exact .int b
    | str b => exact .str b
    | lst ds => exact .lst ds
    | tup ds => exact .tup ds
    | ref a =>
      have e : vw M (m + 1) (.ref a) = (match M a with
        | some (.lst ds) => .lst (ds.map (vw M m))
        | _ => .ref a) := rfl
      rw [e] at p ⊢
      split at p
      · rename_i ds h; exact .ref a ds h
      · unfold pln at p; cases p
    | _ => unfold vw pln at p; cases p
theorem ty_rl {M : Mu} {a : Addr} {ds : List D} (h : M a = some (.lst ds)) : tyD M (.ref a) = some "list" := by
  show (match M a with
    | some (.lst _) => some "list"
    | some (.dK _) => some "dict"
    | _ => none) = _
  rw [h]
theorem row_rl {M : Mu} {a : Addr} {ds : List D} (h : M a = some (.lst ds)) : rowOf M (.ref a) = some ds := by
  show (match M a with
    | some (.lst ds) => some ds
    | _ => none) = _
  rw [h]
theorem p_l_same (n : Nat) : ∀ ds M Q E, sp_l_same n ds M Q E → w_l_same n (Ret Q E) (ds.map some ++ List.replicate (2 - 2) none) M := by
  rintro ds M Q E ⟨x, y, rfl, px, py, hQ⟩
  have kx := vk_of px
  have ky := vk_of py
  have px0 := px
  have py0 := py
  unfold w_l_same
  generalize vw M n x = x' at kx px hQ
  generalize vw M n y = y' at ky py hQ
  cases ky with
  | non =>
    walk_at "dl"
    cases kx <;> exact hQ
  | bl b =>
    walk_at "dl"
    try simp only [show isaB "bool" "bool" = true by decide]
    walk_at "dl"
    try simp only [show isaB "bool" "bool" = true by decide]
    walk_at "dl"
    refine ⟨by decide, ?_⟩
    cases kx <;> first
      | ((walk_at "dl"); refine ⟨by decide, ?_⟩; (try simp only [show isaB "bool" "bool" = true by decide]); (walk_at "dl"); rename_i a; rw [show decide (a = b) = (a == b) by cases a <;> cases b <;> rfl]; exact hQ)
      | ((walk_at "dl"); refine ⟨by decide, ?_⟩; exact hQ)
      | (rename_i hm; (try simp only [ty_rl hm]); (walk_at "dl"); refine ⟨by decide, ?_⟩; exact hQ)
  | int b =>
    walk_at "dl"
    refine ⟨by decide, ?_⟩
    try simp only [show isaB "int" "bool" = false by decide, show isaB "int" "int" = true by decide]
    walk_at "dl"
    try simp only [show isaB "int" "bool" = false by decide, show isaB "int" "int" = true by decide]
    walk_at "dl"
    refine ⟨by decide, ?_⟩
    cases kx <;> first
      | ((walk_at "dl"); refine ⟨by decide, ?_⟩; exact hQ)
      | ((walk_at "dl"); refine ⟨by decide, ?_⟩; (try simp only [show isaB "int" "int" = true by decide, show isaB "bool" "int" = true by decide]); (walk_at "dl"); refine ⟨by decide, ?_⟩; (try simp only [show isaB "int" "bool" = false by decide, show isaB "bool" "bool" = true by decide, Bool.not_false, Bool.not_true]); (walk_at "dl"); exact hQ)
      | (rename_i hm; (try simp only [ty_rl hm]); (walk_at "dl"); refine ⟨by decide, ?_⟩; exact hQ)
  | str b =>
    walk_at "dl"
    refine ⟨by decide, ?_⟩
    try simp only [show isaB "str" "bool" = false by decide, show isaB "str" "int" = false by decide, show isaB "str" "str" = true by decide]
    walk_at "dl"
    try simp only [show isaB "str" "bool" = false by decide, show isaB "str" "int" = false by decide, show isaB "str" "str" = true by decide]
    walk_at "dl"
    refine ⟨by decide, by decide, ?_⟩
    cases kx <;> first
      | ((walk_at "dl"); refine ⟨by decide, ?_⟩; exact hQ)
      | ((walk_at "dl"); refine ⟨by decide, ?_⟩; (try simp only [show isaB "str" "str" = true by decide]); (walk_at "dl"); rename_i a; rw [show decide (a = b) = (a == b) by rw [Bool.eq_iff_iff, decide_eq_true_iff, beq_iff_eq]]; exact hQ)
      | (rename_i hm; (try simp only [ty_rl hm]); (walk_at "dl"); refine ⟨by decide, ?_⟩; exact hQ)
  | lst bs =>
    walk_at "dl"
    refine ⟨by decide, ?_⟩
    try simp only [show isaB "list" "bool" = false by decide, show isaB "list" "int" = false by decide, show isaB "list" "str" = false by decide, show isaB "list" "list" = true by decide]
    walk_at "dl"
    try simp only [show isaB "list" "bool" = false by decide, show isaB "list" "int" = false by decide, show isaB "list" "str" = false by decide, show isaB "list" "list" = true by decide]
    walk_at "dl"
    refine ⟨by decide, by decide, by decide, ?_⟩
    cases kx <;> first
      | ((walk_at "dl"); refine ⟨by decide, ?_⟩; exact hQ)
      | ((walk_at "dl"); refine ⟨by decide, ?_⟩; (try simp only [show isaB "list" "list" = true by decide]); (walk_at "dl"); exact ⟨_, _, _, _, rfl, rfl, rfl, px0, py0, hQ⟩)
      | (rename_i hm; (try simp only [ty_rl hm]); (walk_at "dl"); refine ⟨by decide, ?_⟩; (try simp only [show isaB "list" "list" = true by decide]); (walk_at "dl"); exact ⟨_, _, _, _, rfl, row_rl hm, rfl, px0, py0, hQ⟩)
  | ref b bs hb =>
    walk_at "dl"
    try simp only [ty_rl hb, show isaB "list" "bool" = false by decide, show isaB "list" "int" = false by decide, show isaB "list" "str" = false by decide, show isaB "list" "list" = true by decide]
    walk_at "dl"
    try simp only [ty_rl hb, show isaB "list" "bool" = false by decide, show isaB "list" "int" = false by decide, show isaB "list" "str" = false by decide, show isaB "list" "list" = true by decide]
    walk_at "dl"
    refine ⟨by decide, ?_⟩
    try simp only [ty_rl hb, show isaB "list" "bool" = false by decide, show isaB "list" "int" = false by decide, show isaB "list" "str" = false by decide, show isaB "list" "list" = true by decide]
    walk_at "dl"
    try simp only [ty_rl hb, show isaB "list" "bool" = false by decide, show isaB "list" "int" = false by decide, show isaB "list" "str" = false by decide, show isaB "list" "list" = true by decide]
    walk_at "dl"
    refine ⟨by decide, ?_⟩
    try simp only [ty_rl hb, show isaB "list" "bool" = false by decide, show isaB "list" "int" = false by decide, show isaB "list" "str" = false by decide, show isaB "list" "list" = true by decide]
    walk_at "dl"
    try simp only [ty_rl hb, show isaB "list" "bool" = false by decide, show isaB "list" "int" = false by decide, show isaB "list" "str" = false by decide, show isaB "list" "list" = true by decide]
    walk_at "dl"
    refine ⟨by decide, ?_⟩
    try simp only [ty_rl hb, show isaB "list" "bool" = false by decide, show isaB "list" "int" = false by decide, show isaB "list" "str" = false by decide, show isaB "list" "list" = true by decide]
    walk_at "dl"
    try simp only [ty_rl hb, show isaB "list" "bool" = false by decide, show isaB "list" "int" = false by decide, show isaB "list" "str" = false by decide, show isaB "list" "list" = true by decide]
    walk_at "dl"
    refine ⟨by decide, ?_⟩
    cases kx <;> first
      | ((walk_at "dl"); refine ⟨by decide, ?_⟩; exact hQ)
      | ((walk_at "dl"); refine ⟨by decide, ?_⟩; (try simp only [show isaB "list" "list" = true by decide]); (walk_at "dl"); exact ⟨_, _, _, _, rfl, rfl, row_rl hb, px0, py0, hQ⟩)
      | (rename_i hm; (try simp only [ty_rl hm]); (walk_at "dl"); refine ⟨by decide, ?_⟩; (try simp only [show isaB "list" "list" = true by decide]); (walk_at "dl"); exact ⟨_, _, _, _, rfl, row_rl hm, row_rl hb, px0, py0, hQ⟩)
  | tup bs =>
    walk_at "dl"
    refine ⟨by decide, ?_⟩
    try simp only [show isaB "tuple" "bool" = false by decide, show isaB "tuple" "int" = false by decide, show isaB "tuple" "str" = false by decide, show isaB "tuple" "list" = false by decide]
    walk_at "dl"
    try simp only [show isaB "tuple" "bool" = false by decide, show isaB "tuple" "int" = false by decide, show isaB "tuple" "str" = false by decide, show isaB "tuple" "list" = false by decide]
    walk_at "dl"
    refine ⟨by decide, by decide, by decide, ?_⟩
    cases kx <;> first
      | ((walk_at "dl"); refine ⟨by decide, ?_⟩; exact hQ)
      | ((walk_at "dl"); refine ⟨by decide, ?_⟩; (try simp only [show isaB "tuple" "tuple" = true by decide]); (walk_at "dl"); exact ⟨_, _, _, _, rfl, rfl, rfl, px0, py0, hQ⟩)
      | (rename_i hm; (try simp only [ty_rl hm]); (walk_at "dl"); refine ⟨by decide, ?_⟩; exact hQ)
theorem no_row0 : ∀ ds M Q E, ¬ sp_l_same_row 0 ds M Q E := by
  rintro ds M Q E ⟨x, y, xs, ys, _, rx, _, px, _⟩
  cases x with
  | lst ds => have q := (ba (show (decide (ds.length ≤ 1000000) && plnIn 0 ds) = true from by have := px; unfold vw pln at this; exact this)).2; unfold plnIn at q; cases q
  | tup ds => have q := (ba (show (decide (ds.length ≤ 1000000) && plnIn 0 ds) = true from by have := px; unfold vw pln at this; exact this)).2; unfold plnIn at q; cases q
  | ref a => unfold vw pln at px; cases px
  | _ => cases rx
/-- data that is plain already -/
theorem same_pl {n : Nat} {M : Mu} {x y : D} {Q : DK} {E : DX} (px : pln n x = true) (py : pln n y = true) (h : Q (.bl (eqD x y)) M) : sp_l_same n [x, y] M Q E :=
  ⟨x, y, rfl, by rw [vw_pln M px]; exact px, by rw [vw_pln M py]; exact py, by rw [vw_pln M px, vw_pln M py]; exact h⟩
end DL

namespace DL
open PySem L2
local macro_rules | `(tactic| walk_at "dl") => `(tactic| try simp (config := { proj := false }) only [↓ex_mk, ↓nx_mk, ↓rt_mk, ↓bk_mk, ↓ct_mk, ↓xc_mk, ↓u_c, ↓u_op, ↓u_un, ↓u_and, ↓u_or, ↓u_not, ↓u_if, ↓u_anil, ↓u_acons, ↓u_lst, ↓u_lstM, ↓u_tup, ↓u_call, ↓u_sl, ↓u_onone, ↓u_cb, ↓u_mt, ↓u_mt0, ↓u_pass, ↓u_seq, ↓u_set, ↓u_asg, ↓u_drop, ↓u_ret, ↓u_retN, ↓u_ifs, ↓u_brk, ↓u_cnt, ↓u_for, ↓u_gname, ↓u_gsub, ↓u_fs, ↓u_fmt, ↓u_js0, ↓u_js, ↓u_em, ↓u_yes, ↓u_never, ↓u_dict, ↓u_dict0, ↓u_dp0, ↓u_dp1, ↓u_forK, ↓u_lock, ↓u_kd,
  ↓r_var, ↓r_test, ↓r_andV, ↓r_orV, ↓r_notV, ↓r_tru, ↓r_frz, ↓r_osome, ↓r_any, ↓r_rng1, ↓r_rng2, ↓r_fz, wipeD,
  onSome_s, onBl_b, onInt_i, onStr_s, onVar_s, onML_l, onML2_l, onML2_d, onDK_d, fmt_s, fmt_i, tru_n, tru_b, tru_i, tru_s, tru_l, tru_t, tru_r, frz_r, sl_s, sl_l, sl_t, sl_r, add_i, add_s, add_l, add_t, add_rl, add_lr, sub_i, mul_i, div_i, mod_i, pow_i, neg_i, cmp_i, eq_i, eq_s, eq_b, eq_n, eq_l, eq_t, eq_rl, eq_lr, eq_ni, eq_in, eq_ns, eq_sn, eq_nb, eq_bn, eq_is, eq_si,
  ix_l, ix_t, ix_s, ix_ri, ix_rs, in_ss, in_l, in_t, in_ir, in_sr, isn_n, isn_b, isn_i, isn_s, isn_r, isn_l, isn_t, len_s, len_l, len_t, len_r, int_i, int_b, min_ii, max_ii, list_l, list_t, list_r, list_c, listM_l, listM_t, listM_r, isi_, isi_k, ty_n, ty_b, ty_i, ty_s, ty_l, ty_t, it_s, it_l, it_r, itM_l, itM_d, app_r, rev_r, ends_s, ins_r, set_rs, onRef_r, onML3_l, onML3_d, onML3_f, onDR_d, onDR_f, onFK_f, join_l, join_t, join_r, starts_s, r_gtup, r_glst, r_gnil, r_gcons, set_r, items_s, items_l, items_t, rng1_i, rng2_i, fz_r,
  List.map_cons, List.map_nil, List.cons_append, List.nil_append, List.length_cons, List.length_nil, List.replicate, List.getElem?_cons_zero, List.getElem?_cons_succ, List.set_cons_zero, List.set_cons_succ, id, decide_eq_true_eq, if_true, if_false, Bool.false_eq_true, reduceIte, Bool.not_true, Bool.not_false, true_and, Nat.reduceAdd, Nat.reduceSub, Int.reduceToNat, Int.toNat_natCast, put_same, put_put, atI_0, atI_1, atI_2, atI_3, atI_4, ixN_40, ixN_41, ixN_42, ixN_43])
/-! ### names, steps, nodes -/
def Lett (x : Tx) : Prop := ∀ c ∈ x, 97 ≤ c ∧ c ≤ 122
def Nm (x : Tx) : Prop := 0 < x.length ∧ x.length ≤ 8 ∧ Lett x
instance (x : Tx) : Decidable (Lett x) := inferInstanceAs (Decidable (∀ c ∈ x, 97 ≤ c ∧ c ≤ 122))
instance (x : Tx) : Decidable (Nm x) := inferInstanceAs (Decidable (_ ∧ _))
def IsStep (x : Tx) : Prop := ∃ m n, x = m :: n ∧ (m = 46 ∨ m = 94) ∧ Nm n
def Steps (l : List Tx) : Prop := ∀ s ∈ l, IsStep s
def Tl (k : Nat) (x : Tx) : Prop := ∃ l : List Tx, l.length ≤ k ∧ Steps l ∧ x = l.flatten
def Nd (k : Nat) (x : Tx) : Prop := ∃ (r : Tx) (l : List Tx), Nm r ∧ l.length ≤ k ∧ Steps l ∧ x = r ++ l.flatten
theorem Steps.nil : Steps [] := fun _ h => by cases h
theorem Steps.append {l m : List Tx} (h : Steps l) (k : Steps m) : Steps (l ++ m) := fun s hs => (List.mem_append.mp hs).elim (h s) (k s)
theorem Steps.one {s : Tx} (h : IsStep s) : Steps [s] := fun t ht => by rw [List.mem_singleton.mp ht]; exact h
theorem Steps.take {l : List Tx} (h : Steps l) (n : Nat) : Steps (l.take n) := fun s hs => h s (List.mem_of_mem_take hs)
theorem IsStep.len {s : Tx} (h : IsStep s) : 2 ≤ s.length ∧ s.length ≤ 9 := by
  obtain ⟨m, n, rfl, _, h1, h2, _⟩ := h
  rw [List.length_cons]
  omega
theorem Steps.len : ∀ {l : List Tx}, Steps l → l.flatten.length ≤ 9 * l.length
  | [], _ => by simp
  | s :: l, h => by
    have h1 := (h s (List.mem_cons_self ..)).len
    have h2 := Steps.len (l := l) fun t ht => h t (List.mem_cons_of_mem _ ht)
    rw [List.flatten_cons, List.length_append, List.length_cons]
    omega
theorem Tl.len {k : Nat} {x : Tx} (h : Tl k x) : x.length ≤ 9 * k := by
  obtain ⟨l, h1, h2, rfl⟩ := h
  have := h2.len
  omega
theorem Nd.len {k : Nat} {x : Tx} (h : Nd k x) : x.length ≤ 9 * k + 8 := by
  obtain ⟨r, l, hr, h1, h2, rfl⟩ := h
  have := h2.len
  have := hr.2.1
  rw [List.length_append]
  omega
theorem IsStep.chars {s : Tx} (h : IsStep s) : ∀ c ∈ s, c < 128 := by
  obtain ⟨m, n, rfl, hm, _, _, h3⟩ := h
  intro c hc
  rcases List.mem_cons.mp hc with rfl | hc
  · omega
  · have := h3 c hc; omega
theorem Nd.chars {k : Nat} {x : Tx} (h : Nd k x) : ∀ c ∈ x, c < 128 := by
  obtain ⟨r, l, hr, h1, h2, rfl⟩ := h
  intro c hc
  rcases List.mem_append.mp hc with hc | hc
  · have := hr.2.2 c hc; omega
  · obtain ⟨s, hs, hc⟩ := List.mem_flatten.mp hc
    exact (h2 s hs).chars c hc
theorem Nd.mono {k j : Nat} {x : Tx} (h : Nd k x) (l : k ≤ j) : Nd j x := by
  obtain ⟨r, s, hr, h1, h2, e⟩ := h
  exact ⟨r, s, hr, by omega, h2, e⟩
theorem Nd.app {k j : Nat} {x y : Tx} (h : Nd k x) (t : Tl j y) : Nd (k + j) (x ++ y) := by
  obtain ⟨r, s, hr, h1, h2, rfl⟩ := h
  obtain ⟨l, h3, h4, rfl⟩ := t
  exact ⟨r, s ++ l, hr, by rw [List.length_append]; omega, h2.append h4, by rw [List.flatten_append, List.append_assoc]⟩
theorem Tl.step {k : Nat} {x s : Tx} (h : Tl k x) (t : IsStep s) : Tl (k + 1) (x ++ s) := by
  obtain ⟨l, h3, h4, rfl⟩ := h
  exact ⟨l ++ [s], by rw [List.length_append]; show l.length + 1 ≤ _; omega, h4.append (Steps.one t), by simp⟩
theorem Nm.nd {x : Tx} (h : Nm x) (k : Nat) : Nd k x := ⟨x, [], h, Nat.zero_le _, Steps.nil, by simp⟩
/-! ### the parts of a text -/
def isM (c : Nat) : Bool := c == 46 || c == 94
def pstep (s : List Tx × Tx) (c : Nat) : List Tx × Tx := if isM c then (s.1 ++ [s.2], [c]) else (s.1, s.2 ++ [c])
def pst (x : Tx) : List Tx × Tx := x.foldl pstep ([], [])
def partsF (x : Tx) : List Tx := (pst x).1 ++ [(pst x).2]
theorem pst_snoc (x : Tx) (c : Nat) : pst (x ++ [c]) = pstep (pst x) c := by unfold pst; rw [List.foldl_append]; rfl
theorem pst_len : ∀ (x : Tx), (pst x).1.length ≤ x.length ∧ (pst x).2.length ≤ x.length := by
  intro x
  have all : ∀ (x : Tx) (s : List Tx × Tx), (x.foldl pstep s).1.length ≤ s.1.length + x.length ∧ (x.foldl pstep s).2.length ≤ s.2.length + 1 + x.length ∧ (x.foldl pstep s).2.length ≤ max s.2.length 1 + x.length := by
    intro x
    induction x with
    | nil => intro s; simp; omega
    | cons c x ih =>
      intro s
      have h := ih (pstep s c)
      rw [List.foldl_cons, List.length_cons]
      unfold pstep at h ⊢
      split at h
      · rename_i hc
        simp only [hc, if_true, List.length_append, List.length_cons, List.length_nil] at h ⊢
        omega
      · rename_i hc
        simp only [hc, List.length_append, List.length_cons, List.length_nil] at h ⊢
        simp only [Bool.false_eq_true, if_false, List.length_append, List.length_cons, List.length_nil] at h ⊢
        omega
  have h2 : ∀ (x : Tx), (pst x).2.length ≤ x.length := by
    intro x
    cases x with
    | nil => exact Nat.le_refl _
    | cons c x =>
      have h := (all x (pstep ([], []) c)).2.2
      show (x.foldl pstep (pstep ([], []) c)).2.length ≤ _
      have e : (pstep ([], []) c).2.length = 1 := by unfold pstep; split <;> rfl
      rw [e] at h
      rw [List.length_cons]
      omega
  have h1 := (all x ([], [])).1
  exact ⟨by simpa [pst] using h1, h2 x⟩
theorem fold_plain : ∀ {r : Tx} {s : List Tx × Tx}, (∀ c ∈ r, isM c = false) → r.foldl pstep s = (s.1, s.2 ++ r)
  | [], s, _ => by simp
  | c :: r, s, h => by
    rw [List.foldl_cons, show pstep s c = (s.1, s.2 ++ [c]) by unfold pstep; rw [h c (List.mem_cons_self ..)]; rfl, fold_plain fun d hd => h d (List.mem_cons_of_mem _ hd)]
    simp
/-- a part behind the first: a mark, then no mark -/
def Part (s : Tx) : Prop := ∃ m n, s = m :: n ∧ isM m = true ∧ ∀ c ∈ n, isM c = false
theorem fold_parts : ∀ {l : List Tx} {s : List Tx × Tx}, (∀ t ∈ l, Part t) → (l.flatten.foldl pstep s).1 ++ [(l.flatten.foldl pstep s).2] = s.1 ++ [s.2] ++ l
  | [], s, _ => by simp
  | t :: l, s, h => by
    obtain ⟨m, n, rfl, hm, hn⟩ := h t (List.mem_cons_self ..)
    rw [List.flatten_cons, List.foldl_append, List.foldl_cons, show pstep s m = (s.1 ++ [s.2], [m]) by unfold pstep; rw [hm]; rfl, fold_plain hn, fold_parts fun d hd => h d (List.mem_cons_of_mem _ hd)]
    simp
theorem parts_of {r : Tx} {l : List Tx} (hr : ∀ c ∈ r, isM c = false) (hl : ∀ t ∈ l, Part t) : partsF (r ++ l.flatten) = r :: l := by
  unfold partsF pst
  rw [List.foldl_append, fold_plain hr, fold_parts hl]
  simp
theorem fold_is (x : Tx) : ∀ (s : List Tx × Tx), (∀ c ∈ s.2.drop 1, isM c = false) → ∃ l, (∀ t ∈ l.drop 1, Part t) ∧ (s.2 = l.head?.getD [] ∨ ∃ n, (∀ c ∈ n, isM c = false) ∧ l.head? = some (s.2 ++ n)) ∧ l ≠ [] ∧
    (x.foldl pstep s).1 ++ [(x.foldl pstep s).2] = s.1 ++ l ∧ l.flatten = s.2 ++ x := by
  induction x with
  | nil => intro s h; exact ⟨[s.2], by simp, .inl rfl, by simp, rfl, by simp⟩
  | cons c x ih =>
    intro s h
    rw [List.foldl_cons]
    cases hc : isM c with
    | true =>
      have e : pstep s c = (s.1 ++ [s.2], [c]) := by unfold pstep; rw [hc]; rfl
      rw [e]
      obtain ⟨l, h1, h2, h3, h4, h5⟩ := ih (s.1 ++ [s.2], [c]) (by simp)
      refine ⟨s.2 :: l, ?_, .inl rfl, by simp, by rw [h4]; simp, by rw [List.flatten_cons, h5]; simp⟩
      intro t ht
      rw [List.drop_succ_cons, List.drop_zero] at ht
      cases l with
      | nil => exact absurd rfl h3
      | cons a l =>
        rcases List.mem_cons.mp ht with rfl | ht
        · rcases h2 with h2 | ⟨n, hn, h2⟩
          · simp at h2
            rw [← h2]
            exact ⟨c, [], rfl, hc, by simp⟩
          · simp at h2
            rw [h2]
            exact ⟨c, n, rfl, hc, hn⟩
        · exact h1 t (by simpa using ht)
    | false =>
      have e : pstep s c = (s.1, s.2 ++ [c]) := by unfold pstep; rw [hc]; rfl
      rw [e]
      obtain ⟨l, h1, h2, h3, h4, h5⟩ := ih (s.1, s.2 ++ [c]) (by
        intro d hd
        show isM d = false
        have hd2 : d ∈ s.2.drop 1 ++ [c] ∨ True := .inr trivial
        rcases hs : s.2 with _ | ⟨a, r⟩
        · simp [hs] at hd
        · simp only [hs, List.cons_append, List.drop_succ_cons, List.drop_zero] at hd
          rcases List.mem_append.mp hd with hd | hd
          · exact h d (by simpa [hs] using hd)
          · rw [List.mem_singleton.mp hd]; exact hc)
      refine ⟨l, h1, .inr ?_, h3, h4, by rw [h5]; simp⟩
      cases l with
      | nil => exact absurd rfl h3
      | cons a l =>
        rcases h2 with h2 | ⟨n, hn, h2⟩
        · simp at h2
          exact ⟨[c], by simp [hc], by simp [← h2]⟩
        · simp at h2
          exact ⟨c :: n, by
            intro d hd
            rcases List.mem_cons.mp hd with rfl | hd
            · exact hc
            · exact hn d hd, by simp [h2]⟩
/-- what the parts of a text are -/
theorem parts_is (x : Tx) : ∃ r l, partsF x = r :: l ∧ (∀ t ∈ l, Part t) ∧ (∀ c ∈ r, isM c = false) ∧ x = r ++ l.flatten := by
  obtain ⟨l, h1, h2, h3, h4, h5⟩ := fold_is x ([], []) (by simp)
  cases l with
  | nil => exact absurd rfl h3
  | cons r l =>
    refine ⟨r, l, by unfold partsF pst; rw [h4]; rfl, fun t ht => h1 t (by simpa using ht), ?_, by simpa using h5.symm⟩
    rcases h2 with h2 | ⟨n, hn, h2⟩
    · simp at h2
      rw [h2]
      simp
    · simp at h2
      rw [h2]
      exact hn
theorem lett_plain {x : Tx} (h : Lett x) : ∀ c ∈ x, isM c = false := fun c hc => by
  have := h c hc
  unfold isM
  rw [Bool.or_eq_false_iff, beq_eq_false_iff_ne, beq_eq_false_iff_ne]
  omega
theorem IsStep.part {s : Tx} (h : IsStep s) : Part s := by
  obtain ⟨m, n, rfl, hm, _, _, hn⟩ := h
  refine ⟨m, n, rfl, ?_, lett_plain hn⟩
  rcases hm with rfl | rfl <;> rfl
theorem nd_parts {r : Tx} {l : List Tx} (hr : Nm r) (hl : Steps l) : partsF (r ++ l.flatten) = r :: l := parts_of (lett_plain hr.2.2) fun t ht => (hl t ht).part
end DL

namespace DL
open PySem L2
local macro_rules | `(tactic| walk_at "dl") => `(tactic| try simp (config := { proj := false }) only [↓ex_mk, ↓nx_mk, ↓rt_mk, ↓bk_mk, ↓ct_mk, ↓xc_mk, ↓u_c, ↓u_op, ↓u_un, ↓u_and, ↓u_or, ↓u_not, ↓u_if, ↓u_anil, ↓u_acons, ↓u_lst, ↓u_lstM, ↓u_tup, ↓u_call, ↓u_sl, ↓u_onone, ↓u_cb, ↓u_mt, ↓u_mt0, ↓u_pass, ↓u_seq, ↓u_set, ↓u_asg, ↓u_drop, ↓u_ret, ↓u_retN, ↓u_ifs, ↓u_brk, ↓u_cnt, ↓u_for, ↓u_gname, ↓u_gsub, ↓u_fs, ↓u_fmt, ↓u_js0, ↓u_js, ↓u_em, ↓u_yes, ↓u_never, ↓u_dict, ↓u_dict0, ↓u_dp0, ↓u_dp1, ↓u_forK, ↓u_lock, ↓u_kd,
  ↓r_var, ↓r_test, ↓r_andV, ↓r_orV, ↓r_notV, ↓r_tru, ↓r_frz, ↓r_osome, ↓r_any, ↓r_rng1, ↓r_rng2, ↓r_fz, wipeD,
  onSome_s, onBl_b, onInt_i, onStr_s, onVar_s, onML_l, onML2_l, onML2_d, onDK_d, fmt_s, fmt_i, tru_n, tru_b, tru_i, tru_s, tru_l, tru_t, tru_r, frz_r, sl_s, sl_l, sl_t, sl_r, add_i, add_s, add_l, add_t, add_rl, add_lr, sub_i, mul_i, div_i, mod_i, pow_i, neg_i, cmp_i, eq_i, eq_s, eq_b, eq_n, eq_l, eq_t, eq_rl, eq_lr, eq_ni, eq_in, eq_ns, eq_sn, eq_nb, eq_bn, eq_is, eq_si,
  ix_l, ix_t, ix_s, ix_ri, ix_rs, in_ss, in_l, in_t, in_ir, in_sr, isn_n, isn_b, isn_i, isn_s, isn_r, isn_l, isn_t, len_s, len_l, len_t, len_r, int_i, int_b, min_ii, max_ii, list_l, list_t, list_r, list_c, listM_l, listM_t, listM_r, isi_, isi_k, ty_n, ty_b, ty_i, ty_s, ty_l, ty_t, it_s, it_l, it_r, itM_l, itM_d, app_r, rev_r, ends_s, ins_r, set_rs, onRef_r, onML3_l, onML3_d, onML3_f, onDR_d, onDR_f, onFK_f, join_l, join_t, join_r, starts_s, r_gtup, r_glst, r_gnil, r_gcons, set_r, items_s, items_l, items_t, rng1_i, rng2_i, fz_r,
  List.map_cons, List.map_nil, List.cons_append, List.nil_append, List.length_cons, List.length_nil, List.replicate, List.getElem?_cons_zero, List.getElem?_cons_succ, List.set_cons_zero, List.set_cons_succ, id, decide_eq_true_eq, if_true, if_false, Bool.false_eq_true, reduceIte, Bool.not_true, Bool.not_false, true_and, Nat.reduceAdd, Nat.reduceSub, Int.reduceToNat, Int.toNat_natCast, put_same, put_put, atI_0, atI_1, atI_2, atI_3, atI_4, ixN_40, ixN_41, ixN_42, ixN_43])
def sp_l_name : DSp := fun ds M Q _ => ∃ a, ds = [.ref a] ∧ Src M a ∧ ∀ x M', Nm x → SrcTo a M M' → Q (.str x) M'
def sp_l_step : DSp := fun ds M Q _ => ∃ a, ds = [.ref a] ∧ Src M a ∧ ∀ x M', IsStep x → SrcTo a M M' → Q (.str x) M'
def sp_l_tail : DSp := fun ds M Q _ => ∃ (a : Addr) (k : Int), ds = [.ref a, .int k] ∧ Src M a ∧ 0 ≤ k ∧ k ≤ 100 ∧ ∀ x M', Tl k.toNat x → SrcTo a M M' → Q (.str x) M'
def sp_l_place : DSp := fun ds M Q _ => ∃ a, ds = [.ref a] ∧ Src M a ∧ ∀ x M', Nd 6 x → SrcTo a M M' → Q (.str x) M'
def sp_l_parts : DSp := fun ds M Q _ => ∃ x, ds = [.str x] ∧ x.length ≤ 1000000 ∧ Q (.lst ((partsF x).map D.str)) M
def sp_l_near : DSp := fun ds M Q _ => ∃ (a : Addr) (x : Tx) (k : Nat), ds = [.ref a, .str x] ∧ Nd k x ∧ 6 ≤ k ∧ k ≤ 100 ∧ Src M a ∧ ∀ y M', Nd k y → SrcTo a M M' → Q (.str y) M'
def w_l_name_b1 : DTS := dSet 1 (dOp gAdd (dVar 1) (dCall sp_l_pick (daCons (dVar 0) (daCons (dC (.str (T "abcdefghijklmnopqrstuvwxyz"))) (daNil)))))
def w_l_name : DTS := dSeq (dIfS (dTest (dOp gGt (dCall sp_l_draw (daCons (dVar 0) (daCons (dC (.int 3)) (daNil)))) (dC (.int 0)))) (dRet (dCall sp_l_pick (daCons (dVar 0) (daCons (dLst (daCons (dC (.str [97])) (daCons (dC (.str [98])) (daCons (dC (.str [97, 98])) (daCons (dC (.str [97, 97])) (daCons (dC (.str (T "abc"))) (daCons (dC (.str [99])) (daCons (dC (.str [98, 98])) (daCons (dC (.str (T "see"))) (daNil)))))))))) (daNil))))) (dPass)) (dSeq (dSet 1 (dC (.str []))) (dSeq (dFor (diRng1 (daCons (dOp gAdd (dC (.int 1)) (dCall sp_l_draw (daCons (dVar 0) (daCons (dC (.int 8)) (daNil))))) (daNil))) (dgName 2) (w_l_name_b1)) (dRet (dVar 1))))
def w_l_step : DTS := dRet (dOp gAdd (dCall sp_l_pick (daCons (dVar 0) (daCons (dLst (daCons (dC (.str [46])) (daCons (dC (.str [94])) (daNil)))) (daNil)))) (dCall sp_l_name (daCons (dVar 0) (daNil))))
def w_l_tail_b1 : DTS := dSet 2 (dOp gAdd (dVar 2) (dCall sp_l_step (daCons (dVar 0) (daNil))))
def w_l_tail : DTS := dSeq (dSet 2 (dC (.str []))) (dSeq (dFor (diRng1 (daCons (dCall sp_l_draw (daCons (dVar 0) (daCons (dOp gAdd (dVar 1) (dC (.int 1))) (daNil)))) (daNil))) (dgName 3) (w_l_tail_b1)) (dRet (dVar 2)))
def w_l_place_c1 : DTS := dRet (dOp gAdd (dCall sp_l_name (daCons (dVar 0) (daNil))) (dCall sp_l_tail (daCons (dVar 0) (daCons (dVar 1) (daNil)))))
def w_l_place : DTS := dSeq (dSet 1 (dC (.int 2))) (dSeq (dIfS (dTest (dOp gEq (dCall sp_l_draw (daCons (dVar 0) (daCons (dC (.int 8)) (daNil)))) (dC (.int 0)))) (dSet 1 (dC (.int 6))) (dPass)) (w_l_place_c1))
def w_l_parts_b1 : DTS := dIfS (dTest (dOp gIn (dVar 2) (dC (.str [46, 94])))) (dDrop (dMt "list" gAppend (dVar 1) (daCons (dVar 2) (daNil)))) (dAsg (dOp gAdd (dOp gIx (dVar 1) (dUn gNeg (dC (.int 1)))) (dVar 2)) (dgSub (dVar 1) (dUn gNeg (dC (.int 1))) gSetA))
def w_l_parts : DTS := dSeq (dSet 1 (dLstM (daCons (dC (.str [])) (daNil)))) (dSeq (dFor (diAny (dVar 0)) (dgName 2) (w_l_parts_b1)) (dRet (dFrz (dVar 1))))
def w_l_near_c1 : DTS := dRet (dOp gAdd (dOp gAdd (dMt "str" gJoin (dC (.str [])) (daCons (dSl (dVar 2) (doNone) (doSome (dUn gNeg (dC (.int 1))))) (daNil))) (dVar 5)) (dSl (dVar 4) (doSome (dC (.int 1))) (doNone)))
def w_l_near_c2 : DTS := dRet (dCall sp_l_place (daCons (dVar 0) (daNil)))
def w_l_near_c3 : DTS := dSeq (dIfS (dAnd (dTest (dOp gEq (dVar 3) (dC (.int 7)))) (dTest (dOp gLt (dCB gLen (daCons (dVar 4) (daNil))) (dC (.int 8))))) (dRet (dOp gAdd (dVar 1) (dCall sp_l_pick (daCons (dVar 0) (daCons (dC (.str (T "abcz"))) (daNil)))))) (dPass)) (w_l_near_c2)
def w_l_near_c4 : DTS := dSeq (dSet 4 (dOp gIx (dVar 2) (dUn gNeg (dC (.int 1))))) (dSeq (dIfS (dAnd (dTest (dOp gEq (dVar 3) (dC (.int 6)))) (dTest (dOp gGt (dCB gLen (daCons (dVar 2) (daNil))) (dC (.int 1))))) (dSeq (dSet 5 (dC (.str [46]))) (dSeq (dIfS (dTest (dOp gEq (dOp gIx (dVar 4) (dC (.int 0))) (dC (.str [46])))) (dSet 5 (dC (.str [94]))) (dPass)) (w_l_near_c1))) (dPass)) (w_l_near_c3))
def w_l_near : DTS := dSeq (dSet 2 (dCall sp_l_parts (daCons (dVar 1) (daNil)))) (dSeq (dSet 3 (dCall sp_l_draw (daCons (dVar 0) (daCons (dC (.int 8)) (daNil))))) (dSeq (dIfS (dTest (dOp gLt (dVar 3) (dC (.int 2)))) (dRet (dVar 1)) (dPass)) (dSeq (dIfS (dTest (dOp gLt (dVar 3) (dC (.int 4)))) (dRet (dMt "str" gJoin (dC (.str [])) (daCons (dSl (dVar 2) (doNone) (doSome (dOp gAdd (dC (.int 1)) (dCall sp_l_draw (daCons (dVar 0) (daCons (dCB gLen (daCons (dVar 2) (daNil))) (daNil))))))) (daNil)))) (dPass)) (dSeq (dIfS (dAnd (dTest (dOp gLt (dVar 3) (dC (.int 6)))) (dTest (dOp gLt (dCB gLen (daCons (dVar 2) (daNil))) (dC (.int 7))))) (dRet (dOp gAdd (dVar 1) (dCall sp_l_step (daCons (dVar 0) (daNil))))) (dPass)) (w_l_near_c4)))))
theorem abc : ∀ c ∈ T "abcdefghijklmnopqrstuvwxyz", 97 ≤ c ∧ c ≤ 122 := by decide +kernel
theorem p_l_name : ∀ ds M Q E, sp_l_name ds M Q E → w_l_name (Ret Q E) (ds.map some ++ List.replicate (3 - 1) none) M := by
  rintro ds M Q E ⟨a, rfl, hs, hQ⟩
  unfold w_l_name
  walk_at "dl"
  refine draw_ hs (by decide) (by decide) fun i M1 i0 i1 s1 => ?_
  walk_at "dl"
  by_cases h : 0 < i
  · rw [if_pos h]
    refine ⟨by decide, pick_ s1.1 rfl (by decide) (by decide) fun d M2 hd s2 => ?_⟩
    have : ∃ x, d = .str x ∧ Nm x := by
      simp only [List.mem_cons, List.not_mem_nil, or_false] at hd
      rcases hd with rfl | rfl | rfl | rfl | rfl | rfl | rfl | rfl
      all_goals exact ⟨_, rfl, by decide +kernel⟩
    obtain ⟨x, rfl, hx⟩ := this
    exact hQ x M2 hx (s1.trans s2)
  · rw [if_neg h]
    refine draw_ s1.1 (by decide) (by decide) fun j M2 j0 j1 s2 => ?_
    walk_at "dl"
    refine ⟨by omega, by omega, ?_⟩
    refine wFor_by (fun i τ M' => ∃ z y, τ = [some (.ref a), some (.str z), y] ∧ z.length = i ∧ Lett z ∧ SrcTo a M M') ⟨[], _, rfl, rfl, fun c h => (nomatch h), s1.trans s2⟩ ?_ ?_
    · rintro k d τ M3 hd ⟨z, y, rfl, hz, hl, s3⟩ nxt hn
      obtain ⟨rfl, hk⟩ := upTo_at hd
      unfold w_l_name_b1
      walk_at "dl"
      refine pick_ s3.1 rfl (by decide +kernel) (by decide +kernel) fun d M4 hd s4 => ?_
      obtain ⟨c, hc, rfl⟩ := List.mem_map.mp hd
      walk_at "dl"
      refine ⟨by omega, hn _ _ ⟨_, _, rfl, by rw [List.length_append, hz]; rfl, ?_, s3.trans s4⟩⟩
      intro e he
      rcases List.mem_append.mp he with he | he
      · exact hl e he
      · rw [List.mem_singleton.mp he]; exact abc c hc
    · rintro τ M3 ⟨z, y, rfl, hz, hl, s3⟩
      walk_at "dl"
      rw [upTo_len] at hz
      exact hQ z M3 ⟨by omega, by omega, hl⟩ s3
theorem p_l_step : ∀ ds M Q E, sp_l_step ds M Q E → w_l_step (Ret Q E) (ds.map some ++ List.replicate (1 - 1) none) M := by
  rintro ds M Q E ⟨a, rfl, hs, hQ⟩
  unfold w_l_step
  walk_at "dl"
  refine ⟨by decide, pick_ hs rfl (by decide) (by decide) fun d M2 hd s2 => ⟨a, rfl, s2.1, fun x M3 hx s3 => ?_⟩⟩
  have : ∃ m, d = .str [m] ∧ (m = 46 ∨ m = 94) := by
    simp only [List.mem_cons, List.not_mem_nil, or_false] at hd
    rcases hd with rfl | rfl
    · exact ⟨46, rfl, .inl rfl⟩
    · exact ⟨94, rfl, .inr rfl⟩
  obtain ⟨m, rfl, hm⟩ := this
  walk_at "dl"
  have := hx.2.1
  exact ⟨by omega, hQ _ M3 ⟨m, x, rfl, hm, hx⟩ (s2.trans s3)⟩
theorem p_l_tail : ∀ ds M Q E, sp_l_tail ds M Q E → w_l_tail (Ret Q E) (ds.map some ++ List.replicate (4 - 2) none) M := by
  rintro ds M Q E ⟨a, k, rfl, hs, k0, k1, hQ⟩
  unfold w_l_tail
  walk_at "dl"
  refine draw_ hs (by omega) (by omega) fun j M2 j0 j1 s2 => ?_
  walk_at "dl"
  refine ⟨by omega, by omega, ?_⟩
  refine wFor_by (fun i τ M' => ∃ z y, τ = [some (.ref a), some (.int k), some (.str z), y] ∧ Tl i z ∧ SrcTo a M M') ⟨[], _, rfl, ⟨[], Nat.le_refl _, Steps.nil, rfl⟩, s2⟩ ?_ ?_
  · rintro i d τ M3 hd ⟨z, y, rfl, hz, s3⟩ nxt hn
    obtain ⟨rfl, hi⟩ := upTo_at hd
    unfold w_l_tail_b1
    walk_at "dl"
    refine ⟨a, rfl, s3.1, fun x M4 hx s4 => ?_⟩
    walk_at "dl"
    have := hz.len
    have := hx.len
    exact ⟨by omega, hn _ _ ⟨_, _, rfl, hz.step hx, s3.trans s4⟩⟩
  · rintro τ M3 ⟨z, y, rfl, hz, s3⟩
    walk_at "dl"
    rw [upTo_len] at hz
    obtain ⟨l, h1, h2, e⟩ := hz
    exact hQ z M3 ⟨l, by omega, h2, e⟩ s3
theorem place_c1 {a : Addr} {k : Int} {M0 M : Mu} {Q : DK} {E : DX} (s : SrcTo a M0 M) (h0 : 0 ≤ k) (h1 : k ≤ 6) (hQ : ∀ x M', Nd 6 x → SrcTo a M0 M' → Q (.str x) M') : w_l_place_c1 (Ret Q E) [some (.ref a), some (.int k)] M := by
  unfold w_l_place_c1
  walk_at "dl"
  refine ⟨a, rfl, s.1, fun x M2 hx s2 => ?_⟩
  walk_at "dl"
  refine ⟨a, k, rfl, s2.1, h0, by omega, fun y M3 hy s3 => ?_⟩
  walk_at "dl"
  have := hy.len
  have := hx.2.1
  refine ⟨by omega, hQ _ M3 ?_ ((s.trans s2).trans s3)⟩
  exact ((hx.nd 0).app hy).mono (by omega)
theorem p_l_place : ∀ ds M Q E, sp_l_place ds M Q E → w_l_place (Ret Q E) (ds.map some ++ List.replicate (2 - 1) none) M := by
  rintro ds M Q E ⟨a, rfl, hs, hQ⟩
  unfold w_l_place
  walk_at "dl"
  refine draw_ hs (by omega) (by omega) fun j M2 j0 j1 s2 => ?_
  walk_at "dl"
  by_cases h : j = 0
  · rw [if_pos h]
    exact place_c1 s2 (by decide) (by decide) hQ
  · rw [if_neg h]
    exact place_c1 s2 (by decide) (by decide) hQ
theorem mem_marks {c : Nat} : c ∈ ([46, 94] : List Nat) ↔ isM c = true := by
  unfold isM
  rw [Bool.or_eq_true, beq_iff_eq, beq_iff_eq]
  simp
theorem p_l_parts : ∀ ds M Q E, sp_l_parts ds M Q E → w_l_parts (Ret Q E) (ds.map some ++ List.replicate (3 - 1) none) M := by
  rintro ds M Q E ⟨x, rfl, hl, hQ⟩
  unfold w_l_parts
  walk_at "dl"
  refine ⟨by decide, fun p hp => ?_⟩
  walk_at "dl"
  refine wFor_by (fun i τ M' => ∃ y, τ = [some (.str x), some (.ref p), y] ∧ M' = put M p (.lst (((pst (x.take i)).1 ++ [(pst (x.take i)).2]).map D.str))) ⟨_, rfl, rfl⟩ ?_ ?_
  · rintro i d τ M3 hd ⟨y, rfl, rfl⟩ nxt hn
    rw [List.getElem?_map] at hd
    cases e : x[i]? with
    | none => rw [e] at hd; cases hd
    | some c =>
      rw [e] at hd
      cases hd
      have hi := (List.getElem?_eq_some_iff.mp e).1
      have e2 : x.take (i + 1) = x.take i ++ [c] := by rw [List.take_add_one, e]; rfl
      have hs := pst_snoc (x.take i) c
      rw [← e2] at hs
      obtain ⟨l1, l2⟩ := pst_len (x.take i)
      rw [List.length_take] at l1 l2
      unfold w_l_parts_b1
      walk_at "dl"
      have hln : (List.map D.str ((pst (x.take i)).1 ++ [(pst (x.take i)).2])).length = (pst (x.take i)).1.length + 1 := by simp
      by_cases hc : isM c = true
      · rw [if_pos (mem_marks.mpr hc)]
        refine ⟨by omega, hn _ _ ⟨_, rfl, ?_⟩⟩
        rw [hs]
        unfold pstep
        rw [hc]
        simp
      · rw [if_neg (fun z => hc (mem_marks.mp z))]
        have e5 : List.map D.str ((pst (x.take i)).1 ++ [(pst (x.take i)).2]) = List.map D.str (pst (x.take i)).1 ++ [D.str (pst (x.take i)).2] := by simp
        rw [e5, atI_m1]
        try simp only []
        walk_at "dl"
        try simp only []
        walk_at "dl"
        have e3 : ixN (List.map D.str (pst (x.take i)).1 ++ [D.str (pst (x.take i)).2]).length (-1) = some (pst (x.take i)).1.length := by
          rw [List.length_append, List.length_map]; exact ixN_m1
        rw [e3]
        try simp only []
        walk_at "dl"
        try simp only []
        walk_at "dl"
        refine ⟨by omega, hn _ _ ⟨_, rfl, ?_⟩⟩
        rw [hs]
        unfold pstep
        rw [Bool.not_eq_true] at hc
        rw [hc]
        have e4 : (List.map D.str (pst (x.take i)).1 ++ [D.str (pst (x.take i)).2]).set (pst (x.take i)).1.length (D.str ((pst (x.take i)).2 ++ [c])) = List.map D.str (pst (x.take i)).1 ++ [D.str ((pst (x.take i)).2 ++ [c])] := by
          rw [List.set_append_right _ _ (by rw [List.length_map]; exact Nat.le_refl _), List.length_map, Nat.sub_self]
          rfl
        rw [e4]
        simp
  · rintro τ M3 ⟨y, rfl, rfl⟩
    walk_at "dl"
    rw [del_put_new hp]
    have e : x.take (x.map fun c => D.str [c]).length = x := by rw [List.length_map, List.take_length]
    rw [e]
    exact hQ
theorem join0 : ∀ l : List Tx, joinT [] l = l.flatten
  | [] => rfl
  | [x] => by simp [joinT, TL.joinL]
  | x :: y :: l => by
    have := join0 (y :: l)
    unfold joinT at this ⊢
    rw [List.flatten_cons, ← this]
    rfl
theorem flat_sum (l : List Tx) : (l.map (·.length)).sum = l.flatten.length := by rw [List.length_flatten]
theorem last_of {α : Type} {l : List α} (h : l ≠ []) : ∃ i x, l = i ++ [x] := ⟨l.dropLast, l.getLast h, (List.dropLast_concat_getLast h).symm⟩
theorem near_c1 {a : Addr} {x r n : Tx} {m : Nat} {l : List Tx} {k : Nat} {kd : Option D} {m' : Nat} {M0 M : Mu} {D0 : DEnds} (s : SrcTo a M0 M) (hr : Nm r) (hl : Steps l) (hk : (l ++ [m :: n]).length ≤ k) (hk2 : k ≤ 100) (hn : Nm n) (hm : m' = 46 ∨ m' = 94)
    (hQ : ∀ x M', Nd k x → SrcTo a M0 M' → D0.rt (.str x) M') : w_l_near_c1 D0 [some (.ref a), some (.str x), some (.lst ((r :: (l ++ [m :: n])).map D.str)), kd, some (.str (m :: n)), some (.str [m'])] M := by
  unfold w_l_near_c1
  walk_at "dl"
  have e1 : cut ((r :: (l ++ [m :: n])).map D.str) none (some (-1)) = (r :: l).map D.str := by
    rw [show (r :: (l ++ [m :: n])).map D.str = (r :: l).map D.str ++ [D.str (m :: n)] by simp, cut_init]
  simp only [List.map_cons] at e1
  try simp only [e1]
  walk_at "dl"
  try simp only [e1]
  walk_at "dl"
  have e2 : cut (m :: n) (some 1) none = n := cut_from (by decide)
  try simp only [e2]
  walk_at "dl"
  try simp only [e2]
  walk_at "dl"
  have h1 := hl.len
  have h2 := hr.2.1
  have h3 := hn.2.1
  rw [List.length_append] at hk
  have hk3 : l.length + 1 ≤ k := hk
  refine ⟨r :: l, rfl, ?_, ?_⟩
  · rw [flat_sum, List.flatten_cons, List.length_append]
    simp only [Nat.mul_zero]
    omega
  · rw [join0, List.flatten_cons]
    simp only [List.length_append, List.length_cons, List.length_nil]
    refine ⟨by omega, by omega, by omega, ?_⟩
    refine hQ _ M ⟨r, l ++ [m' :: n], hr, by rw [List.length_append]; exact hk, hl.append (Steps.one ⟨m', n, rfl, hm, hn⟩), ?_⟩ s
    simp
theorem near_c2 {a : Addr} {x2 x3 x4 x5 x6 : Option D} {k : Nat} {M0 M : Mu} {D0 : DEnds} (s : SrcTo a M0 M) (hk : 6 ≤ k) (hQ : ∀ x M', Nd k x → SrcTo a M0 M' → D0.rt (.str x) M') : w_l_near_c2 D0 [some (.ref a), x2, x3, x4, x5, x6] M := by
  unfold w_l_near_c2
  walk_at "dl"
  exact ⟨a, rfl, s.1, fun y M2 hy s2 => hQ y M2 (hy.mono hk) (s.trans s2)⟩
/-- the last part -/
def lastP (r : Tx) (l : List Tx) : Tx := l.getLast?.getD r
theorem lastP_cons {r z : Tx} {i : List Tx} : lastP r (i ++ [z]) = z := by simp [lastP]
theorem lastP_at (r : Tx) (l : List Tx) : atI ((r :: l).map D.str) (-1) = some (.str (lastP r l)) := by
  by_cases hn : l = []
  · subst hn; rfl
  · obtain ⟨i, z, rfl⟩ := last_of hn
    rw [show (r :: (i ++ [z])).map D.str = (r :: i).map D.str ++ [D.str z] by simp, atI_m1, lastP_cons]
theorem lastP_len {r : Tx} {l : List Tx} (hr : Nm r) (hl : Steps l) : (lastP r l).length ≤ 9 := by
  by_cases hn : l = []
  · subst hn; have := hr.2.1; show r.length ≤ 9; omega
  · obtain ⟨i, z, rfl⟩ := last_of hn
    rw [lastP_cons]
    exact (hl z (by simp)).len.2
/-- one letter more -/
theorem nd_letter {r : Tx} {l : List Tx} {k c : Nat} (hr : Nm r) (hl : Steps l) (hk : l.length ≤ k) (hc : 97 ≤ c ∧ c ≤ 122) (h : (lastP r l).length < 8) : Nd k (r ++ l.flatten ++ [c]) := by
  have addc : ∀ z : Tx, Lett z → Lett (z ++ [c]) := fun z hz d hd => by
    rcases List.mem_append.mp hd with hd | hd
    · exact hz d hd
    · rw [List.mem_singleton.mp hd]; exact hc
  by_cases hn : l = []
  · subst hn
    have h2 : r.length < 8 := h
    exact ⟨r ++ [c], [], ⟨by simp, by simp; omega, addc r hr.2.2⟩, Nat.zero_le _, Steps.nil, by simp⟩
  · obtain ⟨i, z, rfl⟩ := last_of hn
    rw [lastP_cons] at h
    obtain ⟨m, n, rfl, hm, hnm⟩ := hl z (by simp)
    rw [List.length_cons] at h
    refine ⟨r, i ++ [m :: (n ++ [c])], hr, by simpa using hk, ?_, by simp⟩
    intro t ht
    rcases List.mem_append.mp ht with ht | ht
    · exact hl t (by simp [ht])
    · rw [List.mem_singleton.mp ht]
      exact ⟨m, n ++ [c], rfl, hm, by simp, by simp; omega, addc n hnm.2.2⟩
theorem abcz : ∀ c ∈ T "abcz", 97 ≤ c ∧ c ≤ 122 := by decide +kernel
theorem near_c3 {a : Addr} {r : Tx} {l : List Tx} {kd : Int} {k : Nat} {x6 : Option D} {M0 M : Mu} {D0 : DEnds} (s : SrcTo a M0 M) (hr : Nm r) (hl : Steps l) (hlk : l.length ≤ k) (k6 : 6 ≤ k) (k100 : k ≤ 100)
    (hQ : ∀ x M', Nd k x → SrcTo a M0 M' → D0.rt (.str x) M') : w_l_near_c3 D0 [some (.ref a), some (.str (r ++ l.flatten)), some (.lst ((r :: l).map D.str)), some (.int kd), some (.str (lastP r l)), x6] M := by
  have h1 := hl.len
  have h2 := hr.2.1
  have h3 := lastP_len hr hl
  unfold w_l_near_c3
  walk_at "dl"
  split
  · refine ⟨by omega, ?_⟩
    split
    · rename_i h8
      refine pick_ s.1 rfl (by decide +kernel) (by decide +kernel) fun d M2 hd s2 => ?_
      obtain ⟨c, hc, rfl⟩ := List.mem_map.mp hd
      walk_at "dl"
      refine ⟨by rw [List.length_append]; omega, hQ _ M2 (nd_letter hr hl hlk (abcz c hc) (by omega)) (s.trans s2)⟩
    · exact near_c2 s k6 hQ
  · exact near_c2 s k6 hQ
theorem near_c4 {a : Addr} {r : Tx} {l : List Tx} {kd : Int} {k : Nat} {x5 x6 : Option D} {M0 M : Mu} {D0 : DEnds} (s : SrcTo a M0 M) (hr : Nm r) (hl : Steps l) (hlk : l.length ≤ k) (k6 : 6 ≤ k) (k100 : k ≤ 100)
    (hQ : ∀ x M', Nd k x → SrcTo a M0 M' → D0.rt (.str x) M') : w_l_near_c4 D0 [some (.ref a), some (.str (r ++ l.flatten)), some (.lst ((r :: l).map D.str)), some (.int kd), x5, x6] M := by
  have hz := lastP_at r l
  have h3 := near_c3 (D0 := D0) (kd := kd) (x6 := x6) s hr hl hlk k6 k100 hQ
  simp only [List.map_cons] at hz h3
  unfold w_l_near_c4
  walk_at "dl"
  try simp only [hz]
  walk_at "dl"
  try simp only [hz]
  walk_at "dl"
  split
  · split
    · rename_i h1
      have hn : l ≠ [] := fun e => by rw [e] at h1; simp at h1
      obtain ⟨i, z, rfl⟩ := last_of hn
      rw [lastP_cons]
      obtain ⟨m, n, rfl, hm, hnm⟩ := hl z (by simp)
      have hi : Steps i := fun t ht => hl t (by simp [ht])
      have := hnm.2.1
      try simp only []
      walk_at "dl"
      try simp only []
      walk_at "dl"
      refine ⟨by omega, ?_⟩
      have c1 : ∀ m', (m' = 46 ∨ m' = 94) → _ := fun m' hm' => near_c1 (D0 := { D0 with nx := w_l_near_c3 D0 }) (x := r ++ (i ++ [m :: n]).flatten) (kd := some (.int kd)) (m' := m') s hr hi hlk k100 hnm hm' hQ
      simp only [List.map_cons] at c1
      split
      · exact c1 94 (.inr rfl)
      · exact c1 46 (.inl rfl)
    · exact h3
  · exact h3
theorem p_l_near : ∀ ds M Q E, sp_l_near ds M Q E → w_l_near (Ret Q E) (ds.map some ++ List.replicate (6 - 2) none) M := by
  rintro ds M Q E ⟨a, x, k, rfl, ⟨r, l, hr, hlk, hl, rfl⟩, k6, k100, hs, hQ⟩
  have hlen := hl.len
  have hr2 := hr.2.1
  unfold w_l_near
  walk_at "dl"
  refine ⟨_, rfl, by rw [List.length_append]; omega, ?_⟩
  rw [nd_parts hr hl]
  walk_at "dl"
  refine draw_ hs (by decide) (by decide) fun kd M1 d0 d1 s1 => ?_
  walk_at "dl"
  have self : Nd k (r ++ l.flatten) := ⟨r, l, hr, hlk, hl, rfl⟩
  have c4 := near_c4 (D0 := Ret Q E) (kd := kd) (x5 := none) (x6 := none) s1 hr hl hlk k6 k100 hQ
  simp only [List.map_cons] at c4
  split
  · exact hQ _ M1 self s1
  · split
    · simp only [List.length_map]
      refine draw_ s1.1 (by omega) (by omega) fun i M2 i0 i1 s2 => ?_
      walk_at "dl"
      have e1 : cut (D.str r :: l.map D.str) none (some (1 + i)) = (r :: l.take i.toNat).map D.str := by
        rw [cut_to (by omega) (by simp; omega), show (1 + i).toNat = i.toNat + 1 by omega, List.take_succ_cons, List.map_cons, List.map_take]
      try simp only [e1]
      walk_at "dl"
      try simp only [e1]
      walk_at "dl"
      refine ⟨r :: l.take i.toNat, rfl, ?_, ?_⟩
      · have h3 := (hl.take i.toNat).len
        rw [List.length_take] at h3
        rw [flat_sum, List.flatten_cons, List.length_append]
        simp only [Nat.mul_zero]
        omega
      · rw [join0, List.flatten_cons]
        exact hQ _ M2 ⟨r, l.take i.toNat, hr, by rw [List.length_take]; omega, hl.take _, rfl⟩ (s1.trans s2)
    · split
      · split
        · rename_i h7
          refine ⟨a, rfl, s1.1, fun y M2 hy s2 => ?_⟩
          walk_at "dl"
          have := hy.len
          rw [List.length_map] at h7
          refine ⟨by rw [List.length_append]; omega, hQ _ M2 ?_ (s1.trans s2)⟩
          refine ⟨r, l ++ [y], hr, ?_, hl.append (Steps.one hy), by simp⟩
          rw [List.length_append]
          show l.length + 1 ≤ k
          omega
        · exact c4
      · exact c4
end DL

namespace DL
open PySem L2
local macro_rules | `(tactic| walk_at "dl") => `(tactic| try simp (config := { proj := false }) only [↓ex_mk, ↓nx_mk, ↓rt_mk, ↓bk_mk, ↓ct_mk, ↓xc_mk, ↓u_c, ↓u_op, ↓u_un, ↓u_and, ↓u_or, ↓u_not, ↓u_if, ↓u_anil, ↓u_acons, ↓u_lst, ↓u_lstM, ↓u_tup, ↓u_call, ↓u_sl, ↓u_onone, ↓u_cb, ↓u_mt, ↓u_mt0, ↓u_pass, ↓u_seq, ↓u_set, ↓u_asg, ↓u_drop, ↓u_ret, ↓u_retN, ↓u_ifs, ↓u_brk, ↓u_cnt, ↓u_for, ↓u_gname, ↓u_gsub, ↓u_fs, ↓u_fmt, ↓u_js0, ↓u_js, ↓u_em, ↓u_yes, ↓u_never, ↓u_dict, ↓u_dict0, ↓u_dp0, ↓u_dp1, ↓u_forK, ↓u_lock, ↓u_kd,
  ↓r_var, ↓r_test, ↓r_andV, ↓r_orV, ↓r_notV, ↓r_tru, ↓r_frz, ↓r_osome, ↓r_any, ↓r_rng1, ↓r_rng2, ↓r_fz, wipeD,
  onSome_s, onBl_b, onInt_i, onStr_s, onVar_s, onML_l, onML2_l, onML2_d, onDK_d, fmt_s, fmt_i, tru_n, tru_b, tru_i, tru_s, tru_l, tru_t, tru_r, frz_r, sl_s, sl_l, sl_t, sl_r, add_i, add_s, add_l, add_t, add_rl, add_lr, sub_i, mul_i, div_i, mod_i, pow_i, neg_i, cmp_i, eq_i, eq_s, eq_b, eq_n, eq_l, eq_t, eq_rl, eq_lr, eq_ni, eq_in, eq_ns, eq_sn, eq_nb, eq_bn, eq_is, eq_si,
  ix_l, ix_t, ix_s, ix_ri, ix_rs, in_ss, in_l, in_t, in_ir, in_sr, isn_n, isn_b, isn_i, isn_s, isn_r, isn_l, isn_t, len_s, len_l, len_t, len_r, int_i, int_b, min_ii, max_ii, list_l, list_t, list_r, list_c, listM_l, listM_t, listM_r, isi_, isi_k, ty_n, ty_b, ty_i, ty_s, ty_l, ty_t, it_s, it_l, it_r, itM_l, itM_d, app_r, rev_r, ends_s, ins_r, set_rs, onRef_r, onML3_l, onML3_d, onML3_f, onDR_d, onDR_f, onFK_f, join_l, join_t, join_r, starts_s, r_gtup, r_glst, r_gnil, r_gcons, set_r, items_s, items_l, items_t, rng1_i, rng2_i, fz_r,
  List.map_cons, List.map_nil, List.cons_append, List.nil_append, List.length_cons, List.length_nil, List.replicate, List.getElem?_cons_zero, List.getElem?_cons_succ, List.set_cons_zero, List.set_cons_succ, id, decide_eq_true_eq, if_true, if_false, Bool.false_eq_true, reduceIte, Bool.not_true, Bool.not_false, true_and, Nat.reduceAdd, Nat.reduceSub, Int.reduceToNat, Int.toNat_natCast, put_same, put_put, atI_0, atI_1, atI_2, atI_3, atI_4, ixN_40, ixN_41, ixN_42, ixN_43])
/-! ### the relation of two nodes -/
def headM (x : Tx) : Bool := match x with
  | c :: _ => isM c
  | [] => false
def beneath (i o : Tx) : Bool := decide (o.length < i.length) && (o.isPrefixOf i && headM (i.drop o.length))
def thr (t : Tx) : Tx := if 94 ∈ t then T "box" else []
def relF (x y : Tx) : Tx := if x = y then T "same" else if beneath x y = true then T "over" ++ thr (x.drop y.length) else if beneath y x = true then T "under" ++ thr (y.drop x.length) else T "apart"
def sp_lies_beneath : DSp := fun ds M Q _ => ∃ i o, ds = [.str i, .str o] ∧ i.length ≤ 1000000 ∧ o.length ≤ 1000000 ∧ Q (.bl (beneath i o)) M
def sp_through : DSp := fun ds M Q _ => ∃ t, ds = [.str t] ∧ Q (.str (thr t)) M
def sp_relation : DSp := fun ds M Q _ => ∃ x y, ds = [.str x, .str y] ∧ x.length ≤ 1000000 ∧ y.length ≤ 1000000 ∧ Q (.str (relF x y)) M
def headC (x : Tx) : Bool := match x with
  | c :: _ => c == 94
  | [] => false
def relW (m t rest : List Tx) (w : Tx) : Tx := if m.take (min m.length t.length) ≠ t.take (min m.length t.length) ∨ rest = [] then T "apart" else if rest.any headC = true then w ++ T "box" else w
def relL (x y : Tx) : Tx := if partsF x = partsF y then T "same" else if (partsF y).length < (partsF x).length then relW (partsF x) (partsF y) ((partsF x).drop (partsF y).length) (T "over") else relW (partsF x) (partsF y) ((partsF y).drop (partsF x).length) (T "under")
def sp_l_relation : DSp := fun ds M Q _ => ∃ x y, ds = [.str x, .str y] ∧ x.length ≤ 1000000 ∧ y.length ≤ 1000000 ∧ okT x ∧ okT y ∧ Q (.str (relL x y)) M
def w_lies_beneath : DTS := dRet (dAndV (dOp gGt (dCB gLen (daCons (dVar 0) (daNil))) (dCB gLen (daCons (dVar 1) (daNil)))) (dAndV (dMt "str" gStarts (dVar 0) (daCons (dVar 1) (daNil))) (dOp gIn (dOp gIx (dVar 0) (dCB gLen (daCons (dVar 1) (daNil)))) (dC (.str [46, 94])))))
def w_through : DTS := dSeq (dIfS (dTest (dOp gIn (dC (.str [94])) (dVar 0))) (dRet (dC (.str (T "box")))) (dPass)) (dRet (dC (.str [])))
def w_relation : DTS := dSeq (dIfS (dTest (dOp gEq (dVar 0) (dVar 1))) (dRet (dC (.str (T "same")))) (dPass)) (dSeq (dIfS (dTru (dCall sp_lies_beneath (daCons (dVar 0) (daCons (dVar 1) (daNil))))) (dRet (dOp gAdd (dC (.str (T "over"))) (dCall sp_through (daCons (dSl (dVar 0) (doSome (dCB gLen (daCons (dVar 1) (daNil)))) (doNone)) (daNil))))) (dPass)) (dSeq (dIfS (dTru (dCall sp_lies_beneath (daCons (dVar 1) (daCons (dVar 0) (daNil))))) (dRet (dOp gAdd (dC (.str (T "under"))) (dCall sp_through (daCons (dSl (dVar 1) (doSome (dCB gLen (daCons (dVar 0) (daNil)))) (doNone)) (daNil))))) (dPass)) (dRet (dC (.str (T "apart"))))))
theorem p_lies_beneath : ∀ ds M Q E, sp_lies_beneath ds M Q E → w_lies_beneath (Ret Q E) (ds.map some ++ List.replicate (2 - 2) none) M := by
  rintro ds M Q E ⟨i, o, rfl, hi, ho, hQ⟩
  unfold w_lies_beneath
  walk_at "dl"
  refine ⟨by omega, by omega, ?_⟩
  unfold beneath at hQ
  by_cases h : o.length < i.length
  · have h2 : (o.length : Int) < i.length := by omega
    rw [if_pos h2]
    rw [decide_eq_true h, Bool.true_and] at hQ
    cases hp : o.isPrefixOf i with
    | false =>
      rw [hp] at hQ
      try simp only []
      walk_at "dl"
      try simp only []
      walk_at "dl"
      exact hQ
    | true =>
      rw [hp, Bool.true_and] at hQ
      try simp only []
      walk_at "dl"
      try simp only []
      walk_at "dl"
      refine ⟨by omega, by omega, ?_⟩
      rw [atI_nat h]
      try simp only []
      walk_at "dl"
      try simp only []
      walk_at "dl"
      have e : i.drop o.length = i[o.length] :: i.drop (o.length + 1) := List.drop_eq_getElem_cons h
      rw [e] at hQ
      have e2 : decide (i[o.length] ∈ ([46, 94] : List Nat)) = isM i[o.length] := by rw [Bool.eq_iff_iff, decide_eq_true_iff]; exact mem_marks
      rw [e2]
      exact hQ
  · have h2 : ¬ (o.length : Int) < i.length := by omega
    rw [if_neg h2]
    rw [decide_eq_false h] at hQ
    exact hQ
theorem p_through : ∀ ds M Q E, sp_through ds M Q E → w_through (Ret Q E) (ds.map some ++ List.replicate (1 - 1) none) M := by
  rintro ds M Q E ⟨t, rfl, hQ⟩
  unfold w_through
  walk_at "dl"
  unfold thr at hQ
  split
  · rename_i h; rw [if_pos h] at hQ; exact hQ
  · rename_i h; rw [if_neg h] at hQ; exact hQ
theorem T_same : (T "same").length = 4 := by decide +kernel
theorem T_over : (T "over").length = 4 := by decide +kernel
theorem T_under : (T "under").length = 5 := by decide +kernel
theorem T_box : (T "box").length = 3 := by decide +kernel
theorem T_apart : (T "apart").length = 5 := by decide +kernel
theorem thr_len (t : Tx) : (thr t).length ≤ 3 := by
  unfold thr
  split
  · rw [T_box]; decide
  · decide
theorem p_relation : ∀ ds M Q E, sp_relation ds M Q E → w_relation (Ret Q E) (ds.map some ++ List.replicate (2 - 2) none) M := by
  rintro ds M Q E ⟨x, y, rfl, hx, hy, hQ⟩
  unfold w_relation
  walk_at "dl"
  unfold relF at hQ
  split
  · rename_i h; rw [if_pos h] at hQ; exact hQ
  · rename_i h
    rw [if_neg h] at hQ
    refine ⟨x, y, rfl, hx, hy, ?_⟩
    try simp only []
    walk_at "dl"
    try simp only []
    walk_at "dl"
    split
    · rename_i h
      rw [if_pos h] at hQ
      refine ⟨by omega, by omega, ⟨_, rfl, ?_⟩⟩
      try simp only [cut_nat]
      walk_at "dl"
      try simp only [cut_nat]
      walk_at "dl"
      have := thr_len (x.drop y.length)
      rw [T_over]
      exact ⟨by omega, hQ⟩
    · rename_i h
      rw [if_neg h] at hQ
      refine ⟨y, x, rfl, hy, hx, ?_⟩
      try simp only []
      walk_at "dl"
      try simp only []
      walk_at "dl"
      split
      · rename_i h
        rw [if_pos h] at hQ
        refine ⟨by omega, by omega, ⟨_, rfl, ?_⟩⟩
        try simp only [cut_nat]
        walk_at "dl"
        try simp only [cut_nat]
        walk_at "dl"
        have := thr_len (y.drop x.length)
        rw [T_under]
        exact ⟨by omega, hQ⟩
      · rename_i h
        rw [if_neg h] at hQ
        exact hQ
theorem parts_ok {x : Tx} (h : okT x) : ∀ t ∈ partsF x, okT t := by
  obtain ⟨r, l, e, h1, h2, h3⟩ := parts_is x
  intro t ht c hc
  rw [e] at ht
  apply h
  rw [h3]
  rcases List.mem_cons.mp ht with rfl | ht
  · exact List.mem_append_left _ hc
  · exact List.mem_append_right _ (List.mem_flatten.mpr ⟨t, ht, hc⟩)
theorem parts_lens {x : Tx} : ∀ t ∈ partsF x, t.length ≤ x.length := by
  obtain ⟨r, l, e, h1, h2, h3⟩ := parts_is x
  intro t ht
  rw [e] at ht
  rw [h3, List.length_append]
  rcases List.mem_cons.mp ht with rfl | ht
  · omega
  · have : t.length ≤ l.flatten.length := by
      rw [List.length_flatten]
      obtain ⟨l1, l2, rfl⟩ := List.append_of_mem ht
      simp
      omega
    omega
theorem parts_len {x : Tx} : (partsF x).length ≤ x.length + 1 := by
  unfold partsF
  rw [List.length_append]
  have := (pst_len x).1
  show _ + 1 ≤ _
  omega
theorem map_cut {xs : List Tx} {lo hi : Option Int} : cut (xs.map D.str) lo hi = (cut xs lo hi).map D.str := by
  unfold cut
  rw [List.length_map, ← List.map_drop, ← List.map_take]
/-- the rest's loop -/
theorem drop_any {l : List Tx} {n : Nat} {P : Tx → Prop} (h : ∀ t ∈ l, P t) : ∀ t ∈ l.drop n, P t := fun t ht => h t (List.mem_of_mem_drop ht)
theorem part_ne {t : Tx} (h : Part t) : t ≠ [] := by
  obtain ⟨m, n, rfl, _⟩ := h
  simp
theorem rest_ok {x : Tx} {n : Nat} (hn : 0 < n) (hx : x.length ≤ 1000000) : ∀ z ∈ (partsF x).drop n, z ≠ [] ∧ z.length ≤ 1000000 := by
  intro z hz
  refine ⟨?_, Nat.le_trans (parts_lens z (List.mem_of_mem_drop hz)) hx⟩
  obtain ⟨r, l, e, h1, h2, h3⟩ := parts_is x
  rw [e] at hz
  cases n with
  | zero => exact absurd hn (by decide)
  | succ n =>
    rw [List.drop_succ_cons] at hz
    exact part_ne (h1 z (List.mem_of_mem_drop hz))
theorem parts_pos (x : Tx) : 0 < (partsF x).length := by
  unfold partsF
  rw [List.length_append]
  show 0 < _ + 1
  omega
theorem head_parts {z : Tx} (h : headM z = true) : ∃ l, l ≠ [] ∧ (∀ t ∈ l, Part t) ∧ l.flatten = z := by
  obtain ⟨r, l, e, h1, h2, h3⟩ := parts_is z
  have hr : r = [] := by
    cases r with
    | nil => rfl
    | cons c r =>
      rw [h3] at h
      have : isM c = true := h
      rw [h2 c (List.mem_cons_self ..)] at this
      cases this
  subst hr
  refine ⟨l, ?_, h1, by rw [h3]; rfl⟩
  intro e2
  subst e2
  rw [h3] at h
  cases h
theorem parts_app {y : Tx} {l : List Tx} (h : ∀ t ∈ l, Part t) : partsF (y ++ l.flatten) = partsF y ++ l := by
  unfold partsF pst
  rw [List.foldl_append, fold_parts h]
theorem flat_parts (x : Tx) : (partsF x).flatten = x := by
  obtain ⟨r, l, e, h1, h2, h3⟩ := parts_is x
  rw [e, List.flatten_cons, ← h3]
theorem any_head {l : List Tx} (h : ∀ t ∈ l, Part t) : l.any headC = true ↔ 94 ∈ l.flatten := by
  rw [List.any_eq_true, List.mem_flatten]
  constructor
  · rintro ⟨t, ht, hc⟩
    cases t with
    | nil => cases hc
    | cons c t =>
      have : c = 94 := eq_of_beq hc
      exact ⟨_, ht, by rw [this]; exact List.mem_cons_self ..⟩
  · rintro ⟨t, ht, hc⟩
    obtain ⟨m, n, rfl, hm, hn⟩ := h t ht
    refine ⟨_, ht, ?_⟩
    rcases List.mem_cons.mp hc with e | hc
    · rw [← e]; rfl
    · have := hn 94 hc; cases this
theorem beneath_parts {x y : Tx} : beneath x y = true ↔ ∃ l, l ≠ [] ∧ (∀ t ∈ l, Part t) ∧ x = y ++ l.flatten := by
  unfold beneath
  rw [Bool.and_eq_true, Bool.and_eq_true, decide_eq_true_iff, List.isPrefixOf_iff_prefix]
  constructor
  · rintro ⟨_, ⟨z, rfl⟩, h⟩
    rw [List.drop_left] at h
    obtain ⟨l, h1, h2, h3⟩ := head_parts h
    exact ⟨l, h1, h2, by rw [h3]⟩
  · rintro ⟨l, h1, h2, rfl⟩
    cases l with
    | nil => exact absurd rfl h1
    | cons t l =>
      obtain ⟨m, n, rfl, hm, hn⟩ := h2 t (List.mem_cons_self ..)
      refine ⟨by rw [List.length_append, List.flatten_cons, List.length_append, List.length_cons]; omega, List.prefix_append .., ?_⟩
      rw [List.drop_left]
      exact hm
theorem parts_inj {x y : Tx} (h : partsF x = partsF y) : x = y := by rw [← flat_parts x, ← flat_parts y, h]
/-- parts that begin with all parts of another -/
theorem take_beneath {x y : Tx} (h : (partsF x).take (partsF y).length = partsF y) (hl : (partsF y).length < (partsF x).length) : beneath x y = true := by
  rw [beneath_parts]
  refine ⟨(partsF x).drop (partsF y).length, ?_, ?_, ?_⟩
  · intro e
    have := congrArg List.length e
    rw [List.length_drop, List.length_nil] at this
    omega
  · intro t ht
    obtain ⟨r, l, e, h1, h2, h3⟩ := parts_is x
    have hp := parts_pos y
    rw [e] at ht
    obtain ⟨n, hn⟩ : ∃ n, (partsF y).length = n + 1 := ⟨(partsF y).length - 1, by omega⟩
    rw [hn, List.drop_succ_cons] at ht
    exact h1 t (List.mem_of_mem_drop ht)
  · have e : partsF x = partsF y ++ (partsF x).drop (partsF y).length := by
      have := List.take_append_drop (partsF y).length (partsF x)
      rw [h] at this
      exact this.symm
    have e2 := congrArg List.flatten e
    rw [List.flatten_append, flat_parts, flat_parts] at e2
    exact e2
theorem thr_any {l : List Tx} (w : Tx) (h : ∀ t ∈ l, Part t) : w ++ thr l.flatten = if l.any headC = true then w ++ T "box" else w := by
  unfold thr
  by_cases h2 : 94 ∈ l.flatten
  · rw [if_pos h2, if_pos ((any_head h).mpr h2)]
  · rw [if_neg h2, if_neg (fun z => h2 ((any_head h).mp z)), List.append_nil]
theorem relL_over {x y : Tx} {l : List Tx} (hl : l ≠ []) (h : ∀ t ∈ l, Part t) (e : x = y ++ l.flatten) : relL x y = T "over" ++ thr l.flatten := by
  have ep : partsF x = partsF y ++ l := by rw [e, parts_app h]
  have hp : 0 < l.length := List.length_pos_iff.mpr hl
  unfold relL
  rw [ep]
  have hlt : (partsF y).length < (partsF y ++ l).length := by rw [List.length_append]; omega
  rw [if_neg (fun z => by have := congrArg List.length z; rw [List.length_append] at this; omega), if_pos hlt, List.drop_left]
  unfold relW
  rw [ Nat.min_eq_right (by omega), List.take_left, List.take_length, if_neg (fun z => z.elim (fun q => q rfl) hl), thr_any _ h]
theorem relL_under {x y : Tx} {l : List Tx} (hl : l ≠ []) (h : ∀ t ∈ l, Part t) (e : y = x ++ l.flatten) : relL x y = T "under" ++ thr l.flatten := by
  have ep : partsF y = partsF x ++ l := by rw [e, parts_app h]
  have hp : 0 < l.length := List.length_pos_iff.mpr hl
  unfold relL
  rw [ep]
  have hlt : ¬ (partsF x ++ l).length < (partsF x).length := by rw [List.length_append]; omega
  have hlt2 : (partsF x).length < (partsF x ++ l).length := by rw [List.length_append]; omega
  rw [if_neg (fun z => by have := congrArg List.length z; rw [List.length_append] at this; omega), if_neg hlt, List.drop_left]
  unfold relW
  rw [Nat.min_eq_left (by omega), List.take_left, List.take_length, if_neg (fun z => z.elim (fun q => q rfl) hl), thr_any _ h]
theorem rel_eq (x y : Tx) : relF x y = relL x y := by
  unfold relF
  by_cases h1 : x = y
  · subst h1
    rw [if_pos rfl]
    unfold relL
    simp
  · rw [if_neg h1]
    by_cases h2 : beneath x y = true
    · rw [if_pos h2]
      obtain ⟨l, hl, hp, e⟩ := beneath_parts.mp h2
      rw [relL_over hl hp e]
      congr 2
      rw [e, List.drop_left]
    · rw [if_neg h2]
      by_cases h3 : beneath y x = true
      · rw [if_pos h3]
        obtain ⟨l, hl, hp, e⟩ := beneath_parts.mp h3
        rw [relL_under hl hp e]
        congr 2
        rw [e, List.drop_left]
      · rw [if_neg h3]
        unfold relL
        rw [if_neg (fun z => h1 (parts_inj z))]
        by_cases h4 : (partsF y).length < (partsF x).length
        · rw [if_pos h4]
          unfold relW
          rw [if_pos]
          left
          intro z
          rw [Nat.min_eq_right (by omega), List.take_length] at z
          exact h2 (take_beneath z h4)
        · rw [if_neg h4]
          unfold relW
          rw [if_pos]
          by_cases h5 : (partsF x).length < (partsF y).length
          · left
            intro z
            rw [Nat.min_eq_left (by omega), List.take_length] at z
            exact h3 (take_beneath z.symm h5)
          · right
            rw [show (partsF x).length = (partsF y).length by omega, List.drop_length]
end DL

namespace DL
open PySem L2
local macro_rules | `(tactic| walk_at "dl") => `(tactic| try simp (config := { proj := false }) only [↓ex_mk, ↓nx_mk, ↓rt_mk, ↓bk_mk, ↓ct_mk, ↓xc_mk, ↓u_c, ↓u_op, ↓u_un, ↓u_and, ↓u_or, ↓u_not, ↓u_if, ↓u_anil, ↓u_acons, ↓u_lst, ↓u_lstM, ↓u_tup, ↓u_call, ↓u_sl, ↓u_onone, ↓u_cb, ↓u_mt, ↓u_mt0, ↓u_pass, ↓u_seq, ↓u_set, ↓u_asg, ↓u_drop, ↓u_ret, ↓u_retN, ↓u_ifs, ↓u_brk, ↓u_cnt, ↓u_for, ↓u_gname, ↓u_gsub, ↓u_fs, ↓u_fmt, ↓u_js0, ↓u_js, ↓u_em, ↓u_yes, ↓u_never, ↓u_dict, ↓u_dict0, ↓u_dp0, ↓u_dp1, ↓u_forK, ↓u_lock, ↓u_kd,
  ↓r_var, ↓r_test, ↓r_andV, ↓r_orV, ↓r_notV, ↓r_tru, ↓r_frz, ↓r_osome, ↓r_any, ↓r_rng1, ↓r_rng2, ↓r_fz, wipeD,
  onSome_s, onBl_b, onInt_i, onStr_s, onVar_s, onML_l, onML2_l, onML2_d, onDK_d, fmt_s, fmt_i, tru_n, tru_b, tru_i, tru_s, tru_l, tru_t, tru_r, frz_r, sl_s, sl_l, sl_t, sl_r, add_i, add_s, add_l, add_t, add_rl, add_lr, sub_i, mul_i, div_i, mod_i, pow_i, neg_i, cmp_i, eq_i, eq_s, eq_b, eq_n, eq_l, eq_t, eq_rl, eq_lr, eq_ni, eq_in, eq_ns, eq_sn, eq_nb, eq_bn, eq_is, eq_si,
  ix_l, ix_t, ix_s, ix_ri, ix_rs, in_ss, in_l, in_t, in_ir, in_sr, isn_n, isn_b, isn_i, isn_s, isn_r, isn_l, isn_t, len_s, len_l, len_t, len_r, int_i, int_b, min_ii, max_ii, list_l, list_t, list_r, list_c, listM_l, listM_t, listM_r, isi_, isi_k, ty_n, ty_b, ty_i, ty_s, ty_l, ty_t, it_s, it_l, it_r, itM_l, itM_d, app_r, rev_r, ends_s, ins_r, set_rs, onRef_r, onML3_l, onML3_d, onML3_f, onDR_d, onDR_f, onFK_f, join_l, join_t, join_r, starts_s, r_gtup, r_glst, r_gnil, r_gcons, set_r, items_s, items_l, items_t, rng1_i, rng2_i, fz_r,
  List.map_cons, List.map_nil, List.cons_append, List.nil_append, List.length_cons, List.length_nil, List.replicate, List.getElem?_cons_zero, List.getElem?_cons_succ, List.set_cons_zero, List.set_cons_succ, id, decide_eq_true_eq, if_true, if_false, Bool.false_eq_true, reduceIte, Bool.not_true, Bool.not_false, true_and, Nat.reduceAdd, Nat.reduceSub, Int.reduceToNat, Int.toNat_natCast, put_same, put_put, atI_0, atI_1, atI_2, atI_3, atI_4, ixN_40, ixN_41, ixN_42, ixN_43])
/-! ### the six words -/
inductive Wd where
  | same | over (b : Bool) | under (b : Bool) | apart
  deriving DecidableEq
def Wd.t : Wd → Tx
  | .same => T "same"
  | .over b => if b then T "overbox" else T "over"
  | .under b => if b then T "underbox" else T "under"
  | .apart => T "apart"
def Wd.inv : Wd → Wd
  | .same => .same
  | .over b => .under b
  | .under b => .over b
  | .apart => .apart
def Wd.all : List Wd := [.same, .over false, .over true, .under false, .under true, .apart]
theorem Wd.mem_all : ∀ w : Wd, w ∈ Wd.all
  | .same => by decide
  | .over false => by decide
  | .over true => by decide
  | .under false => by decide
  | .under true => by decide
  | .apart => by decide
theorem Wd.t_inj {a b : Wd} (h : a.t = b.t) : a = b := by
  have q : (Wd.all.all fun a => Wd.all.all fun b => decide (a.t = b.t → a = b)) = true := by decide +kernel
  exact of_decide_eq_true (List.all_eq_true.mp (List.all_eq_true.mp q a a.mem_all) b b.mem_all) h
def fitsW : Wd → Wd → List Wd
  | .same, b => [b]
  | a, .same => [a]
  | .over b, .over c => [.over (b || c)]
  | .under b, .under c => [.under (b || c)]
  | .over _, .apart => [.apart]
  | .apart, .under _ => [.apart]
  | .under _, .apart => [.under false, .under true, .apart]
  | .apart, .over _ => [.over false, .over true, .apart]
  | .apart, .apart => [.same, .over false, .over true, .under false, .under true, .apart]
  | .over true, .under true => [.same, .over false, .over true, .under false, .under true, .apart]
  | .over false, .under false => [.same, .over false, .under false, .apart]
  | .over true, .under false => [.over true, .apart]
  | .over false, .under true => [.under true, .apart]
  | .under true, .over true => [.same, .over false, .over true, .under false, .under true]
  | .under false, .over false => [.same, .over false, .under false]
  | .under false, .over true => [.over true]
  | .under true, .over false => [.under true]
/-! ### the word of two nodes -/
/-- x lies beneath y, by the steps t -/
def Bn (x y t : Tx) : Prop := x = y ++ t ∧ headM t = true
def hasB (t : Tx) : Bool := decide (94 ∈ t)
def relWd (x y : Tx) : Wd := if x = y then .same else if beneath x y = true then .over (hasB (x.drop y.length)) else if beneath y x = true then .under (hasB (y.drop x.length)) else .apart
theorem relWd_t (x y : Tx) : (relWd x y).t = relF x y := by
  unfold relWd relF
  have h : ∀ t, thr t = if hasB t = true then T "box" else [] := fun t => by
    unfold thr hasB
    by_cases e : 94 ∈ t <;> simp [e]
  split
  · rfl
  · split
    · rw [h]
      cases e : hasB (x.drop y.length) with
      | true => show T "overbox" = T "over" ++ T "box"; decide +kernel
      | false => show T "over" = T "over" ++ []; rw [List.append_nil]
    · split
      · rw [h]
        cases e : hasB (y.drop x.length) with
        | true => show T "underbox" = T "under" ++ T "box"; decide +kernel
        | false => show T "under" = T "under" ++ []; rw [List.append_nil]
      · rfl
theorem bn_of {x y : Tx} (h : beneath x y = true) : Bn x y (x.drop y.length) := by
  unfold beneath at h
  obtain ⟨h1, h2⟩ := ba h
  obtain ⟨h3, h4⟩ := ba h2
  refine ⟨?_, h4⟩
  have h5 := List.isPrefixOf_iff_prefix.mp h3
  rw [List.prefix_iff_eq_append] at h5
  exact h5.symm
theorem bn_ne {t : Tx} (h : headM t = true) : t ≠ [] := fun e => by rw [e] at h; cases h
theorem of_bn {x y t : Tx} (h : Bn x y t) : beneath x y = true ∧ x.drop y.length = t := by
  obtain ⟨rfl, h2⟩ := h
  have e : (y ++ t).drop y.length = t := by simp
  refine ⟨?_, e⟩
  unfold beneath
  rw [e, h2, Bool.and_true]
  have hl := List.length_pos_iff.mpr (bn_ne h2)
  rw [Bool.and_eq_true, decide_eq_true_iff, List.isPrefixOf_iff_prefix]
  exact ⟨by rw [List.length_append]; omega, List.prefix_append _ _⟩
/-- what the word tells -/
def Tells : Wd → Tx → Tx → Prop
  | .same, x, y => x = y
  | .over b, x, y => ∃ t, Bn x y t ∧ hasB t = b
  | .under b, x, y => ∃ t, Bn y x t ∧ hasB t = b
  | .apart, x, y => x ≠ y ∧ (∀ t, ¬ Bn x y t) ∧ ∀ t, ¬ Bn y x t
theorem bn_len {x y t : Tx} (h : Bn x y t) : y.length < x.length := by
  obtain ⟨rfl, h2⟩ := h
  have hl := List.length_pos_iff.mpr (bn_ne h2)
  rw [List.length_append]; omega
theorem tells_rel (x y : Tx) : Tells (relWd x y) x y := by
  unfold relWd
  split
  · assumption
  · rename_i ne
    split
    · rename_i h; exact ⟨_, bn_of h, rfl⟩
    · rename_i h1
      split
      · rename_i h; exact ⟨_, bn_of h, rfl⟩
      · rename_i h2
        exact ⟨ne, fun t h => h1 (of_bn h).1, fun t h => h2 (of_bn h).1⟩
theorem rel_of : ∀ {w : Wd} {x y : Tx}, Tells w x y → relWd x y = w
  | .same, x, y, h => if_pos h
  | .over b, x, y, ⟨t, h, e⟩ => by
    have hl := bn_len h
    have ne : x ≠ y := fun z => by rw [z] at hl; omega
    unfold relWd
    rw [if_neg ne, if_pos (of_bn h).1, (of_bn h).2, e]
  | .under b, x, y, ⟨t, h, e⟩ => by
    have hl := bn_len h
    have ne : x ≠ y := fun z => by rw [z] at hl; omega
    have n2 : ¬ beneath x y = true := fun z => by have := bn_len (bn_of z); omega
    unfold relWd
    rw [if_neg ne, if_neg n2, if_pos (of_bn h).1, (of_bn h).2, e]
  | .apart, x, y, ⟨h1, h2, h3⟩ => by
    unfold relWd
    rw [if_neg h1, if_neg fun z => h2 _ (bn_of z), if_neg fun z => h3 _ (bn_of z)]
theorem rel_inv (x y : Tx) : relWd y x = (relWd x y).inv := by
  have h := tells_rel x y
  cases e : relWd x y with
  | same => rw [e] at h; exact rel_of (w := .same) (show y = x from h.symm)
  | over b => rw [e] at h; exact rel_of (w := .under b) h
  | under b => rw [e] at h; exact rel_of (w := .over b) h
  | apart => rw [e] at h; exact rel_of (w := .apart) ⟨fun z => h.1 z.symm, h.2.2, h.2.1⟩
theorem bn_trans {x y z s t : Tx} (h : Bn x y s) (k : Bn y z t) : Bn x z (t ++ s) := by
  obtain ⟨rfl, h2⟩ := h
  obtain ⟨rfl, k2⟩ := k
  refine ⟨List.append_assoc _ _ _, ?_⟩
  cases t with
  | nil => cases k2
  | cons c t => exact k2
theorem hasB_app (s t : Tx) : hasB (t ++ s) = (hasB s || hasB t) := by
  unfold hasB
  rw [Bool.eq_iff_iff, Bool.or_eq_true, decide_eq_true_iff, decide_eq_true_iff, decide_eq_true_iff, List.mem_append]
  exact Or.comm
/-- both above one -/
theorem bn_two {x y z s t : Tx} (h : Bn x y s) (k : Bn x z t) : (y = z ∧ s = t) ∨ (∃ u, Bn y z u ∧ t = u ++ s) ∨ ∃ u, Bn z y u ∧ s = u ++ t := by
  obtain ⟨rfl, h2⟩ := h
  obtain ⟨k1, k2⟩ := k
  rcases List.append_eq_append_iff.mp k1 with ⟨u, e1, e2⟩ | ⟨u, e1, e2⟩
  · -- z = y ++ u, s = u ++ t
    cases u with
    | nil => exact .inl ⟨by rw [e1, List.append_nil], by rw [e2]; rfl⟩
    | cons c u => exact .inr (.inr ⟨c :: u, ⟨e1, by rw [e2] at h2; exact h2⟩, e2⟩)
  · cases u with
    | nil => exact .inl ⟨by rw [e1, List.append_nil], by rw [e2]; rfl⟩
    | cons c u => exact .inr (.inl ⟨c :: u, ⟨e1, by rw [e2] at k2; exact k2⟩, e2⟩)
theorem bn_uniq {x y s t : Tx} (h : Bn x y s) (k : Bn x y t) : s = t := List.append_cancel_left (h.1.symm.trans k.1)
theorem fits_rel (i j k : Tx) : relWd i k ∈ fitsW (relWd i j) (relWd j k) := by
  have ha := tells_rel i j
  have hb := tells_rel j k
  have hc := tells_rel i k
  generalize ea : relWd i j = a at ha
  generalize eb : relWd j k = b at hb
  cases a with
  | same =>
    have e : i = j := ha
    rw [e, eb]
    exact List.mem_cons_self
  | over a =>
    obtain ⟨s, h1, h2⟩ := ha
    cases b with
    | same =>
      have e : j = k := hb
      rw [← e, ea]
      exact List.mem_cons_self
    | over b =>
      obtain ⟨t, k1, k2⟩ := hb
      rw [rel_of (w := .over (a || b)) ⟨_, bn_trans h1 k1, by rw [hasB_app, h2, k2]⟩]
      exact List.mem_cons_self
    | apart =>
      obtain ⟨n1, n2, n3⟩ := hb
      rw [rel_of (w := .apart) ⟨fun e => n3 _ (e ▸ h1), fun t q => ?_, fun t q => n3 _ (bn_trans q h1)⟩]
      · exact List.mem_cons_self
      · rcases bn_two h1 q with ⟨e, _⟩ | ⟨u, e, _⟩ | ⟨u, e, _⟩
        · exact n1 e
        · exact n2 _ e
        · exact n3 _ e
    | under b =>
      obtain ⟨t, k1, k2⟩ := hb
      have f1 : ∀ {u}, Bn i k u → (hasB u || b) = a := fun {u} q => by
        have e := bn_uniq h1 (bn_trans q k1)
        rw [← h2, e, hasB_app, k2]
      have f2 : ∀ {u}, Bn k i u → (hasB u || a) = b := fun {u} q => by
        have e := bn_uniq k1 (bn_trans q h1)
        rw [← k2, e, hasB_app, h2]
      have f3 : i = k → a = b := fun e => by
        rw [← h2, ← k2, bn_uniq h1 (e ▸ k1)]
      cases ec : relWd i k with
      | same =>
        rw [ec] at hc
        have e := f3 hc
        subst e
        cases a <;> decide
      | over c =>
        rw [ec] at hc
        obtain ⟨u, q1, q2⟩ := hc
        have e := f1 q1
        rw [q2] at e
        revert e
        cases a <;> cases b <;> cases c <;> decide
      | under c =>
        rw [ec] at hc
        obtain ⟨u, q1, q2⟩ := hc
        have e := f2 q1
        rw [q2] at e
        revert e
        cases a <;> cases b <;> cases c <;> decide
      | apart => cases a <;> cases b <;> decide
  | under a =>
    obtain ⟨s, h1, h2⟩ := ha
    cases b with
    | same =>
      have e : j = k := hb
      rw [← e, ea]
      exact List.mem_cons_self
    | under b =>
      obtain ⟨t, k1, k2⟩ := hb
      rw [rel_of (w := .under (a || b)) ⟨_, bn_trans k1 h1, by rw [hasB_app, h2, k2, Bool.or_comm]⟩]
      exact List.mem_cons_self
    | apart =>
      obtain ⟨n1, n2, n3⟩ := hb
      cases ec : relWd i k with
      | same => rw [ec] at hc; exact (n2 _ ((show i = k from hc) ▸ h1)).elim
      | over c =>
        rw [ec] at hc
        obtain ⟨u, q1, q2⟩ := hc
        exact (n2 _ (bn_trans h1 q1)).elim
      | under c => cases a <;> cases c <;> decide
      | apart => cases a <;> decide
    | over b =>
      obtain ⟨t, k1, k2⟩ := hb
      rcases bn_two h1 k1 with ⟨e, e2⟩ | ⟨u, q, e2⟩ | ⟨u, q, e2⟩
      · rw [rel_of (w := .same) e]
        have e3 : a = b := by rw [← h2, ← k2, e2]
        subst e3
        cases a <;> decide
      · rw [rel_of (w := .over (hasB u)) ⟨u, q, rfl⟩]
        have e3 : (a || hasB u) = b := by rw [← k2, e2, hasB_app, h2]
        revert e3
        generalize hasB u = c
        cases a <;> cases b <;> cases c <;> decide
      · rw [rel_of (w := .under (hasB u)) ⟨u, q, rfl⟩]
        have e3 : (b || hasB u) = a := by rw [← h2, e2, hasB_app, k2]
        revert e3
        generalize hasB u = c
        cases a <;> cases b <;> cases c <;> decide
  | apart =>
    obtain ⟨n1, n2, n3⟩ := ha
    cases b with
    | same =>
      have e : j = k := hb
      rw [← e, ea]
      exact List.mem_cons_self
    | under b =>
      obtain ⟨t, k1, k2⟩ := hb
      rw [rel_of (w := .apart) ⟨fun e => n2 _ (e ▸ k1), fun u q => n2 _ (bn_trans q k1), fun u q => ?_⟩]
      · exact List.mem_cons_self
      · rcases bn_two k1 q with ⟨e, _⟩ | ⟨u, e, _⟩ | ⟨u, e, _⟩
        · exact n1 e.symm
        · exact n3 _ e
        · exact n2 _ e
    | over b =>
      obtain ⟨t, k1, k2⟩ := hb
      cases ec : relWd i k with
      | same => rw [ec] at hc; exact (n3 _ ((show i = k from hc) ▸ k1)).elim
      | under c =>
        rw [ec] at hc
        obtain ⟨u, q1, q2⟩ := hc
        exact (n3 _ (bn_trans k1 q1)).elim
      | over c => cases b <;> cases c <;> decide
      | apart => cases b <;> decide
    | apart => exact Wd.mem_all _
end DL

namespace DL
open PySem L2
local macro_rules | `(tactic| walk_at "dl") => `(tactic| try simp (config := { proj := false }) only [↓ex_mk, ↓nx_mk, ↓rt_mk, ↓bk_mk, ↓ct_mk, ↓xc_mk, ↓u_c, ↓u_op, ↓u_un, ↓u_and, ↓u_or, ↓u_not, ↓u_if, ↓u_anil, ↓u_acons, ↓u_lst, ↓u_lstM, ↓u_tup, ↓u_call, ↓u_sl, ↓u_onone, ↓u_cb, ↓u_mt, ↓u_mt0, ↓u_pass, ↓u_seq, ↓u_set, ↓u_asg, ↓u_drop, ↓u_ret, ↓u_retN, ↓u_ifs, ↓u_brk, ↓u_cnt, ↓u_for, ↓u_gname, ↓u_gsub, ↓u_fs, ↓u_fmt, ↓u_js0, ↓u_js, ↓u_em, ↓u_yes, ↓u_never, ↓u_dict, ↓u_dict0, ↓u_dp0, ↓u_dp1, ↓u_forK, ↓u_lock, ↓u_kd,
  ↓r_var, ↓r_test, ↓r_andV, ↓r_orV, ↓r_notV, ↓r_tru, ↓r_frz, ↓r_osome, ↓r_any, ↓r_rng1, ↓r_rng2, ↓r_fz, wipeD,
  onSome_s, onBl_b, onInt_i, onStr_s, onVar_s, onML_l, onML2_l, onML2_d, onDK_d, fmt_s, fmt_i, tru_n, tru_b, tru_i, tru_s, tru_l, tru_t, tru_r, frz_r, sl_s, sl_l, sl_t, sl_r, add_i, add_s, add_l, add_t, add_rl, add_lr, sub_i, mul_i, div_i, mod_i, pow_i, neg_i, cmp_i, eq_i, eq_s, eq_b, eq_n, eq_l, eq_t, eq_rl, eq_lr, eq_ni, eq_in, eq_ns, eq_sn, eq_nb, eq_bn, eq_is, eq_si,
  ix_l, ix_t, ix_s, ix_ri, ix_rs, in_ss, in_l, in_t, in_ir, in_sr, isn_n, isn_b, isn_i, isn_s, isn_r, isn_l, isn_t, len_s, len_l, len_t, len_r, int_i, int_b, min_ii, max_ii, list_l, list_t, list_r, list_c, listM_l, listM_t, listM_r, isi_, isi_k, ty_n, ty_b, ty_i, ty_s, ty_l, ty_t, it_s, it_l, it_r, itM_l, itM_d, app_r, rev_r, ends_s, ins_r, set_rs, onRef_r, onML3_l, onML3_d, onML3_f, onDR_d, onDR_f, onFK_f, join_l, join_t, join_r, starts_s, r_gtup, r_glst, r_gnil, r_gcons, set_r, items_s, items_l, items_t, rng1_i, rng2_i, fz_r,
  List.map_cons, List.map_nil, List.cons_append, List.nil_append, List.length_cons, List.length_nil, List.replicate, List.getElem?_cons_zero, List.getElem?_cons_succ, List.set_cons_zero, List.set_cons_succ, id, decide_eq_true_eq, if_true, if_false, Bool.false_eq_true, reduceIte, Bool.not_true, Bool.not_false, true_and, Nat.reduceAdd, Nat.reduceSub, Int.reduceToNat, Int.toNat_natCast, put_same, put_put, atI_0, atI_1, atI_2, atI_3, atI_4, ixN_40, ixN_41, ixN_42, ixN_43])
theorem n_same_over : (T "same" = T "over") = False := eq_false (by decide +kernel)
theorem n_same_under : (T "same" = T "under") = False := eq_false (by decide +kernel)
theorem n_same_apart : (T "same" = T "apart") = False := eq_false (by decide +kernel)
theorem n_same_overbox : (T "same" = T "overbox") = False := eq_false (by decide +kernel)
theorem n_same_underbox : (T "same" = T "underbox") = False := eq_false (by decide +kernel)
theorem n_over_same : (T "over" = T "same") = False := eq_false (by decide +kernel)
theorem n_over_under : (T "over" = T "under") = False := eq_false (by decide +kernel)
theorem n_over_apart : (T "over" = T "apart") = False := eq_false (by decide +kernel)
theorem n_over_overbox : (T "over" = T "overbox") = False := eq_false (by decide +kernel)
theorem n_over_underbox : (T "over" = T "underbox") = False := eq_false (by decide +kernel)
theorem n_under_same : (T "under" = T "same") = False := eq_false (by decide +kernel)
theorem n_under_over : (T "under" = T "over") = False := eq_false (by decide +kernel)
theorem n_under_apart : (T "under" = T "apart") = False := eq_false (by decide +kernel)
theorem n_under_overbox : (T "under" = T "overbox") = False := eq_false (by decide +kernel)
theorem n_under_underbox : (T "under" = T "underbox") = False := eq_false (by decide +kernel)
theorem n_apart_same : (T "apart" = T "same") = False := eq_false (by decide +kernel)
theorem n_apart_over : (T "apart" = T "over") = False := eq_false (by decide +kernel)
theorem n_apart_under : (T "apart" = T "under") = False := eq_false (by decide +kernel)
theorem n_apart_overbox : (T "apart" = T "overbox") = False := eq_false (by decide +kernel)
theorem n_apart_underbox : (T "apart" = T "underbox") = False := eq_false (by decide +kernel)
theorem n_overbox_same : (T "overbox" = T "same") = False := eq_false (by decide +kernel)
theorem n_overbox_over : (T "overbox" = T "over") = False := eq_false (by decide +kernel)
theorem n_overbox_under : (T "overbox" = T "under") = False := eq_false (by decide +kernel)
theorem n_overbox_apart : (T "overbox" = T "apart") = False := eq_false (by decide +kernel)
theorem n_overbox_underbox : (T "overbox" = T "underbox") = False := eq_false (by decide +kernel)
theorem n_underbox_same : (T "underbox" = T "same") = False := eq_false (by decide +kernel)
theorem n_underbox_over : (T "underbox" = T "over") = False := eq_false (by decide +kernel)
theorem n_underbox_under : (T "underbox" = T "under") = False := eq_false (by decide +kernel)
theorem n_underbox_apart : (T "underbox" = T "apart") = False := eq_false (by decide +kernel)
theorem n_underbox_overbox : (T "underbox" = T "overbox") = False := eq_false (by decide +kernel)
def Wd.side : Wd → Wd
  | .over _ => .over false
  | .under _ => .under false
  | w => w
def Wd.box : Wd → Bool
  | .over b => b
  | .under b => b
  | _ => false
def t_INVERSES : List (Tx × Tx) := ([("same", "same"), ("over", "under"), ("overbox", "underbox"), ("under", "over"), ("underbox", "overbox"), ("apart", "apart")] : List (Str × Str)).map fun q => (T q.1, T q.2)
def sp_inverse : DSp := fun ds M Q _ => ∃ w : Wd, ds = [.str w.t] ∧ Q (.str w.inv.t) M
def sp_l_side : DSp := fun ds M Q _ => ∃ w : Wd, ds = [.str w.t] ∧ Q (.str w.side.t) M
def sp_l_crossed : DSp := fun ds M Q _ => ∃ x b, ds = [.str x, .bl b] ∧ x.length ≤ 100 ∧ Q (.str (if b then x ++ T "box" else x)) M
def sp_l_down : DSp := fun ds M Q _ => ∃ t, ds = [.str t] ∧ Q (.str (if t = [] then T "same" else T "under" ++ thr t)) M
def wts (l : List Wd) : List D := l.map fun w => .str w.t
def sp_l_fits : DSp := fun ds M Q _ => ∃ a b : Wd, ds = [.str a.t, .str b.t] ∧ Q (.lst (wts (fitsW a b))) M
def w_inverse : DTS := dRet (dKd t_INVERSES (dVar 0))
def w_l_side : DTS := dSeq (dIfS (dTest (dOp gIn (dVar 0) (dLst (daCons (dC (.str (T "overbox"))) (daCons (dC (.str (T "underbox"))) (daNil)))))) (dRet (dSl (dVar 0) (doNone) (doSome (dUn gNeg (dC (.int 3)))))) (dPass)) (dRet (dVar 0))
def w_l_crossed : DTS := dSeq (dIfS (dTru (dVar 1)) (dRet (dOp gAdd (dVar 0) (dC (.str (T "box"))))) (dPass)) (dRet (dVar 0))
def w_l_down : DTS := dSeq (dIfS (dTest (dOp gEq (dVar 0) (dC (.str [])))) (dRet (dC (.str (T "same")))) (dPass)) (dRet (dCall sp_l_crossed (daCons (dC (.str (T "under"))) (daCons (dOp gIn (dC (.str [94])) (dVar 0)) (daNil)))))
def w_l_fits_c1 : DTS := dRet (dOp gAdd (dLst (daCons (dVar 6) (daNil))) (dSl (dVar 5) (doSome (dC (.int 5))) (doNone)))
def w_l_fits_c2 : DTS := dSeq (dIfS (dTest (dOp gEq (dVar 4) (dLst (daCons (dC (.bl false)) (daCons (dC (.bl false)) (daNil)))))) (dRet (dFrz (dLcM (diAny (dVar 5)) (dgName 6) (dNot (dTru (dMt "str" gEnds (dVar 6) (daCons (dC (.str (T "box"))) (daNil))))) [6] [] (dVar 6)))) (dPass)) (dSeq (dSet 6 (dC (.str (T "underbox")))) (dSeq (dIfS (dTest (dOp gEq (dOp gIx (dVar 4) (dC (.int 0))) (dOp gEq (dVar 2) (dC (.str (T "over")))))) (dSet 6 (dC (.str (T "overbox")))) (dPass)) (w_l_fits_c1)))
def w_l_fits_c3 : DTS := dSeq (dIfS (dOr (dTest (dOp gEq (dVar 2) (dVar 3))) (dTest (dOp gEq (dVar 4) (dLst (daCons (dC (.bl true)) (daCons (dC (.bl true)) (daNil))))))) (dRet (dVar 5)) (dPass)) (w_l_fits_c2)
def w_l_fits_c4 : DTS := dSeq (dSet 5 (dLst (daCons (dC (.str (T "same"))) (daCons (dC (.str (T "over"))) (daCons (dC (.str (T "overbox"))) (daCons (dC (.str (T "under"))) (daCons (dC (.str (T "underbox"))) (daNil)))))))) (dSeq (dIfS (dOr (dTest (dOp gEq (dVar 2) (dVar 3))) (dTest (dOp gEq (dVar 2) (dC (.str (T "over")))))) (dSet 5 (dOp gAdd (dVar 5) (dLst (daCons (dC (.str (T "apart"))) (daNil))))) (dPass)) (w_l_fits_c3))
def w_l_fits_c5 : DTS := dSeq (dIfS (dAnd (dTest (dOp gEq (dVar 2) (dC (.str (T "apart"))))) (dTest (dOp gEq (dVar 3) (dC (.str (T "over")))))) (dRet (dLst (daCons (dC (.str (T "over"))) (daCons (dC (.str (T "overbox"))) (daCons (dC (.str (T "apart"))) (daNil)))))) (dPass)) (w_l_fits_c4)
def w_l_fits_c6 : DTS := dSeq (dIfS (dAnd (dTest (dOp gEq (dVar 2) (dC (.str (T "under"))))) (dTest (dOp gEq (dVar 3) (dC (.str (T "apart")))))) (dRet (dLst (daCons (dC (.str (T "under"))) (daCons (dC (.str (T "underbox"))) (daCons (dC (.str (T "apart"))) (daNil)))))) (dPass)) (w_l_fits_c5)
def w_l_fits_c7 : DTS := dSeq (dIfS (dOr (dAnd (dTest (dOp gEq (dVar 2) (dC (.str (T "over"))))) (dTest (dOp gEq (dVar 3) (dC (.str (T "apart")))))) (dAnd (dTest (dOp gEq (dVar 2) (dC (.str (T "apart"))))) (dTest (dOp gEq (dVar 3) (dC (.str (T "under"))))))) (dRet (dLst (daCons (dC (.str (T "apart"))) (daNil)))) (dPass)) (w_l_fits_c6)
def w_l_fits : DTS := dSeq (dSet 2 (dCall sp_l_side (daCons (dVar 0) (daNil)))) (dSeq (dSet 3 (dCall sp_l_side (daCons (dVar 1) (daNil)))) (dSeq (dSet 4 (dLst (daCons (dOp gNe (dVar 0) (dVar 2)) (daCons (dOp gNe (dVar 1) (dVar 3)) (daNil))))) (dSeq (dIfS (dTest (dOp gEq (dVar 2) (dC (.str (T "same"))))) (dRet (dLst (daCons (dVar 1) (daNil)))) (dPass)) (dSeq (dIfS (dTest (dOp gEq (dVar 3) (dC (.str (T "same"))))) (dRet (dLst (daCons (dVar 0) (daNil)))) (dPass)) (dSeq (dIfS (dAnd (dTest (dOp gEq (dVar 2) (dVar 3))) (dTest (dOp gNe (dVar 2) (dC (.str (T "apart")))))) (dRet (dLst (daCons (dCall sp_l_crossed (daCons (dVar 2) (daCons (dOrV (dOp gIx (dVar 4) (dC (.int 0))) (dOp gIx (dVar 4) (dC (.int 1)))) (daNil)))) (daNil)))) (dPass)) (w_l_fits_c7))))))
theorem inv_look (w : Wd) : t_INVERSES.lookup w.t = some w.inv.t := by
  have q : (Wd.all.all fun w => decide (t_INVERSES.lookup w.t = some w.inv.t)) = true := by decide +kernel
  exact of_decide_eq_true (List.all_eq_true.mp q w w.mem_all)
theorem p_inverse : ∀ ds M Q E, sp_inverse ds M Q E → w_inverse (Ret Q E) (ds.map some ++ List.replicate (1 - 1) none) M := by
  rintro ds M Q E ⟨w, rfl, hQ⟩
  unfold w_inverse
  walk_at "dl"
  try simp only [inv_look]
  walk_at "dl"
  try simp only [inv_look]
  walk_at "dl"
  exact hQ
theorem wd_len (w : Wd) : w.t.length ≤ 8 := by
  have q : (Wd.all.all fun w => decide (w.t.length ≤ 8)) = true := by decide +kernel
  exact of_decide_eq_true (List.all_eq_true.mp q w w.mem_all)
theorem in_boxes (w : Wd) : inD (.str w.t) [.str (T "overbox"), .str (T "underbox")] = w.box := by
  have q : (Wd.all.all fun w => decide (inD (.str w.t) [.str (T "overbox"), .str (T "underbox")] = w.box)) = true := by decide +kernel
  exact of_decide_eq_true (List.all_eq_true.mp q w w.mem_all)
theorem cut_side (w : Wd) (h : w.box = true) : cut w.t none (some (-3)) = w.side.t := by
  have q : (Wd.all.all fun w => decide (w.box = true → cut w.t none (some (-3)) = w.side.t)) = true := by decide +kernel
  exact of_decide_eq_true (List.all_eq_true.mp q w w.mem_all) h
theorem side_no (w : Wd) (h : w.box = false) : w.t = w.side.t := by
  have q : (Wd.all.all fun w => decide (w.box = false → w.t = w.side.t)) = true := by decide +kernel
  exact of_decide_eq_true (List.all_eq_true.mp q w w.mem_all) h
theorem p_l_side : ∀ ds M Q E, sp_l_side ds M Q E → w_l_side (Ret Q E) (ds.map some ++ List.replicate (1 - 1) none) M := by
  rintro ds M Q E ⟨w, rfl, hQ⟩
  have l := wd_len w
  unfold w_l_side
  walk_at "dl"
  refine ⟨by decide, rfl, rfl, ?_⟩
  rw [in_boxes]
  cases e : w.box with
  | true =>
    walk_at "dl"
    refine ⟨by omega, ?_⟩
    rw [cut_side w e]
    exact hQ
  | false =>
    walk_at "dl"
    rw [side_no w e]
    exact hQ
theorem p_l_crossed : ∀ ds M Q E, sp_l_crossed ds M Q E → w_l_crossed (Ret Q E) (ds.map some ++ List.replicate (2 - 2) none) M := by
  rintro ds M Q E ⟨x, b, rfl, hl, hQ⟩
  unfold w_l_crossed
  walk_at "dl"
  cases b with
  | true =>
    walk_at "dl"
    exact ⟨by rw [T_box]; omega, hQ⟩
  | false =>
    walk_at "dl"
    exact hQ
theorem p_l_down : ∀ ds M Q E, sp_l_down ds M Q E → w_l_down (Ret Q E) (ds.map some ++ List.replicate (1 - 1) none) M := by
  rintro ds M Q E ⟨t, rfl, hQ⟩
  unfold w_l_down
  walk_at "dl"
  by_cases e : t = []
  · rw [if_pos e]
    rw [if_pos e] at hQ
    exact hQ
  · rw [if_neg e]
    rw [if_neg e] at hQ
    refine ⟨_, _, rfl, by rw [T_under]; decide, ?_⟩
    unfold thr at hQ
    by_cases m : 94 ∈ t
    · rw [if_pos m] at hQ
      rw [decide_eq_true m]
      exact hQ
    · rw [if_neg m, List.append_nil] at hQ
      rw [decide_eq_false m]
      exact hQ
theorem ne_side (w : Wd) : (!decide (w.t = w.side.t)) = w.box := by
  have q : (Wd.all.all fun w => decide ((!decide (w.t = w.side.t)) = w.box)) = true := by decide +kernel
  exact of_decide_eq_true (List.all_eq_true.mp q w w.mem_all)
theorem t_same : Wd.same.t = T "same" := rfl
theorem t_apart : Wd.apart.t = T "apart" := rfl
theorem t_over : (Wd.over false).t = T "over" := rfl
theorem t_under : (Wd.under false).t = T "under" := rfl
theorem s_same : Wd.same.side = .same := rfl
theorem s_apart : Wd.apart.side = .apart := rfl
theorem s_over {b : Bool} : (Wd.over b).side = .over false := rfl
theorem s_under {b : Bool} : (Wd.under b).side = .under false := rfl
theorem cross_over (b : Bool) : (if b = true then T "over" ++ T "box" else T "over") = (Wd.over b).t := by cases b <;> decide +kernel
theorem cross_under (b : Bool) : (if b = true then T "under" ++ T "box" else T "under") = (Wd.under b).t := by cases b <;> decide +kernel
theorem b_same : Wd.same.box = false := rfl
theorem b_apart : Wd.apart.box = false := rfl
theorem b_over {b : Bool} : (Wd.over b).box = b := rfl
theorem b_under {b : Bool} : (Wd.under b).box = b := rfl
theorem decide_F {h : Decidable False} : @decide False h = false := decide_eq_false id
theorem decide_T {h : Decidable True} : @decide True h = true := decide_eq_true trivial
theorem eqv_b2 (x y a b : Bool) : PyData.eqv (.list (pds [.bl x, .bl y])) (.list (pds [.bl a, .bl b])) = (x == a && y == b) := by
  cases x <;> cases y <;> cases a <;> cases b <;> decide +kernel
theorem eqOk_b2 (x y : Bool) : eqOk (.lst [.bl x, .bl y]) = true := by cases x <;> cases y <;> decide +kernel
def rowsW (ap : List Wd) : List Wd := [.same, .over false, .over true, .under false, .under true] ++ ap
def mixW (ov x y : Bool) (ap : List Wd) : List Wd := if x && y then rowsW ap else if !x && !y then [.same, .over false, .under false] ++ ap else (if x == ov then .over true else .under true) :: ap
theorem fits_c1 {x0 x1 x2 x3 x4 : Option D} {w : Wd} {ap : List Wd} {M : Mu} {Q : DK} {E : DX} (hap : ap = [] ∨ ap = [.apart]) (hQ : Q (.lst (wts (w :: ap))) M) :
    w_l_fits_c1 (Ret Q E) [x0, x1, x2, x3, x4, some (.lst (wts (rowsW ap))), some (.str w.t)] M := by
  unfold w_l_fits_c1
  walk_at "dl"
  have e : cut (wts (rowsW ap)) (some 5) none = wts ap := by
    rw [cut_from (by decide)]
    rcases hap with rfl | rfl <;> rfl
  try simp only [e]
  walk_at "dl"
  try simp only [e]
  walk_at "dl"
  refine ⟨by decide, ?_, hQ⟩
  rcases hap with rfl | rfl <;> decide
theorem fits_c2 {x0 x1 x3 x6 : Option D} {o : Tx} {ov x y : Bool} {ap : List Wd} {M : Mu} {Q : DK} {E : DX} (ho : decide (o = T "over") = ov) (hap : ap = [] ∨ ap = [.apart]) (hn : (x && y) = false) (hQ : Q (.lst (wts (mixW ov x y ap))) M) :
    w_l_fits_c2 (Ret Q E) [x0, x1, some (.str o), x3, some (.lst [.bl x, .bl y]), some (.lst (wts (rowsW ap))), x6] M := by
  unfold w_l_fits_c2
  walk_at "dl"
  refine ⟨by decide, eqOk_b2 _ _, eqOk_b2 _ _, ?_⟩
  rw [eqv_b2]
  have hm : (x == false && y == false) = (!x && !y) := by cases x <;> cases y <;> rfl
  rw [hm]
  cases hb : (!x && !y) with
  | true =>
    try simp only [dLcM]
    walk_at "dl"
    try simp only [dLcM]
    walk_at "dl"
    intro p hp
    refine lc_pure (f := id) (g := fun d => match d with
      | .str w => !(T "box").isSuffixOf w
      | _ => false) ?_ ?_ ?_ ?_
    · rcases hap with rfl | rfl <;> decide
    · intro d hd acc N h
      obtain ⟨w, hw, rfl⟩ := List.mem_map.mp hd
      walk_at "dl"
      exact h
    · intro d hd _ acc N h
      walk_at "dl"
      exact h
    · try simp only [put_same, del_put_new hp]
      walk_at "dl"
      try simp only [put_same, del_put_new hp]
      walk_at "dl"
      have e : ((wts (rowsW ap)).filter fun d => match d with
        | .str w => !(T "box").isSuffixOf w
        | _ => false).map id = wts ([.same, .over false, .under false] ++ ap) := by
        rcases hap with rfl | rfl <;> kernel_rfl
      rw [e]
      unfold mixW at hQ
      rw [hn, hb] at hQ
      exact hQ
  | false =>
    walk_at "dl"
    try simp only [atI_0]
    walk_at "dl"
    try simp only [atI_0]
    walk_at "dl"
    rw [ho]
    unfold mixW at hQ
    rw [hn, hb] at hQ
    by_cases e : x = ov
    · rw [if_pos e]
      have e2 : (x == ov) = true := by rw [e]; cases ov <;> rfl
      rw [e2] at hQ
      exact fits_c1 (w := .over true) hap hQ
    · rw [if_neg e]
      have e2 : (x == ov) = false := by cases x <;> cases ov <;> first | rfl | exact absurd rfl e
      rw [e2] at hQ
      exact fits_c1 (w := .under true) hap hQ
theorem fits_c3 {x0 x1 x6 : Option D} {o t : Tx} {ov x y : Bool} {ap : List Wd} {M : Mu} {Q : DK} {E : DX} (hot : ¬ o = t) (ho : decide (o = T "over") = ov) (hap : ap = [] ∨ ap = [.apart]) (hQ : Q (.lst (wts (mixW ov x y ap))) M) :
    w_l_fits_c3 (Ret Q E) [x0, x1, some (.str o), some (.str t), some (.lst [.bl x, .bl y]), some (.lst (wts (rowsW ap))), x6] M := by
  unfold w_l_fits_c3
  walk_at "dl"
  rw [if_neg hot]
  refine ⟨by decide, eqOk_b2 _ _, eqOk_b2 _ _, ?_⟩
  rw [eqv_b2]
  have hm : (x == true && y == true) = (x && y) := by cases x <;> cases y <;> rfl
  rw [hm]
  cases hb : (x && y) with
  | true =>
    walk_at "dl"
    unfold mixW at hQ
    rw [hb] at hQ
    exact hQ
  | false =>
    walk_at "dl"
    exact fits_c2 ho hap hb hQ
theorem p_l_fits : ∀ ds M Q E, sp_l_fits ds M Q E → w_l_fits (Ret Q E) (ds.map some ++ List.replicate (7 - 2) none) M := by
  rintro ds M Q E ⟨a, b, rfl, hQ⟩
  unfold w_l_fits
  walk_at "dl"
  refine ⟨a, rfl, ?_⟩
  walk_at "dl"
  refine ⟨b, rfl, ?_⟩
  walk_at "dl"
  refine ⟨by decide, ?_⟩
  rw [ne_side, ne_side]
  cases a with
  | same =>
    try simp only [s_same, t_same, s_over, t_over, s_under, t_under, s_apart, t_apart, b_over, b_under, b_same, b_apart, decide_F, decide_T, n_same_over, n_same_under, n_same_apart, n_same_overbox, n_same_underbox, n_over_same, n_over_under, n_over_apart, n_over_overbox, n_over_underbox, n_under_same, n_under_over, n_under_apart, n_under_overbox, n_under_underbox, n_apart_same, n_apart_over, n_apart_under, n_apart_overbox, n_apart_underbox, n_overbox_same, n_overbox_over, n_overbox_under, n_overbox_apart, n_overbox_underbox, n_underbox_same, n_underbox_over, n_underbox_under, n_underbox_apart, n_underbox_overbox]
    walk_at "dl"
    try simp only [s_same, t_same, s_over, t_over, s_under, t_under, s_apart, t_apart, b_over, b_under, b_same, b_apart, decide_F, decide_T, n_same_over, n_same_under, n_same_apart, n_same_overbox, n_same_underbox, n_over_same, n_over_under, n_over_apart, n_over_overbox, n_over_underbox, n_under_same, n_under_over, n_under_apart, n_under_overbox, n_under_underbox, n_apart_same, n_apart_over, n_apart_under, n_apart_overbox, n_apart_underbox, n_overbox_same, n_overbox_over, n_overbox_under, n_overbox_apart, n_overbox_underbox, n_underbox_same, n_underbox_over, n_underbox_under, n_underbox_apart, n_underbox_overbox]
    walk_at "dl"
    exact ⟨by decide, hQ⟩
  | over x =>
    cases b with
    | same =>
      try simp only [s_same, t_same, s_over, t_over, s_under, t_under, s_apart, t_apart, b_over, b_under, b_same, b_apart, decide_F, decide_T, n_same_over, n_same_under, n_same_apart, n_same_overbox, n_same_underbox, n_over_same, n_over_under, n_over_apart, n_over_overbox, n_over_underbox, n_under_same, n_under_over, n_under_apart, n_under_overbox, n_under_underbox, n_apart_same, n_apart_over, n_apart_under, n_apart_overbox, n_apart_underbox, n_overbox_same, n_overbox_over, n_overbox_under, n_overbox_apart, n_overbox_underbox, n_underbox_same, n_underbox_over, n_underbox_under, n_underbox_apart, n_underbox_overbox]
      walk_at "dl"
      try simp only [s_same, t_same, s_over, t_over, s_under, t_under, s_apart, t_apart, b_over, b_under, b_same, b_apart, decide_F, decide_T, n_same_over, n_same_under, n_same_apart, n_same_overbox, n_same_underbox, n_over_same, n_over_under, n_over_apart, n_over_overbox, n_over_underbox, n_under_same, n_under_over, n_under_apart, n_under_overbox, n_under_underbox, n_apart_same, n_apart_over, n_apart_under, n_apart_overbox, n_apart_underbox, n_overbox_same, n_overbox_over, n_overbox_under, n_overbox_apart, n_overbox_underbox, n_underbox_same, n_underbox_over, n_underbox_under, n_underbox_apart, n_underbox_overbox]
      walk_at "dl"
      exact ⟨by decide, hQ⟩
    | over y =>
      try simp only [s_same, t_same, s_over, t_over, s_under, t_under, s_apart, t_apart, b_over, b_under, b_same, b_apart, decide_F, decide_T, n_same_over, n_same_under, n_same_apart, n_same_overbox, n_same_underbox, n_over_same, n_over_under, n_over_apart, n_over_overbox, n_over_underbox, n_under_same, n_under_over, n_under_apart, n_under_overbox, n_under_underbox, n_apart_same, n_apart_over, n_apart_under, n_apart_overbox, n_apart_underbox, n_overbox_same, n_overbox_over, n_overbox_under, n_overbox_apart, n_overbox_underbox, n_underbox_same, n_underbox_over, n_underbox_under, n_underbox_apart, n_underbox_overbox]
      walk_at "dl"
      try simp only [s_same, t_same, s_over, t_over, s_under, t_under, s_apart, t_apart, b_over, b_under, b_same, b_apart, decide_F, decide_T, n_same_over, n_same_under, n_same_apart, n_same_overbox, n_same_underbox, n_over_same, n_over_under, n_over_apart, n_over_overbox, n_over_underbox, n_under_same, n_under_over, n_under_apart, n_under_overbox, n_under_underbox, n_apart_same, n_apart_over, n_apart_under, n_apart_overbox, n_apart_underbox, n_overbox_same, n_overbox_over, n_overbox_under, n_overbox_apart, n_overbox_underbox, n_underbox_same, n_underbox_over, n_underbox_under, n_underbox_apart, n_underbox_overbox]
      walk_at "dl"
      cases x with
      | true =>
        walk_at "dl"
        refine ⟨_, _, rfl, by rw [T_over]; decide, ?_⟩
        walk_at "dl"
        rw [show T "over" ++ T "box" = (Wd.over true).t by decide +kernel]
        exact ⟨by decide, hQ⟩
      | false =>
        walk_at "dl"
        refine ⟨_, _, rfl, by rw [T_over]; decide, ?_⟩
        rw [cross_over]
        walk_at "dl"
        exact ⟨by decide, hQ⟩
    | apart =>
      try simp only [s_same, t_same, s_over, t_over, s_under, t_under, s_apart, t_apart, b_over, b_under, b_same, b_apart, decide_F, decide_T, n_same_over, n_same_under, n_same_apart, n_same_overbox, n_same_underbox, n_over_same, n_over_under, n_over_apart, n_over_overbox, n_over_underbox, n_under_same, n_under_over, n_under_apart, n_under_overbox, n_under_underbox, n_apart_same, n_apart_over, n_apart_under, n_apart_overbox, n_apart_underbox, n_overbox_same, n_overbox_over, n_overbox_under, n_overbox_apart, n_overbox_underbox, n_underbox_same, n_underbox_over, n_underbox_under, n_underbox_apart, n_underbox_overbox]
      walk_at "dl"
      try simp only [s_same, t_same, s_over, t_over, s_under, t_under, s_apart, t_apart, b_over, b_under, b_same, b_apart, decide_F, decide_T, n_same_over, n_same_under, n_same_apart, n_same_overbox, n_same_underbox, n_over_same, n_over_under, n_over_apart, n_over_overbox, n_over_underbox, n_under_same, n_under_over, n_under_apart, n_under_overbox, n_under_underbox, n_apart_same, n_apart_over, n_apart_under, n_apart_overbox, n_apart_underbox, n_overbox_same, n_overbox_over, n_overbox_under, n_overbox_apart, n_overbox_underbox, n_underbox_same, n_underbox_over, n_underbox_under, n_underbox_apart, n_underbox_overbox]
      walk_at "dl"
      unfold w_l_fits_c7
      walk_at "dl"
      try simp only [s_same, t_same, s_over, t_over, s_under, t_under, s_apart, t_apart, b_over, b_under, b_same, b_apart, decide_F, decide_T, n_same_over, n_same_under, n_same_apart, n_same_overbox, n_same_underbox, n_over_same, n_over_under, n_over_apart, n_over_overbox, n_over_underbox, n_under_same, n_under_over, n_under_apart, n_under_overbox, n_under_underbox, n_apart_same, n_apart_over, n_apart_under, n_apart_overbox, n_apart_underbox, n_overbox_same, n_overbox_over, n_overbox_under, n_overbox_apart, n_overbox_underbox, n_underbox_same, n_underbox_over, n_underbox_under, n_underbox_apart, n_underbox_overbox]
      walk_at "dl"
      try simp only [s_same, t_same, s_over, t_over, s_under, t_under, s_apart, t_apart, b_over, b_under, b_same, b_apart, decide_F, decide_T, n_same_over, n_same_under, n_same_apart, n_same_overbox, n_same_underbox, n_over_same, n_over_under, n_over_apart, n_over_overbox, n_over_underbox, n_under_same, n_under_over, n_under_apart, n_under_overbox, n_under_underbox, n_apart_same, n_apart_over, n_apart_under, n_apart_overbox, n_apart_underbox, n_overbox_same, n_overbox_over, n_overbox_under, n_overbox_apart, n_overbox_underbox, n_underbox_same, n_underbox_over, n_underbox_under, n_underbox_apart, n_underbox_overbox]
      walk_at "dl"
      exact ⟨by decide, hQ⟩
    | under y =>
      try simp only [s_same, t_same, s_over, t_over, s_under, t_under, s_apart, t_apart, b_over, b_under, b_same, b_apart, decide_F, decide_T, n_same_over, n_same_under, n_same_apart, n_same_overbox, n_same_underbox, n_over_same, n_over_under, n_over_apart, n_over_overbox, n_over_underbox, n_under_same, n_under_over, n_under_apart, n_under_overbox, n_under_underbox, n_apart_same, n_apart_over, n_apart_under, n_apart_overbox, n_apart_underbox, n_overbox_same, n_overbox_over, n_overbox_under, n_overbox_apart, n_overbox_underbox, n_underbox_same, n_underbox_over, n_underbox_under, n_underbox_apart, n_underbox_overbox]
      walk_at "dl"
      try simp only [s_same, t_same, s_over, t_over, s_under, t_under, s_apart, t_apart, b_over, b_under, b_same, b_apart, decide_F, decide_T, n_same_over, n_same_under, n_same_apart, n_same_overbox, n_same_underbox, n_over_same, n_over_under, n_over_apart, n_over_overbox, n_over_underbox, n_under_same, n_under_over, n_under_apart, n_under_overbox, n_under_underbox, n_apart_same, n_apart_over, n_apart_under, n_apart_overbox, n_apart_underbox, n_overbox_same, n_overbox_over, n_overbox_under, n_overbox_apart, n_overbox_underbox, n_underbox_same, n_underbox_over, n_underbox_under, n_underbox_apart, n_underbox_overbox]
      walk_at "dl"
      unfold w_l_fits_c7
      walk_at "dl"
      try simp only [s_same, t_same, s_over, t_over, s_under, t_under, s_apart, t_apart, b_over, b_under, b_same, b_apart, decide_F, decide_T, n_same_over, n_same_under, n_same_apart, n_same_overbox, n_same_underbox, n_over_same, n_over_under, n_over_apart, n_over_overbox, n_over_underbox, n_under_same, n_under_over, n_under_apart, n_under_overbox, n_under_underbox, n_apart_same, n_apart_over, n_apart_under, n_apart_overbox, n_apart_underbox, n_overbox_same, n_overbox_over, n_overbox_under, n_overbox_apart, n_overbox_underbox, n_underbox_same, n_underbox_over, n_underbox_under, n_underbox_apart, n_underbox_overbox]
      walk_at "dl"
      try simp only [s_same, t_same, s_over, t_over, s_under, t_under, s_apart, t_apart, b_over, b_under, b_same, b_apart, decide_F, decide_T, n_same_over, n_same_under, n_same_apart, n_same_overbox, n_same_underbox, n_over_same, n_over_under, n_over_apart, n_over_overbox, n_over_underbox, n_under_same, n_under_over, n_under_apart, n_under_overbox, n_under_underbox, n_apart_same, n_apart_over, n_apart_under, n_apart_overbox, n_apart_underbox, n_overbox_same, n_overbox_over, n_overbox_under, n_overbox_apart, n_overbox_underbox, n_underbox_same, n_underbox_over, n_underbox_under, n_underbox_apart, n_underbox_overbox]
      walk_at "dl"
      unfold w_l_fits_c6
      walk_at "dl"
      try simp only [s_same, t_same, s_over, t_over, s_under, t_under, s_apart, t_apart, b_over, b_under, b_same, b_apart, decide_F, decide_T, n_same_over, n_same_under, n_same_apart, n_same_overbox, n_same_underbox, n_over_same, n_over_under, n_over_apart, n_over_overbox, n_over_underbox, n_under_same, n_under_over, n_under_apart, n_under_overbox, n_under_underbox, n_apart_same, n_apart_over, n_apart_under, n_apart_overbox, n_apart_underbox, n_overbox_same, n_overbox_over, n_overbox_under, n_overbox_apart, n_overbox_underbox, n_underbox_same, n_underbox_over, n_underbox_under, n_underbox_apart, n_underbox_overbox]
      walk_at "dl"
      try simp only [s_same, t_same, s_over, t_over, s_under, t_under, s_apart, t_apart, b_over, b_under, b_same, b_apart, decide_F, decide_T, n_same_over, n_same_under, n_same_apart, n_same_overbox, n_same_underbox, n_over_same, n_over_under, n_over_apart, n_over_overbox, n_over_underbox, n_under_same, n_under_over, n_under_apart, n_under_overbox, n_under_underbox, n_apart_same, n_apart_over, n_apart_under, n_apart_overbox, n_apart_underbox, n_overbox_same, n_overbox_over, n_overbox_under, n_overbox_apart, n_overbox_underbox, n_underbox_same, n_underbox_over, n_underbox_under, n_underbox_apart, n_underbox_overbox]
      walk_at "dl"
      unfold w_l_fits_c5
      walk_at "dl"
      try simp only [s_same, t_same, s_over, t_over, s_under, t_under, s_apart, t_apart, b_over, b_under, b_same, b_apart, decide_F, decide_T, n_same_over, n_same_under, n_same_apart, n_same_overbox, n_same_underbox, n_over_same, n_over_under, n_over_apart, n_over_overbox, n_over_underbox, n_under_same, n_under_over, n_under_apart, n_under_overbox, n_under_underbox, n_apart_same, n_apart_over, n_apart_under, n_apart_overbox, n_apart_underbox, n_overbox_same, n_overbox_over, n_overbox_under, n_overbox_apart, n_overbox_underbox, n_underbox_same, n_underbox_over, n_underbox_under, n_underbox_apart, n_underbox_overbox]
      walk_at "dl"
      try simp only [s_same, t_same, s_over, t_over, s_under, t_under, s_apart, t_apart, b_over, b_under, b_same, b_apart, decide_F, decide_T, n_same_over, n_same_under, n_same_apart, n_same_overbox, n_same_underbox, n_over_same, n_over_under, n_over_apart, n_over_overbox, n_over_underbox, n_under_same, n_under_over, n_under_apart, n_under_overbox, n_under_underbox, n_apart_same, n_apart_over, n_apart_under, n_apart_overbox, n_apart_underbox, n_overbox_same, n_overbox_over, n_overbox_under, n_overbox_apart, n_overbox_underbox, n_underbox_same, n_underbox_over, n_underbox_under, n_underbox_apart, n_underbox_overbox]
      walk_at "dl"
      unfold w_l_fits_c4
      walk_at "dl"
      try simp only [s_same, t_same, s_over, t_over, s_under, t_under, s_apart, t_apart, b_over, b_under, b_same, b_apart, decide_F, decide_T, n_same_over, n_same_under, n_same_apart, n_same_overbox, n_same_underbox, n_over_same, n_over_under, n_over_apart, n_over_overbox, n_over_underbox, n_under_same, n_under_over, n_under_apart, n_under_overbox, n_under_underbox, n_apart_same, n_apart_over, n_apart_under, n_apart_overbox, n_apart_underbox, n_overbox_same, n_overbox_over, n_overbox_under, n_overbox_apart, n_overbox_underbox, n_underbox_same, n_underbox_over, n_underbox_under, n_underbox_apart, n_underbox_overbox]
      walk_at "dl"
      try simp only [s_same, t_same, s_over, t_over, s_under, t_under, s_apart, t_apart, b_over, b_under, b_same, b_apart, decide_F, decide_T, n_same_over, n_same_under, n_same_apart, n_same_overbox, n_same_underbox, n_over_same, n_over_under, n_over_apart, n_over_overbox, n_over_underbox, n_under_same, n_under_over, n_under_apart, n_under_overbox, n_under_underbox, n_apart_same, n_apart_over, n_apart_under, n_apart_overbox, n_apart_underbox, n_overbox_same, n_overbox_over, n_overbox_under, n_overbox_apart, n_overbox_underbox, n_underbox_same, n_underbox_over, n_underbox_under, n_underbox_apart, n_underbox_overbox]
      walk_at "dl"
      refine ⟨by decide, by decide, by decide, ?_⟩
      refine fits_c3 (ap := [.apart]) (ov := true) (fun e => by rw [n_over_under] at e; exact e) (decide_eq_true rfl) (.inr rfl) ?_
      cases x <;> cases y <;> exact hQ
  | under x =>
    cases b with
    | same =>
      try simp only [s_same, t_same, s_over, t_over, s_under, t_under, s_apart, t_apart, b_over, b_under, b_same, b_apart, decide_F, decide_T, n_same_over, n_same_under, n_same_apart, n_same_overbox, n_same_underbox, n_over_same, n_over_under, n_over_apart, n_over_overbox, n_over_underbox, n_under_same, n_under_over, n_under_apart, n_under_overbox, n_under_underbox, n_apart_same, n_apart_over, n_apart_under, n_apart_overbox, n_apart_underbox, n_overbox_same, n_overbox_over, n_overbox_under, n_overbox_apart, n_overbox_underbox, n_underbox_same, n_underbox_over, n_underbox_under, n_underbox_apart, n_underbox_overbox]
      walk_at "dl"
      try simp only [s_same, t_same, s_over, t_over, s_under, t_under, s_apart, t_apart, b_over, b_under, b_same, b_apart, decide_F, decide_T, n_same_over, n_same_under, n_same_apart, n_same_overbox, n_same_underbox, n_over_same, n_over_under, n_over_apart, n_over_overbox, n_over_underbox, n_under_same, n_under_over, n_under_apart, n_under_overbox, n_under_underbox, n_apart_same, n_apart_over, n_apart_under, n_apart_overbox, n_apart_underbox, n_overbox_same, n_overbox_over, n_overbox_under, n_overbox_apart, n_overbox_underbox, n_underbox_same, n_underbox_over, n_underbox_under, n_underbox_apart, n_underbox_overbox]
      walk_at "dl"
      exact ⟨by decide, hQ⟩
    | under y =>
      try simp only [s_same, t_same, s_over, t_over, s_under, t_under, s_apart, t_apart, b_over, b_under, b_same, b_apart, decide_F, decide_T, n_same_over, n_same_under, n_same_apart, n_same_overbox, n_same_underbox, n_over_same, n_over_under, n_over_apart, n_over_overbox, n_over_underbox, n_under_same, n_under_over, n_under_apart, n_under_overbox, n_under_underbox, n_apart_same, n_apart_over, n_apart_under, n_apart_overbox, n_apart_underbox, n_overbox_same, n_overbox_over, n_overbox_under, n_overbox_apart, n_overbox_underbox, n_underbox_same, n_underbox_over, n_underbox_under, n_underbox_apart, n_underbox_overbox]
      walk_at "dl"
      try simp only [s_same, t_same, s_over, t_over, s_under, t_under, s_apart, t_apart, b_over, b_under, b_same, b_apart, decide_F, decide_T, n_same_over, n_same_under, n_same_apart, n_same_overbox, n_same_underbox, n_over_same, n_over_under, n_over_apart, n_over_overbox, n_over_underbox, n_under_same, n_under_over, n_under_apart, n_under_overbox, n_under_underbox, n_apart_same, n_apart_over, n_apart_under, n_apart_overbox, n_apart_underbox, n_overbox_same, n_overbox_over, n_overbox_under, n_overbox_apart, n_overbox_underbox, n_underbox_same, n_underbox_over, n_underbox_under, n_underbox_apart, n_underbox_overbox]
      walk_at "dl"
      cases x with
      | true =>
        walk_at "dl"
        refine ⟨_, _, rfl, by rw [T_under]; decide, ?_⟩
        walk_at "dl"
        rw [show T "under" ++ T "box" = (Wd.under true).t by decide +kernel]
        exact ⟨by decide, hQ⟩
      | false =>
        walk_at "dl"
        refine ⟨_, _, rfl, by rw [T_under]; decide, ?_⟩
        rw [cross_under]
        walk_at "dl"
        exact ⟨by decide, hQ⟩
    | apart =>
      try simp only [s_same, t_same, s_over, t_over, s_under, t_under, s_apart, t_apart, b_over, b_under, b_same, b_apart, decide_F, decide_T, n_same_over, n_same_under, n_same_apart, n_same_overbox, n_same_underbox, n_over_same, n_over_under, n_over_apart, n_over_overbox, n_over_underbox, n_under_same, n_under_over, n_under_apart, n_under_overbox, n_under_underbox, n_apart_same, n_apart_over, n_apart_under, n_apart_overbox, n_apart_underbox, n_overbox_same, n_overbox_over, n_overbox_under, n_overbox_apart, n_overbox_underbox, n_underbox_same, n_underbox_over, n_underbox_under, n_underbox_apart, n_underbox_overbox]
      walk_at "dl"
      try simp only [s_same, t_same, s_over, t_over, s_under, t_under, s_apart, t_apart, b_over, b_under, b_same, b_apart, decide_F, decide_T, n_same_over, n_same_under, n_same_apart, n_same_overbox, n_same_underbox, n_over_same, n_over_under, n_over_apart, n_over_overbox, n_over_underbox, n_under_same, n_under_over, n_under_apart, n_under_overbox, n_under_underbox, n_apart_same, n_apart_over, n_apart_under, n_apart_overbox, n_apart_underbox, n_overbox_same, n_overbox_over, n_overbox_under, n_overbox_apart, n_overbox_underbox, n_underbox_same, n_underbox_over, n_underbox_under, n_underbox_apart, n_underbox_overbox]
      walk_at "dl"
      unfold w_l_fits_c7
      walk_at "dl"
      try simp only [s_same, t_same, s_over, t_over, s_under, t_under, s_apart, t_apart, b_over, b_under, b_same, b_apart, decide_F, decide_T, n_same_over, n_same_under, n_same_apart, n_same_overbox, n_same_underbox, n_over_same, n_over_under, n_over_apart, n_over_overbox, n_over_underbox, n_under_same, n_under_over, n_under_apart, n_under_overbox, n_under_underbox, n_apart_same, n_apart_over, n_apart_under, n_apart_overbox, n_apart_underbox, n_overbox_same, n_overbox_over, n_overbox_under, n_overbox_apart, n_overbox_underbox, n_underbox_same, n_underbox_over, n_underbox_under, n_underbox_apart, n_underbox_overbox]
      walk_at "dl"
      try simp only [s_same, t_same, s_over, t_over, s_under, t_under, s_apart, t_apart, b_over, b_under, b_same, b_apart, decide_F, decide_T, n_same_over, n_same_under, n_same_apart, n_same_overbox, n_same_underbox, n_over_same, n_over_under, n_over_apart, n_over_overbox, n_over_underbox, n_under_same, n_under_over, n_under_apart, n_under_overbox, n_under_underbox, n_apart_same, n_apart_over, n_apart_under, n_apart_overbox, n_apart_underbox, n_overbox_same, n_overbox_over, n_overbox_under, n_overbox_apart, n_overbox_underbox, n_underbox_same, n_underbox_over, n_underbox_under, n_underbox_apart, n_underbox_overbox]
      walk_at "dl"
      unfold w_l_fits_c6
      walk_at "dl"
      try simp only [s_same, t_same, s_over, t_over, s_under, t_under, s_apart, t_apart, b_over, b_under, b_same, b_apart, decide_F, decide_T, n_same_over, n_same_under, n_same_apart, n_same_overbox, n_same_underbox, n_over_same, n_over_under, n_over_apart, n_over_overbox, n_over_underbox, n_under_same, n_under_over, n_under_apart, n_under_overbox, n_under_underbox, n_apart_same, n_apart_over, n_apart_under, n_apart_overbox, n_apart_underbox, n_overbox_same, n_overbox_over, n_overbox_under, n_overbox_apart, n_overbox_underbox, n_underbox_same, n_underbox_over, n_underbox_under, n_underbox_apart, n_underbox_overbox]
      walk_at "dl"
      try simp only [s_same, t_same, s_over, t_over, s_under, t_under, s_apart, t_apart, b_over, b_under, b_same, b_apart, decide_F, decide_T, n_same_over, n_same_under, n_same_apart, n_same_overbox, n_same_underbox, n_over_same, n_over_under, n_over_apart, n_over_overbox, n_over_underbox, n_under_same, n_under_over, n_under_apart, n_under_overbox, n_under_underbox, n_apart_same, n_apart_over, n_apart_under, n_apart_overbox, n_apart_underbox, n_overbox_same, n_overbox_over, n_overbox_under, n_overbox_apart, n_overbox_underbox, n_underbox_same, n_underbox_over, n_underbox_under, n_underbox_apart, n_underbox_overbox]
      walk_at "dl"
      exact ⟨by decide, hQ⟩
    | over y =>
      try simp only [s_same, t_same, s_over, t_over, s_under, t_under, s_apart, t_apart, b_over, b_under, b_same, b_apart, decide_F, decide_T, n_same_over, n_same_under, n_same_apart, n_same_overbox, n_same_underbox, n_over_same, n_over_under, n_over_apart, n_over_overbox, n_over_underbox, n_under_same, n_under_over, n_under_apart, n_under_overbox, n_under_underbox, n_apart_same, n_apart_over, n_apart_under, n_apart_overbox, n_apart_underbox, n_overbox_same, n_overbox_over, n_overbox_under, n_overbox_apart, n_overbox_underbox, n_underbox_same, n_underbox_over, n_underbox_under, n_underbox_apart, n_underbox_overbox]
      walk_at "dl"
      try simp only [s_same, t_same, s_over, t_over, s_under, t_under, s_apart, t_apart, b_over, b_under, b_same, b_apart, decide_F, decide_T, n_same_over, n_same_under, n_same_apart, n_same_overbox, n_same_underbox, n_over_same, n_over_under, n_over_apart, n_over_overbox, n_over_underbox, n_under_same, n_under_over, n_under_apart, n_under_overbox, n_under_underbox, n_apart_same, n_apart_over, n_apart_under, n_apart_overbox, n_apart_underbox, n_overbox_same, n_overbox_over, n_overbox_under, n_overbox_apart, n_overbox_underbox, n_underbox_same, n_underbox_over, n_underbox_under, n_underbox_apart, n_underbox_overbox]
      walk_at "dl"
      unfold w_l_fits_c7
      walk_at "dl"
      try simp only [s_same, t_same, s_over, t_over, s_under, t_under, s_apart, t_apart, b_over, b_under, b_same, b_apart, decide_F, decide_T, n_same_over, n_same_under, n_same_apart, n_same_overbox, n_same_underbox, n_over_same, n_over_under, n_over_apart, n_over_overbox, n_over_underbox, n_under_same, n_under_over, n_under_apart, n_under_overbox, n_under_underbox, n_apart_same, n_apart_over, n_apart_under, n_apart_overbox, n_apart_underbox, n_overbox_same, n_overbox_over, n_overbox_under, n_overbox_apart, n_overbox_underbox, n_underbox_same, n_underbox_over, n_underbox_under, n_underbox_apart, n_underbox_overbox]
      walk_at "dl"
      try simp only [s_same, t_same, s_over, t_over, s_under, t_under, s_apart, t_apart, b_over, b_under, b_same, b_apart, decide_F, decide_T, n_same_over, n_same_under, n_same_apart, n_same_overbox, n_same_underbox, n_over_same, n_over_under, n_over_apart, n_over_overbox, n_over_underbox, n_under_same, n_under_over, n_under_apart, n_under_overbox, n_under_underbox, n_apart_same, n_apart_over, n_apart_under, n_apart_overbox, n_apart_underbox, n_overbox_same, n_overbox_over, n_overbox_under, n_overbox_apart, n_overbox_underbox, n_underbox_same, n_underbox_over, n_underbox_under, n_underbox_apart, n_underbox_overbox]
      walk_at "dl"
      unfold w_l_fits_c6
      walk_at "dl"
      try simp only [s_same, t_same, s_over, t_over, s_under, t_under, s_apart, t_apart, b_over, b_under, b_same, b_apart, decide_F, decide_T, n_same_over, n_same_under, n_same_apart, n_same_overbox, n_same_underbox, n_over_same, n_over_under, n_over_apart, n_over_overbox, n_over_underbox, n_under_same, n_under_over, n_under_apart, n_under_overbox, n_under_underbox, n_apart_same, n_apart_over, n_apart_under, n_apart_overbox, n_apart_underbox, n_overbox_same, n_overbox_over, n_overbox_under, n_overbox_apart, n_overbox_underbox, n_underbox_same, n_underbox_over, n_underbox_under, n_underbox_apart, n_underbox_overbox]
      walk_at "dl"
      try simp only [s_same, t_same, s_over, t_over, s_under, t_under, s_apart, t_apart, b_over, b_under, b_same, b_apart, decide_F, decide_T, n_same_over, n_same_under, n_same_apart, n_same_overbox, n_same_underbox, n_over_same, n_over_under, n_over_apart, n_over_overbox, n_over_underbox, n_under_same, n_under_over, n_under_apart, n_under_overbox, n_under_underbox, n_apart_same, n_apart_over, n_apart_under, n_apart_overbox, n_apart_underbox, n_overbox_same, n_overbox_over, n_overbox_under, n_overbox_apart, n_overbox_underbox, n_underbox_same, n_underbox_over, n_underbox_under, n_underbox_apart, n_underbox_overbox]
      walk_at "dl"
      unfold w_l_fits_c5
      walk_at "dl"
      try simp only [s_same, t_same, s_over, t_over, s_under, t_under, s_apart, t_apart, b_over, b_under, b_same, b_apart, decide_F, decide_T, n_same_over, n_same_under, n_same_apart, n_same_overbox, n_same_underbox, n_over_same, n_over_under, n_over_apart, n_over_overbox, n_over_underbox, n_under_same, n_under_over, n_under_apart, n_under_overbox, n_under_underbox, n_apart_same, n_apart_over, n_apart_under, n_apart_overbox, n_apart_underbox, n_overbox_same, n_overbox_over, n_overbox_under, n_overbox_apart, n_overbox_underbox, n_underbox_same, n_underbox_over, n_underbox_under, n_underbox_apart, n_underbox_overbox]
      walk_at "dl"
      try simp only [s_same, t_same, s_over, t_over, s_under, t_under, s_apart, t_apart, b_over, b_under, b_same, b_apart, decide_F, decide_T, n_same_over, n_same_under, n_same_apart, n_same_overbox, n_same_underbox, n_over_same, n_over_under, n_over_apart, n_over_overbox, n_over_underbox, n_under_same, n_under_over, n_under_apart, n_under_overbox, n_under_underbox, n_apart_same, n_apart_over, n_apart_under, n_apart_overbox, n_apart_underbox, n_overbox_same, n_overbox_over, n_overbox_under, n_overbox_apart, n_overbox_underbox, n_underbox_same, n_underbox_over, n_underbox_under, n_underbox_apart, n_underbox_overbox]
      walk_at "dl"
      unfold w_l_fits_c4
      walk_at "dl"
      try simp only [s_same, t_same, s_over, t_over, s_under, t_under, s_apart, t_apart, b_over, b_under, b_same, b_apart, decide_F, decide_T, n_same_over, n_same_under, n_same_apart, n_same_overbox, n_same_underbox, n_over_same, n_over_under, n_over_apart, n_over_overbox, n_over_underbox, n_under_same, n_under_over, n_under_apart, n_under_overbox, n_under_underbox, n_apart_same, n_apart_over, n_apart_under, n_apart_overbox, n_apart_underbox, n_overbox_same, n_overbox_over, n_overbox_under, n_overbox_apart, n_overbox_underbox, n_underbox_same, n_underbox_over, n_underbox_under, n_underbox_apart, n_underbox_overbox]
      walk_at "dl"
      try simp only [s_same, t_same, s_over, t_over, s_under, t_under, s_apart, t_apart, b_over, b_under, b_same, b_apart, decide_F, decide_T, n_same_over, n_same_under, n_same_apart, n_same_overbox, n_same_underbox, n_over_same, n_over_under, n_over_apart, n_over_overbox, n_over_underbox, n_under_same, n_under_over, n_under_apart, n_under_overbox, n_under_underbox, n_apart_same, n_apart_over, n_apart_under, n_apart_overbox, n_apart_underbox, n_overbox_same, n_overbox_over, n_overbox_under, n_overbox_apart, n_overbox_underbox, n_underbox_same, n_underbox_over, n_underbox_under, n_underbox_apart, n_underbox_overbox]
      walk_at "dl"
      refine ⟨by decide, ?_⟩
      refine fits_c3 (ap := []) (ov := false) (fun e => by rw [n_under_over] at e; exact e) (decide_eq_false fun e => by rw [n_under_over] at e; exact e) (.inl rfl) ?_
      cases x <;> cases y <;> exact hQ
  | apart =>
    cases b with
    | same =>
      try simp only [s_same, t_same, s_over, t_over, s_under, t_under, s_apart, t_apart, b_over, b_under, b_same, b_apart, decide_F, decide_T, n_same_over, n_same_under, n_same_apart, n_same_overbox, n_same_underbox, n_over_same, n_over_under, n_over_apart, n_over_overbox, n_over_underbox, n_under_same, n_under_over, n_under_apart, n_under_overbox, n_under_underbox, n_apart_same, n_apart_over, n_apart_under, n_apart_overbox, n_apart_underbox, n_overbox_same, n_overbox_over, n_overbox_under, n_overbox_apart, n_overbox_underbox, n_underbox_same, n_underbox_over, n_underbox_under, n_underbox_apart, n_underbox_overbox]
      walk_at "dl"
      try simp only [s_same, t_same, s_over, t_over, s_under, t_under, s_apart, t_apart, b_over, b_under, b_same, b_apart, decide_F, decide_T, n_same_over, n_same_under, n_same_apart, n_same_overbox, n_same_underbox, n_over_same, n_over_under, n_over_apart, n_over_overbox, n_over_underbox, n_under_same, n_under_over, n_under_apart, n_under_overbox, n_under_underbox, n_apart_same, n_apart_over, n_apart_under, n_apart_overbox, n_apart_underbox, n_overbox_same, n_overbox_over, n_overbox_under, n_overbox_apart, n_overbox_underbox, n_underbox_same, n_underbox_over, n_underbox_under, n_underbox_apart, n_underbox_overbox]
      walk_at "dl"
      exact ⟨by decide, hQ⟩
    | under y =>
      try simp only [s_same, t_same, s_over, t_over, s_under, t_under, s_apart, t_apart, b_over, b_under, b_same, b_apart, decide_F, decide_T, n_same_over, n_same_under, n_same_apart, n_same_overbox, n_same_underbox, n_over_same, n_over_under, n_over_apart, n_over_overbox, n_over_underbox, n_under_same, n_under_over, n_under_apart, n_under_overbox, n_under_underbox, n_apart_same, n_apart_over, n_apart_under, n_apart_overbox, n_apart_underbox, n_overbox_same, n_overbox_over, n_overbox_under, n_overbox_apart, n_overbox_underbox, n_underbox_same, n_underbox_over, n_underbox_under, n_underbox_apart, n_underbox_overbox]
      walk_at "dl"
      try simp only [s_same, t_same, s_over, t_over, s_under, t_under, s_apart, t_apart, b_over, b_under, b_same, b_apart, decide_F, decide_T, n_same_over, n_same_under, n_same_apart, n_same_overbox, n_same_underbox, n_over_same, n_over_under, n_over_apart, n_over_overbox, n_over_underbox, n_under_same, n_under_over, n_under_apart, n_under_overbox, n_under_underbox, n_apart_same, n_apart_over, n_apart_under, n_apart_overbox, n_apart_underbox, n_overbox_same, n_overbox_over, n_overbox_under, n_overbox_apart, n_overbox_underbox, n_underbox_same, n_underbox_over, n_underbox_under, n_underbox_apart, n_underbox_overbox]
      walk_at "dl"
      unfold w_l_fits_c7
      walk_at "dl"
      try simp only [s_same, t_same, s_over, t_over, s_under, t_under, s_apart, t_apart, b_over, b_under, b_same, b_apart, decide_F, decide_T, n_same_over, n_same_under, n_same_apart, n_same_overbox, n_same_underbox, n_over_same, n_over_under, n_over_apart, n_over_overbox, n_over_underbox, n_under_same, n_under_over, n_under_apart, n_under_overbox, n_under_underbox, n_apart_same, n_apart_over, n_apart_under, n_apart_overbox, n_apart_underbox, n_overbox_same, n_overbox_over, n_overbox_under, n_overbox_apart, n_overbox_underbox, n_underbox_same, n_underbox_over, n_underbox_under, n_underbox_apart, n_underbox_overbox]
      walk_at "dl"
      try simp only [s_same, t_same, s_over, t_over, s_under, t_under, s_apart, t_apart, b_over, b_under, b_same, b_apart, decide_F, decide_T, n_same_over, n_same_under, n_same_apart, n_same_overbox, n_same_underbox, n_over_same, n_over_under, n_over_apart, n_over_overbox, n_over_underbox, n_under_same, n_under_over, n_under_apart, n_under_overbox, n_under_underbox, n_apart_same, n_apart_over, n_apart_under, n_apart_overbox, n_apart_underbox, n_overbox_same, n_overbox_over, n_overbox_under, n_overbox_apart, n_overbox_underbox, n_underbox_same, n_underbox_over, n_underbox_under, n_underbox_apart, n_underbox_overbox]
      walk_at "dl"
      exact ⟨by decide, hQ⟩
    | over y =>
      try simp only [s_same, t_same, s_over, t_over, s_under, t_under, s_apart, t_apart, b_over, b_under, b_same, b_apart, decide_F, decide_T, n_same_over, n_same_under, n_same_apart, n_same_overbox, n_same_underbox, n_over_same, n_over_under, n_over_apart, n_over_overbox, n_over_underbox, n_under_same, n_under_over, n_under_apart, n_under_overbox, n_under_underbox, n_apart_same, n_apart_over, n_apart_under, n_apart_overbox, n_apart_underbox, n_overbox_same, n_overbox_over, n_overbox_under, n_overbox_apart, n_overbox_underbox, n_underbox_same, n_underbox_over, n_underbox_under, n_underbox_apart, n_underbox_overbox]
      walk_at "dl"
      try simp only [s_same, t_same, s_over, t_over, s_under, t_under, s_apart, t_apart, b_over, b_under, b_same, b_apart, decide_F, decide_T, n_same_over, n_same_under, n_same_apart, n_same_overbox, n_same_underbox, n_over_same, n_over_under, n_over_apart, n_over_overbox, n_over_underbox, n_under_same, n_under_over, n_under_apart, n_under_overbox, n_under_underbox, n_apart_same, n_apart_over, n_apart_under, n_apart_overbox, n_apart_underbox, n_overbox_same, n_overbox_over, n_overbox_under, n_overbox_apart, n_overbox_underbox, n_underbox_same, n_underbox_over, n_underbox_under, n_underbox_apart, n_underbox_overbox]
      walk_at "dl"
      unfold w_l_fits_c7
      walk_at "dl"
      try simp only [s_same, t_same, s_over, t_over, s_under, t_under, s_apart, t_apart, b_over, b_under, b_same, b_apart, decide_F, decide_T, n_same_over, n_same_under, n_same_apart, n_same_overbox, n_same_underbox, n_over_same, n_over_under, n_over_apart, n_over_overbox, n_over_underbox, n_under_same, n_under_over, n_under_apart, n_under_overbox, n_under_underbox, n_apart_same, n_apart_over, n_apart_under, n_apart_overbox, n_apart_underbox, n_overbox_same, n_overbox_over, n_overbox_under, n_overbox_apart, n_overbox_underbox, n_underbox_same, n_underbox_over, n_underbox_under, n_underbox_apart, n_underbox_overbox]
      walk_at "dl"
      try simp only [s_same, t_same, s_over, t_over, s_under, t_under, s_apart, t_apart, b_over, b_under, b_same, b_apart, decide_F, decide_T, n_same_over, n_same_under, n_same_apart, n_same_overbox, n_same_underbox, n_over_same, n_over_under, n_over_apart, n_over_overbox, n_over_underbox, n_under_same, n_under_over, n_under_apart, n_under_overbox, n_under_underbox, n_apart_same, n_apart_over, n_apart_under, n_apart_overbox, n_apart_underbox, n_overbox_same, n_overbox_over, n_overbox_under, n_overbox_apart, n_overbox_underbox, n_underbox_same, n_underbox_over, n_underbox_under, n_underbox_apart, n_underbox_overbox]
      walk_at "dl"
      unfold w_l_fits_c6
      walk_at "dl"
      try simp only [s_same, t_same, s_over, t_over, s_under, t_under, s_apart, t_apart, b_over, b_under, b_same, b_apart, decide_F, decide_T, n_same_over, n_same_under, n_same_apart, n_same_overbox, n_same_underbox, n_over_same, n_over_under, n_over_apart, n_over_overbox, n_over_underbox, n_under_same, n_under_over, n_under_apart, n_under_overbox, n_under_underbox, n_apart_same, n_apart_over, n_apart_under, n_apart_overbox, n_apart_underbox, n_overbox_same, n_overbox_over, n_overbox_under, n_overbox_apart, n_overbox_underbox, n_underbox_same, n_underbox_over, n_underbox_under, n_underbox_apart, n_underbox_overbox]
      walk_at "dl"
      try simp only [s_same, t_same, s_over, t_over, s_under, t_under, s_apart, t_apart, b_over, b_under, b_same, b_apart, decide_F, decide_T, n_same_over, n_same_under, n_same_apart, n_same_overbox, n_same_underbox, n_over_same, n_over_under, n_over_apart, n_over_overbox, n_over_underbox, n_under_same, n_under_over, n_under_apart, n_under_overbox, n_under_underbox, n_apart_same, n_apart_over, n_apart_under, n_apart_overbox, n_apart_underbox, n_overbox_same, n_overbox_over, n_overbox_under, n_overbox_apart, n_overbox_underbox, n_underbox_same, n_underbox_over, n_underbox_under, n_underbox_apart, n_underbox_overbox]
      walk_at "dl"
      unfold w_l_fits_c5
      walk_at "dl"
      try simp only [s_same, t_same, s_over, t_over, s_under, t_under, s_apart, t_apart, b_over, b_under, b_same, b_apart, decide_F, decide_T, n_same_over, n_same_under, n_same_apart, n_same_overbox, n_same_underbox, n_over_same, n_over_under, n_over_apart, n_over_overbox, n_over_underbox, n_under_same, n_under_over, n_under_apart, n_under_overbox, n_under_underbox, n_apart_same, n_apart_over, n_apart_under, n_apart_overbox, n_apart_underbox, n_overbox_same, n_overbox_over, n_overbox_under, n_overbox_apart, n_overbox_underbox, n_underbox_same, n_underbox_over, n_underbox_under, n_underbox_apart, n_underbox_overbox]
      walk_at "dl"
      try simp only [s_same, t_same, s_over, t_over, s_under, t_under, s_apart, t_apart, b_over, b_under, b_same, b_apart, decide_F, decide_T, n_same_over, n_same_under, n_same_apart, n_same_overbox, n_same_underbox, n_over_same, n_over_under, n_over_apart, n_over_overbox, n_over_underbox, n_under_same, n_under_over, n_under_apart, n_under_overbox, n_under_underbox, n_apart_same, n_apart_over, n_apart_under, n_apart_overbox, n_apart_underbox, n_overbox_same, n_overbox_over, n_overbox_under, n_overbox_apart, n_overbox_underbox, n_underbox_same, n_underbox_over, n_underbox_under, n_underbox_apart, n_underbox_overbox]
      walk_at "dl"
      exact ⟨by decide, hQ⟩
    | apart =>
      try simp only [s_same, t_same, s_over, t_over, s_under, t_under, s_apart, t_apart, b_over, b_under, b_same, b_apart, decide_F, decide_T, n_same_over, n_same_under, n_same_apart, n_same_overbox, n_same_underbox, n_over_same, n_over_under, n_over_apart, n_over_overbox, n_over_underbox, n_under_same, n_under_over, n_under_apart, n_under_overbox, n_under_underbox, n_apart_same, n_apart_over, n_apart_under, n_apart_overbox, n_apart_underbox, n_overbox_same, n_overbox_over, n_overbox_under, n_overbox_apart, n_overbox_underbox, n_underbox_same, n_underbox_over, n_underbox_under, n_underbox_apart, n_underbox_overbox]
      walk_at "dl"
      try simp only [s_same, t_same, s_over, t_over, s_under, t_under, s_apart, t_apart, b_over, b_under, b_same, b_apart, decide_F, decide_T, n_same_over, n_same_under, n_same_apart, n_same_overbox, n_same_underbox, n_over_same, n_over_under, n_over_apart, n_over_overbox, n_over_underbox, n_under_same, n_under_over, n_under_apart, n_under_overbox, n_under_underbox, n_apart_same, n_apart_over, n_apart_under, n_apart_overbox, n_apart_underbox, n_overbox_same, n_overbox_over, n_overbox_under, n_overbox_apart, n_overbox_underbox, n_underbox_same, n_underbox_over, n_underbox_under, n_underbox_apart, n_underbox_overbox]
      walk_at "dl"
      unfold w_l_fits_c7
      walk_at "dl"
      try simp only [s_same, t_same, s_over, t_over, s_under, t_under, s_apart, t_apart, b_over, b_under, b_same, b_apart, decide_F, decide_T, n_same_over, n_same_under, n_same_apart, n_same_overbox, n_same_underbox, n_over_same, n_over_under, n_over_apart, n_over_overbox, n_over_underbox, n_under_same, n_under_over, n_under_apart, n_under_overbox, n_under_underbox, n_apart_same, n_apart_over, n_apart_under, n_apart_overbox, n_apart_underbox, n_overbox_same, n_overbox_over, n_overbox_under, n_overbox_apart, n_overbox_underbox, n_underbox_same, n_underbox_over, n_underbox_under, n_underbox_apart, n_underbox_overbox]
      walk_at "dl"
      try simp only [s_same, t_same, s_over, t_over, s_under, t_under, s_apart, t_apart, b_over, b_under, b_same, b_apart, decide_F, decide_T, n_same_over, n_same_under, n_same_apart, n_same_overbox, n_same_underbox, n_over_same, n_over_under, n_over_apart, n_over_overbox, n_over_underbox, n_under_same, n_under_over, n_under_apart, n_under_overbox, n_under_underbox, n_apart_same, n_apart_over, n_apart_under, n_apart_overbox, n_apart_underbox, n_overbox_same, n_overbox_over, n_overbox_under, n_overbox_apart, n_overbox_underbox, n_underbox_same, n_underbox_over, n_underbox_under, n_underbox_apart, n_underbox_overbox]
      walk_at "dl"
      unfold w_l_fits_c6
      walk_at "dl"
      try simp only [s_same, t_same, s_over, t_over, s_under, t_under, s_apart, t_apart, b_over, b_under, b_same, b_apart, decide_F, decide_T, n_same_over, n_same_under, n_same_apart, n_same_overbox, n_same_underbox, n_over_same, n_over_under, n_over_apart, n_over_overbox, n_over_underbox, n_under_same, n_under_over, n_under_apart, n_under_overbox, n_under_underbox, n_apart_same, n_apart_over, n_apart_under, n_apart_overbox, n_apart_underbox, n_overbox_same, n_overbox_over, n_overbox_under, n_overbox_apart, n_overbox_underbox, n_underbox_same, n_underbox_over, n_underbox_under, n_underbox_apart, n_underbox_overbox]
      walk_at "dl"
      try simp only [s_same, t_same, s_over, t_over, s_under, t_under, s_apart, t_apart, b_over, b_under, b_same, b_apart, decide_F, decide_T, n_same_over, n_same_under, n_same_apart, n_same_overbox, n_same_underbox, n_over_same, n_over_under, n_over_apart, n_over_overbox, n_over_underbox, n_under_same, n_under_over, n_under_apart, n_under_overbox, n_under_underbox, n_apart_same, n_apart_over, n_apart_under, n_apart_overbox, n_apart_underbox, n_overbox_same, n_overbox_over, n_overbox_under, n_overbox_apart, n_overbox_underbox, n_underbox_same, n_underbox_over, n_underbox_under, n_underbox_apart, n_underbox_overbox]
      walk_at "dl"
      unfold w_l_fits_c5
      walk_at "dl"
      try simp only [s_same, t_same, s_over, t_over, s_under, t_under, s_apart, t_apart, b_over, b_under, b_same, b_apart, decide_F, decide_T, n_same_over, n_same_under, n_same_apart, n_same_overbox, n_same_underbox, n_over_same, n_over_under, n_over_apart, n_over_overbox, n_over_underbox, n_under_same, n_under_over, n_under_apart, n_under_overbox, n_under_underbox, n_apart_same, n_apart_over, n_apart_under, n_apart_overbox, n_apart_underbox, n_overbox_same, n_overbox_over, n_overbox_under, n_overbox_apart, n_overbox_underbox, n_underbox_same, n_underbox_over, n_underbox_under, n_underbox_apart, n_underbox_overbox]
      walk_at "dl"
      try simp only [s_same, t_same, s_over, t_over, s_under, t_under, s_apart, t_apart, b_over, b_under, b_same, b_apart, decide_F, decide_T, n_same_over, n_same_under, n_same_apart, n_same_overbox, n_same_underbox, n_over_same, n_over_under, n_over_apart, n_over_overbox, n_over_underbox, n_under_same, n_under_over, n_under_apart, n_under_overbox, n_under_underbox, n_apart_same, n_apart_over, n_apart_under, n_apart_overbox, n_apart_underbox, n_overbox_same, n_overbox_over, n_overbox_under, n_overbox_apart, n_overbox_underbox, n_underbox_same, n_underbox_over, n_underbox_under, n_underbox_apart, n_underbox_overbox]
      walk_at "dl"
      unfold w_l_fits_c4
      walk_at "dl"
      try simp only [s_same, t_same, s_over, t_over, s_under, t_under, s_apart, t_apart, b_over, b_under, b_same, b_apart, decide_F, decide_T, n_same_over, n_same_under, n_same_apart, n_same_overbox, n_same_underbox, n_over_same, n_over_under, n_over_apart, n_over_overbox, n_over_underbox, n_under_same, n_under_over, n_under_apart, n_under_overbox, n_under_underbox, n_apart_same, n_apart_over, n_apart_under, n_apart_overbox, n_apart_underbox, n_overbox_same, n_overbox_over, n_overbox_under, n_overbox_apart, n_overbox_underbox, n_underbox_same, n_underbox_over, n_underbox_under, n_underbox_apart, n_underbox_overbox]
      walk_at "dl"
      try simp only [s_same, t_same, s_over, t_over, s_under, t_under, s_apart, t_apart, b_over, b_under, b_same, b_apart, decide_F, decide_T, n_same_over, n_same_under, n_same_apart, n_same_overbox, n_same_underbox, n_over_same, n_over_under, n_over_apart, n_over_overbox, n_over_underbox, n_under_same, n_under_over, n_under_apart, n_under_overbox, n_under_underbox, n_apart_same, n_apart_over, n_apart_under, n_apart_overbox, n_apart_underbox, n_overbox_same, n_overbox_over, n_overbox_under, n_overbox_apart, n_overbox_underbox, n_underbox_same, n_underbox_over, n_underbox_under, n_underbox_apart, n_underbox_overbox]
      walk_at "dl"
      refine ⟨by decide, by decide, by decide, ?_⟩
      unfold w_l_fits_c3
      walk_at "dl"
      exact hQ
end DL

namespace DL
open PySem L2
local macro_rules | `(tactic| walk_at "dl") => `(tactic| try simp (config := { proj := false }) only [↓ex_mk, ↓nx_mk, ↓rt_mk, ↓bk_mk, ↓ct_mk, ↓xc_mk, ↓u_c, ↓u_op, ↓u_un, ↓u_and, ↓u_or, ↓u_not, ↓u_if, ↓u_anil, ↓u_acons, ↓u_lst, ↓u_lstM, ↓u_tup, ↓u_call, ↓u_sl, ↓u_onone, ↓u_cb, ↓u_mt, ↓u_mt0, ↓u_pass, ↓u_seq, ↓u_set, ↓u_asg, ↓u_drop, ↓u_ret, ↓u_retN, ↓u_ifs, ↓u_brk, ↓u_cnt, ↓u_for, ↓u_gname, ↓u_gsub, ↓u_fs, ↓u_fmt, ↓u_js0, ↓u_js, ↓u_em, ↓u_yes, ↓u_never, ↓u_dict, ↓u_dict0, ↓u_dp0, ↓u_dp1, ↓u_forK, ↓u_lock, ↓u_kd,
  ↓r_var, ↓r_test, ↓r_andV, ↓r_orV, ↓r_notV, ↓r_tru, ↓r_frz, ↓r_osome, ↓r_any, ↓r_rng1, ↓r_rng2, ↓r_fz, wipeD,
  onSome_s, onBl_b, onInt_i, onStr_s, onVar_s, onML_l, onML2_l, onML2_d, onDK_d, fmt_s, fmt_i, tru_n, tru_b, tru_i, tru_s, tru_l, tru_t, tru_r, frz_r, sl_s, sl_l, sl_t, sl_r, add_i, add_s, add_l, add_t, add_rl, add_lr, sub_i, mul_i, div_i, mod_i, pow_i, neg_i, cmp_i, eq_i, eq_s, eq_b, eq_n, eq_l, eq_t, eq_rl, eq_lr, eq_ni, eq_in, eq_ns, eq_sn, eq_nb, eq_bn, eq_is, eq_si,
  ix_l, ix_t, ix_s, ix_ri, ix_rs, in_ss, in_l, in_t, in_ir, in_sr, isn_n, isn_b, isn_i, isn_s, isn_r, isn_l, isn_t, len_s, len_l, len_t, len_r, int_i, int_b, min_ii, max_ii, list_l, list_t, list_r, list_c, listM_l, listM_t, listM_r, isi_, isi_k, ty_n, ty_b, ty_i, ty_s, ty_l, ty_t, it_s, it_l, it_r, itM_l, itM_d, app_r, rev_r, ends_s, ins_r, set_rs, onRef_r, onML3_l, onML3_d, onML3_f, onDR_d, onDR_f, onFK_f, join_l, join_t, join_r, starts_s, r_gtup, r_glst, r_gnil, r_gcons, set_r, items_s, items_l, items_t, rng1_i, rng2_i, fz_r,
  List.map_cons, List.map_nil, List.cons_append, List.nil_append, List.length_cons, List.length_nil, List.replicate, List.getElem?_cons_zero, List.getElem?_cons_succ, List.set_cons_zero, List.set_cons_succ, id, decide_eq_true_eq, if_true, if_false, Bool.false_eq_true, reduceIte, Bool.not_true, Bool.not_false, true_and, Nat.reduceAdd, Nat.reduceSub, Int.reduceToNat, Int.toNat_natCast, put_same, put_put, atI_0, atI_1, atI_2, atI_3, atI_4, ixN_40, ixN_41, ixN_42, ixN_43])
def sp_law : DSp := fun ds M Q _ => ∃ ns, ds = [.scr ns] ∧ ∀ M', Q (.bl true) M'
def w_law_b1 : DTS := dAsg (dVar 3) (dgSub (dVar 2) (dOp gIx (dVar 2) (dVar 3)) gSetA)
def w_law_b2 : DTS := dIfS (dOr (dNot (dTru (dCall (sp_l_same 8) (daCons (dCall sp_inverse (daCons (dVar 3) (daNil))) (daCons (dOp gIx (dVar 2) (dVar 3)) (daNil)))))) (dNot (dTru (dCall (sp_l_same 8) (daCons (dCall sp_inverse (daCons (dCall sp_inverse (daCons (dVar 3) (daNil))) (daNil))) (daCons (dVar 3) (daNil))))))) (dRet (dC (.bl false))) (dPass)
def w_law_b3 : DTS := dIfS (dTru (dVar 6)) (dSeq (dAsg (dCall sp_l_tail (daCons (dVar 1) (daCons (dCB gMin2 (daCons (dC (.int 6)) (daCons (dOp gSub (dC (.int 13)) (dCB gLen (daCons (dCall sp_l_parts (daCons (dOp gIx (dVar 4) (dUn gNeg (dC (.int 1)))) (daNil))) (daNil)))) (daNil)))) (daNil)))) (dgSub (dVar 5) (dVar 7) gSetA)) (dDrop (dMt "list" gAppend (dVar 4) (daCons (dOp gAdd (dOp gIx (dVar 4) (dUn gNeg (dC (.int 1)))) (dOp gIx (dVar 5) (dVar 7))) (daNil))))) (dSeq (dDrop (dMt "list" gAppend (dVar 4) (daCons (dCall sp_l_near (daCons (dVar 1) (daCons (dCall sp_l_pick (daCons (dVar 1) (daCons (dVar 4) (daNil)))) (daNil)))) (daNil)))) (dIfS (dTest (dOp gEq (dCall sp_l_draw (daCons (dVar 1) (daCons (dC (.int 4)) (daNil)))) (dC (.int 0)))) (dAsg (dOp gAdd (dOp gIx (dVar 4) (dUn gNeg (dC (.int 1)))) (dCall sp_l_tail (daCons (dVar 1) (daCons (dCB gMin2 (daCons (dC (.int 6)) (daCons (dOp gSub (dC (.int 13)) (dCB gLen (daCons (dCall sp_l_parts (daCons (dOp gIx (dVar 4) (dUn gNeg (dC (.int 1)))) (daNil))) (daNil)))) (daNil)))) (daNil))))) (dgSub (dVar 4) (dUn gNeg (dC (.int 1))) gSetA)) (dPass)))
def w_law_b4 : DTS := dDrop (dMt "list" gAppend (dVar 8) (daCons (dFrz (dLcM (diAny (dVar 4)) (dgName 10) (dYes) [10] [] (dCall sp_relation (daCons (dVar 9) (daCons (dVar 10) (daNil)))))) (daNil)))
def w_law_b5 : DTS := dIfS (dOr (dNot (dTru (dCB gIsi (daCons (dOp gIx (dOp gIx (dVar 8) (dVar 11)) (dVar 7)) (daCons (dC (.ty "str")) (daNil)))))) (dTest (dOp gNotIn (dOp gIx (dOp gIx (dVar 8) (dVar 11)) (dVar 7)) (dVar 2)))) (dRet (dC (.bl false))) (dPass)
def w_law_b6 : DTS := dFor (diRng1 (daCons (dC (.int 3)) (daNil))) (dgName 7) (w_law_b5)
def w_law_b7 : DTS := dIfS (dTest (dOp gNotIn (dOp gIx (dOp gIx (dVar 8) (dVar 11)) (dVar 12)) (dCall sp_l_fits (daCons (dOp gIx (dOp gIx (dVar 8) (dVar 11)) (dVar 7)) (daCons (dOp gIx (dOp gIx (dVar 8) (dVar 7)) (dVar 12)) (daNil)))))) (dRet (dC (.bl false))) (dPass)
def w_law_c8 : DTS := dFor (diRng1 (daCons (dC (.int 3)) (daNil))) (dgName 12) (w_law_b7)
def w_law_b9 : DTS := dSeq (dIfS (dOr (dTest (dOp gNe (dOp gIx (dOp gIx (dVar 8) (dVar 7)) (dVar 11)) (dOp gIx (dVar 2) (dOp gIx (dOp gIx (dVar 8) (dVar 11)) (dVar 7))))) (dTest (dOp gNe (dOp gIx (dOp gIx (dVar 8) (dVar 11)) (dVar 11)) (dC (.str (T "same")))))) (dRet (dC (.bl false))) (dPass)) (w_law_c8)
def w_law_b10 : DTS := dFor (diRng1 (daCons (dC (.int 3)) (daNil))) (dgName 7) (w_law_b9)
def w_law_b11 : DTS := dIfS (dTest (dOp gNe (dOp gIx (dOp gIx (dVar 8) (dVar 11)) (dVar 7)) (dCall sp_l_down (daCons (dVar 13) (daNil))))) (dRet (dC (.bl false))) (dPass)
def w_law_c12 : DTS := dSeq (dIfS (dTru (dVar 6)) (dFor (diAny (dLst (daCons (dTup (daCons (dC (.int 0)) (daCons (dC (.int 1)) (daCons (dOp gIx (dVar 5) (dC (.int 0))) (daNil))))) (daCons (dTup (daCons (dC (.int 1)) (daCons (dC (.int 2)) (daCons (dOp gIx (dVar 5) (dC (.int 1))) (daNil))))) (daCons (dTup (daCons (dC (.int 0)) (daCons (dC (.int 2)) (daCons (dOp gAdd (dOp gIx (dVar 5) (dC (.int 0))) (dOp gIx (dVar 5) (dC (.int 1)))) (daNil))))) (daNil)))))) (dgTup 3 (dgCons 11 (dgCons 7 (dgCons 13 (dgNil))))) (w_law_b11)) (dPass)) (dRet (dC (.bl true)))
def w_law_f13 : DTS := dSeq (dFor (diRng1 (daCons (dC (.int 3)) (daNil))) (dgName 11) (w_law_b10)) (w_law_c12)
def w_law_f14 : DTS := dSeq (dFor (diRng1 (daCons (dC (.int 3)) (daNil))) (dgName 11) (w_law_b6)) (w_law_f13)
def w_law_f15 : DTS := dFz 4 (dSeq (dFor (diAny (dVar 4)) (dgName 9) (w_law_b4)) (w_law_f14))
def w_law_c16 : DTS := dSeq (dSet 8 (dLstM (daNil))) (w_law_f15)
def w_law_f17 : DTS := dSeq (dFor (diRng1 (daCons (dC (.int 2)) (daNil))) (dgName 7) (w_law_b3)) (w_law_c16)
def w_law_c18 : DTS := dSeq (dSet 4 (dLstM (daCons (dCall sp_l_place (daCons (dVar 1) (daNil))) (daNil)))) (dSeq (dSet 5 (dLstM (daCons (dC (.str [])) (daCons (dC (.str [])) (daNil))))) (dSeq (dSet 6 (dOp gEq (dCall sp_l_draw (daCons (dVar 1) (daCons (dC (.int 2)) (daNil)))) (dC (.int 0)))) (w_law_f17)))
def w_law_f19 : DTS := dSeq (dLock 2 (dForK (dVar 2) (dgName 3) (w_law_b2))) (w_law_c18)
def w_law_c20 : DTS := dSeq (dAsg (dC (.str (T "apart"))) (dgSub (dVar 2) (dC (.str (T "apart"))) gSetA)) (w_law_f19)
def w_law_f21 : DTS := dSeq (dFor (diAny (dLst (daCons (dC (.str (T "over"))) (daCons (dC (.str (T "overbox"))) (daNil))))) (dgName 3) (w_law_b1)) (w_law_c20)
def w_law : DTS := dSeq (dSet 1 (dCall sp_l_begin (daCons (dVar 0) (daNil)))) (dSeq (dSet 2 (dDict [(dC (.str (T "same")), dC (.str (T "same"))), (dC (.str (T "over")), dC (.str (T "under"))), (dC (.str (T "overbox")), dC (.str (T "underbox")))])) (w_law_f21))
def TD : List (DKey × D) := [(.inr (T "same"), .str (T "same")), (.inr (T "over"), .str (T "under")), (.inr (T "overbox"), .str (T "underbox")), (.inr (T "under"), .str (T "over")), (.inr (T "underbox"), .str (T "overbox")), (.inr (T "apart"), .str (T "apart"))]
theorem lookT : ∀ w : Wd, lookK TD (.inr w.t) = some (.str w.inv.t)
  | .same => by kernel_rfl
  | .over false => by kernel_rfl
  | .over true => by kernel_rfl
  | .under false => by kernel_rfl
  | .under true => by kernel_rfl
  | .apart => by kernel_rfl
def rowD (ns : List Tx) (x : Tx) : List D := ns.map fun y => .str (relWd x y).t
def wordsD (ns : List Tx) : List D := ns.map fun x => .lst (rowD ns x)
theorem words_at {ns : List Tx} {i : Nat} (h : i < ns.length) : atI (wordsD ns) (i : Int) = some (.lst (rowD ns ns[i])) := by
  rw [atI_nat (by rw [wordsD, List.length_map]; exact h)]
  simp [wordsD]
theorem row_at {ns : List Tx} {x : Tx} {k : Nat} (h : k < ns.length) : atI (rowD ns x) (k : Int) = some (.str (relWd x ns[k]).t) := by
  rw [atI_nat (by rw [rowD, List.length_map]; exact h)]
  simp [rowD]
theorem decide_T2 {α : Type} [DecidableEq α] {a : α} : decide (a = a) = true := decide_eq_true rfl
theorem isa_ss : isaB "str" "str" = true := by decide
/-- a tail, as the law draws it -/
def TlOk (t : Tx) : Prop := t = [] ∨ headM t = true
theorem rel_down {x t : Tx} (h : TlOk t) : (relWd x (x ++ t)).t = if t = [] then T "same" else T "under" ++ thr t := by
  rw [relWd_t]
  unfold relF
  rcases h with rfl | h
  · rw [List.append_nil, if_pos rfl, if_pos rfl]
  · have b : Bn (x ++ t) x t := ⟨rfl, h⟩
    have hl := bn_len b
    have n1 : x ≠ x ++ t := fun e => by rw [← e] at hl; omega
    have n2 : ¬ beneath x (x ++ t) = true := fun z => by have := bn_len (bn_of z); omega
    rw [if_neg n1, if_neg n2, if_pos (of_bn b).1, (of_bn b).2, if_neg (bn_ne h)]
section
variable {pt pl pw : Addr} {ns : List Tx} {M : Mu} {Q : DK} {E : DX} {x0 x1 x2 x3 x4 x5 x6 x7 x8 x9 x10 x11 x12 x13 : Option D} {D0 : DEnds}
theorem law_b11 {i j : Int} {t x y : Tx} {row : List D} (hw : M pw = some (.lst (wordsD ns))) (h1 : atI (wordsD ns) i = some (.lst row)) (h2 : atI row j = some (.str (relWd x y).t)) (he : (relWd x y).t = if t = [] then T "same" else T "under" ++ thr t)
    (hn : D0.nx [x0, x1, some (.ref pt), x3, x4, x5, x6, some (.int j), some (.ref pw), x9, x10, some (.int i), x12, some (.str t)] M) :
    w_law_b11 D0 [x0, x1, some (.ref pt), x3, x4, x5, x6, some (.int j), some (.ref pw), x9, x10, some (.int i), x12, some (.str t)] M := by
  unfold w_law_b11
  walk_at "dl"
  try simp only [hw, h1, h2]
  walk_at "dl"
  try simp only [hw, h1, h2]
  walk_at "dl"
  try simp only [hw, h1, h2]
  walk_at "dl"
  try simp only [hw, h1, h2]
  walk_at "dl"
  try simp only [hw, h1, h2]
  walk_at "dl"
  try simp only [hw, h1, h2]
  walk_at "dl"
  try simp only [hw, h1, h2]
  walk_at "dl"
  try simp only [hw, h1, h2]
  walk_at "dl"
  try simp only [hw, h1, h2]
  walk_at "dl"
  try simp only [hw, h1, h2]
  walk_at "dl"
  refine ⟨t, rfl, ?_⟩
  walk_at "dl"
  rw [he, decide_T2]
  walk_at "dl"
  exact hn
theorem law_b5 {i k : Nat} (hT : M pt = some (.dK TD)) (hw : M pw = some (.lst (wordsD ns))) (hi : i < ns.length) (hk : k < ns.length)
    (hn : D0.nx [x0, x1, some (.ref pt), x3, x4, x5, x6, some (.int k), some (.ref pw), x9, x10, some (.int i), x12, x13] M) :
    w_law_b5 D0 [x0, x1, some (.ref pt), x3, x4, x5, x6, some (.int k), some (.ref pw), x9, x10, some (.int i), x12, x13] M := by
  unfold w_law_b5
  walk_at "dl"
  try simp only [hw, words_at hi, row_at hk, isa_ss, hT, lookT]
  walk_at "dl"
  try simp only [hw, words_at hi, row_at hk, isa_ss, hT, lookT]
  walk_at "dl"
  try simp only [hw, words_at hi, row_at hk, isa_ss, hT, lookT]
  walk_at "dl"
  try simp only [hw, words_at hi, row_at hk, isa_ss, hT, lookT]
  walk_at "dl"
  try simp only [hw, words_at hi, row_at hk, isa_ss, hT, lookT]
  walk_at "dl"
  try simp only [hw, words_at hi, row_at hk, isa_ss, hT, lookT]
  walk_at "dl"
  try simp only [hw, words_at hi, row_at hk, isa_ss, hT, lookT]
  walk_at "dl"
  try simp only [hw, words_at hi, row_at hk, isa_ss, hT, lookT]
  walk_at "dl"
  try simp only [hw, words_at hi, row_at hk, isa_ss, hT, lookT]
  walk_at "dl"
  try simp only [hw, words_at hi, row_at hk, isa_ss, hT, lookT]
  walk_at "dl"
  refine ⟨by decide, ?_⟩
  try simp only [hw, words_at hi, row_at hk, hT, lookT, Option.isSome_some]
  walk_at "dl"
  try simp only [hw, words_at hi, row_at hk, hT, lookT, Option.isSome_some]
  walk_at "dl"
  try simp only [hw, words_at hi, row_at hk, hT, lookT, Option.isSome_some]
  walk_at "dl"
  try simp only [hw, words_at hi, row_at hk, hT, lookT, Option.isSome_some]
  walk_at "dl"
  try simp only [hw, words_at hi, row_at hk, hT, lookT, Option.isSome_some]
  walk_at "dl"
  try simp only [hw, words_at hi, row_at hk, hT, lookT, Option.isSome_some]
  walk_at "dl"
  try simp only [hw, words_at hi, row_at hk, hT, lookT, Option.isSome_some]
  walk_at "dl"
  try simp only [hw, words_at hi, row_at hk, hT, lookT, Option.isSome_some]
  walk_at "dl"
  try simp only [hw, words_at hi, row_at hk, hT, lookT, Option.isSome_some]
  walk_at "dl"
  try simp only [hw, words_at hi, row_at hk, hT, lookT, Option.isSome_some]
  walk_at "dl"
  exact hn
theorem law_b7 {i j k : Nat} (hw : M pw = some (.lst (wordsD ns))) (hi : i < ns.length) (hj : j < ns.length) (hk : k < ns.length)
    (hn : D0.nx [x0, x1, some (.ref pt), x3, x4, x5, x6, some (.int j), some (.ref pw), x9, x10, some (.int i), some (.int k), x13] M) :
    w_law_b7 D0 [x0, x1, some (.ref pt), x3, x4, x5, x6, some (.int j), some (.ref pw), x9, x10, some (.int i), some (.int k), x13] M := by
  unfold w_law_b7
  walk_at "dl"
  try simp only [hw, words_at hi, words_at hj, row_at hk, row_at hj]
  walk_at "dl"
  try simp only [hw, words_at hi, words_at hj, row_at hk, row_at hj]
  walk_at "dl"
  try simp only [hw, words_at hi, words_at hj, row_at hk, row_at hj]
  walk_at "dl"
  try simp only [hw, words_at hi, words_at hj, row_at hk, row_at hj]
  walk_at "dl"
  try simp only [hw, words_at hi, words_at hj, row_at hk, row_at hj]
  walk_at "dl"
  try simp only [hw, words_at hi, words_at hj, row_at hk, row_at hj]
  walk_at "dl"
  try simp only [hw, words_at hi, words_at hj, row_at hk, row_at hj]
  walk_at "dl"
  try simp only [hw, words_at hi, words_at hj, row_at hk, row_at hj]
  walk_at "dl"
  try simp only [hw, words_at hi, words_at hj, row_at hk, row_at hj]
  walk_at "dl"
  try simp only [hw, words_at hi, words_at hj, row_at hk, row_at hj]
  walk_at "dl"
  refine ⟨_, _, rfl, ?_⟩
  walk_at "dl"
  have e : inD (.str (relWd ns[i] ns[k]).t) (wts (fitsW (relWd ns[i] ns[j]) (relWd ns[j] ns[k]))) = true := by
    have q := inD_txs (w := (relWd ns[i] ns[k]).t) (ws := (fitsW (relWd ns[i] ns[j]) (relWd ns[j] ns[k])).map Wd.t)
    rw [show txs ((fitsW (relWd ns[i] ns[j]) (relWd ns[j] ns[k])).map Wd.t) = wts (fitsW (relWd ns[i] ns[j]) (relWd ns[j] ns[k])) by rw [txs, List.map_map]; rfl] at q
    rw [q]
    exact decide_eq_true (List.mem_map_of_mem (fits_rel _ _ _))
  have f : (wts (fitsW (relWd ns[i] ns[j]) (relWd ns[j] ns[k]))).all flatD = true := List.all_eq_true.mpr fun d hd => by
    obtain ⟨w, _, rfl⟩ := List.mem_map.mp hd
    rfl
  refine ⟨rfl, f, ?_⟩
  rw [e]
  walk_at "dl"
  exact hn
theorem law_c8 {i j : Nat} (hw : M pw = some (.lst (wordsD ns))) (hl : ns.length = 3) (hi : i < ns.length) (hj : j < ns.length)
    (hn : ∀ y12, D0.nx [x0, x1, some (.ref pt), x3, x4, x5, x6, some (.int j), some (.ref pw), x9, x10, some (.int i), y12, x13] M) :
    w_law_c8 D0 [x0, x1, some (.ref pt), x3, x4, x5, x6, some (.int j), some (.ref pw), x9, x10, some (.int i), x12, x13] M := by
  unfold w_law_c8
  walk_at "dl"
  refine ⟨by decide, by decide, ?_⟩
  refine wFor_by (fun n τ M' => M' = M ∧ ∃ y12, τ = [x0, x1, some (.ref pt), x3, x4, x5, x6, some (.int j), some (.ref pw), x9, x10, some (.int i), y12, x13]) ⟨rfl, _, rfl⟩ ?_ ?_
  · rintro k d τ M' hd ⟨rfl, y12, rfl⟩ nxt hnx
    obtain ⟨rfl, hk⟩ := upTo_at hd
    rw [Int.zero_add]
    walk_at "dl"
    exact law_b7 hw hi hj (by omega) (hnx _ _ ⟨rfl, _, rfl⟩)
  · rintro τ M' ⟨rfl, y12, rfl⟩
    exact hn y12
theorem law_b9 {i j : Nat} (hT : M pt = some (.dK TD)) (hw : M pw = some (.lst (wordsD ns))) (hl : ns.length = 3) (hi : i < ns.length) (hj : j < ns.length)
    (hn : ∀ y12, D0.nx [x0, x1, some (.ref pt), x3, x4, x5, x6, some (.int j), some (.ref pw), x9, x10, some (.int i), y12, x13] M) :
    w_law_b9 D0 [x0, x1, some (.ref pt), x3, x4, x5, x6, some (.int j), some (.ref pw), x9, x10, some (.int i), x12, x13] M := by
  unfold w_law_b9
  walk_at "dl"
  have e1 : relWd ns[j] ns[i] = (relWd ns[i] ns[j]).inv := rel_inv _ _
  have e2 : relWd ns[i] ns[i] = .same := rel_of (w := .same) rfl
  try simp only [hw, words_at hi, words_at hj, row_at hi, row_at hj, hT, lookT, e1, e2, t_same, decide_T2, decide_T]
  walk_at "dl"
  try simp only [hw, words_at hi, words_at hj, row_at hi, row_at hj, hT, lookT, e1, e2, t_same, decide_T2, decide_T]
  walk_at "dl"
  try simp only [hw, words_at hi, words_at hj, row_at hi, row_at hj, hT, lookT, e1, e2, t_same, decide_T2, decide_T]
  walk_at "dl"
  try simp only [hw, words_at hi, words_at hj, row_at hi, row_at hj, hT, lookT, e1, e2, t_same, decide_T2, decide_T]
  walk_at "dl"
  try simp only [hw, words_at hi, words_at hj, row_at hi, row_at hj, hT, lookT, e1, e2, t_same, decide_T2, decide_T]
  walk_at "dl"
  try simp only [hw, words_at hi, words_at hj, row_at hi, row_at hj, hT, lookT, e1, e2, t_same, decide_T2, decide_T]
  walk_at "dl"
  try simp only [hw, words_at hi, words_at hj, row_at hi, row_at hj, hT, lookT, e1, e2, t_same, decide_T2, decide_T]
  walk_at "dl"
  try simp only [hw, words_at hi, words_at hj, row_at hi, row_at hj, hT, lookT, e1, e2, t_same, decide_T2, decide_T]
  walk_at "dl"
  try simp only [hw, words_at hi, words_at hj, row_at hi, row_at hj, hT, lookT, e1, e2, t_same, decide_T2, decide_T]
  walk_at "dl"
  try simp only [hw, words_at hi, words_at hj, row_at hi, row_at hj, hT, lookT, e1, e2, t_same, decide_T2, decide_T]
  walk_at "dl"
  try simp only [hw, words_at hi, words_at hj, row_at hi, row_at hj, hT, lookT, e1, e2, t_same, decide_T2, decide_T]
  walk_at "dl"
  try simp only [hw, words_at hi, words_at hj, row_at hi, row_at hj, hT, lookT, e1, e2, t_same, decide_T2, decide_T]
  walk_at "dl"
  try simp only [hw, words_at hi, words_at hj, row_at hi, row_at hj, hT, lookT, e1, e2, t_same, decide_T2, decide_T]
  walk_at "dl"
  try simp only [hw, words_at hi, words_at hj, row_at hi, row_at hj, hT, lookT, e1, e2, t_same, decide_T2, decide_T]
  walk_at "dl"
  try simp only [hw, words_at hi, words_at hj, row_at hi, row_at hj, hT, lookT, e1, e2, t_same, decide_T2, decide_T]
  walk_at "dl"
  try simp only [hw, words_at hi, words_at hj, row_at hi, row_at hj, hT, lookT, e1, e2, t_same, decide_T2, decide_T]
  walk_at "dl"
  try simp only [hw, words_at hi, words_at hj, row_at hi, row_at hj, hT, lookT, e1, e2, t_same, decide_T2, decide_T]
  walk_at "dl"
  try simp only [hw, words_at hi, words_at hj, row_at hi, row_at hj, hT, lookT, e1, e2, t_same, decide_T2, decide_T]
  walk_at "dl"
  try simp only [hw, words_at hi, words_at hj, row_at hi, row_at hj, hT, lookT, e1, e2, t_same, decide_T2, decide_T]
  walk_at "dl"
  try simp only [hw, words_at hi, words_at hj, row_at hi, row_at hj, hT, lookT, e1, e2, t_same, decide_T2, decide_T]
  walk_at "dl"
  exact law_c8 hw hl hi hj hn
theorem law_b10 {i : Nat} (hT : M pt = some (.dK TD)) (hw : M pw = some (.lst (wordsD ns))) (hl : ns.length = 3) (hi : i < ns.length)
    (hn : ∀ y7 y12, D0.nx [x0, x1, some (.ref pt), x3, x4, x5, x6, y7, some (.ref pw), x9, x10, some (.int i), y12, x13] M) :
    w_law_b10 D0 [x0, x1, some (.ref pt), x3, x4, x5, x6, x7, some (.ref pw), x9, x10, some (.int i), x12, x13] M := by
  unfold w_law_b10
  walk_at "dl"
  refine ⟨by decide, by decide, ?_⟩
  refine wFor_by (fun n τ M' => M' = M ∧ ∃ y7 y12, τ = [x0, x1, some (.ref pt), x3, x4, x5, x6, y7, some (.ref pw), x9, x10, some (.int i), y12, x13]) ⟨rfl, _, _, rfl⟩ ?_ ?_
  · rintro k d τ M' hd ⟨rfl, y7, y12, rfl⟩ nxt hnx
    obtain ⟨rfl, hk⟩ := upTo_at hd
    rw [Int.zero_add]
    walk_at "dl"
    exact law_b9 hT hw hl hi (by omega) fun y => hnx _ _ ⟨rfl, _, _, rfl⟩
  · rintro τ M' ⟨rfl, y7, y12, rfl⟩
    exact hn y7 y12
theorem law_b6 {i : Nat} (hT : M pt = some (.dK TD)) (hw : M pw = some (.lst (wordsD ns))) (hl : ns.length = 3) (hi : i < ns.length)
    (hn : ∀ y7, D0.nx [x0, x1, some (.ref pt), x3, x4, x5, x6, y7, some (.ref pw), x9, x10, some (.int i), x12, x13] M) :
    w_law_b6 D0 [x0, x1, some (.ref pt), x3, x4, x5, x6, x7, some (.ref pw), x9, x10, some (.int i), x12, x13] M := by
  unfold w_law_b6
  walk_at "dl"
  refine ⟨by decide, by decide, ?_⟩
  refine wFor_by (fun n τ M' => M' = M ∧ ∃ y7, τ = [x0, x1, some (.ref pt), x3, x4, x5, x6, y7, some (.ref pw), x9, x10, some (.int i), x12, x13]) ⟨rfl, _, rfl⟩ ?_ ?_
  · rintro k d τ M' hd ⟨rfl, y7, rfl⟩ nxt hnx
    obtain ⟨rfl, hk⟩ := upTo_at hd
    rw [Int.zero_add]
    walk_at "dl"
    exact law_b5 hT hw hi (by omega) (hnx _ _ ⟨rfl, _, rfl⟩)
  · rintro τ M' ⟨rfl, y7, rfl⟩
    exact hn y7
/-- the nodes of a chain -/
def Chain (ns : List Tx) (t0 t1 : Tx) : Prop := ∃ n, ns = [n, n ++ t0, n ++ t0 ++ t1] ∧ TlOk t0 ∧ TlOk t1 ∧ TlOk (t0 ++ t1) ∧ t0.length + t1.length ≤ 16777216
theorem law_c12 {ch : Bool} {t0 t1 : Tx} (hw : M pw = some (.lst (wordsD ns))) (hl : M pl = some (.lst [.str t0, .str t1])) (hc : ch = true → Chain ns t0 t1) (hQ : Q (.bl true) M) :
    w_law_c12 (Ret Q E) [x0, x1, some (.ref pt), x3, x4, some (.ref pl), some (.bl ch), x7, some (.ref pw), x9, x10, x11, x12, x13] M := by
  unfold w_law_c12
  walk_at "dl"
  cases ch with
  | false =>
    walk_at "dl"
    exact hQ
  | true =>
    obtain ⟨n, rfl, h0, h1, h2, h3⟩ := hc rfl
    try simp only [hl]
    walk_at "dl"
    try simp only [hl]
    walk_at "dl"
    try simp only [hl]
    walk_at "dl"
    try simp only [hl]
    walk_at "dl"
    try simp only [hl]
    walk_at "dl"
    try simp only [hl]
    walk_at "dl"
    try simp only [hl]
    walk_at "dl"
    try simp only [hl]
    walk_at "dl"
    try simp only [hl]
    walk_at "dl"
    try simp only [hl]
    walk_at "dl"
    refine ⟨by decide, ?_⟩
    try simp only [hl]
    walk_at "dl"
    try simp only [hl]
    walk_at "dl"
    try simp only [hl]
    walk_at "dl"
    try simp only [hl]
    walk_at "dl"
    try simp only [hl]
    walk_at "dl"
    try simp only [hl]
    walk_at "dl"
    try simp only [hl]
    walk_at "dl"
    try simp only [hl]
    walk_at "dl"
    try simp only [hl]
    walk_at "dl"
    try simp only [hl]
    walk_at "dl"
    refine ⟨by decide, ?_⟩
    try simp only [hl]
    walk_at "dl"
    try simp only [hl]
    walk_at "dl"
    try simp only [hl]
    walk_at "dl"
    try simp only [hl]
    walk_at "dl"
    try simp only [hl]
    walk_at "dl"
    try simp only [hl]
    walk_at "dl"
    try simp only [hl]
    walk_at "dl"
    try simp only [hl]
    walk_at "dl"
    try simp only [hl]
    walk_at "dl"
    try simp only [hl]
    walk_at "dl"
    refine ⟨h3, by decide, by decide, ?_⟩
    refine wFor_cons ?_
    walk_at "dl"
    refine law_b11 (x := n) (y := n ++ t0) hw (i := 0) (j := 1) (row := rowD [n, n ++ t0, n ++ t0 ++ t1] n) rfl rfl (rel_down h0) ?_
    walk_at "dl"
    refine wFor_cons ?_
    walk_at "dl"
    refine law_b11 (x := n ++ t0) (y := n ++ t0 ++ t1) hw (i := 1) (j := 2) (row := rowD [n, n ++ t0, n ++ t0 ++ t1] (n ++ t0)) rfl rfl (rel_down h1) ?_
    walk_at "dl"
    refine wFor_cons ?_
    walk_at "dl"
    refine law_b11 (x := n) (y := n ++ t0 ++ t1) hw (i := 0) (j := 2) (row := rowD [n, n ++ t0, n ++ t0 ++ t1] n) rfl rfl (by rw [List.append_assoc]; exact rel_down h2) ?_
    walk_at "dl"
    refine wFor_nil ?_
    walk_at "dl"
    exact hQ
theorem law_f13 {ch : Bool} {t0 t1 : Tx} (hT : M pt = some (.dK TD)) (hw : M pw = some (.lst (wordsD ns))) (hl3 : ns.length = 3) (hl : M pl = some (.lst [.str t0, .str t1])) (hc : ch = true → Chain ns t0 t1) (hQ : Q (.bl true) M) :
    w_law_f13 (Ret Q E) [x0, x1, some (.ref pt), x3, x4, some (.ref pl), some (.bl ch), x7, some (.ref pw), x9, x10, x11, x12, x13] M := by
  unfold w_law_f13
  walk_at "dl"
  refine ⟨by decide, by decide, ?_⟩
  refine wFor_by (fun n τ M' => M' = M ∧ ∃ y7 y11 y12, τ = [x0, x1, some (.ref pt), x3, x4, some (.ref pl), some (.bl ch), y7, some (.ref pw), x9, x10, y11, y12, x13]) ⟨rfl, _, _, _, rfl⟩ ?_ ?_
  · rintro k d τ M' hd ⟨rfl, y7, y11, y12, rfl⟩ nxt hnx
    obtain ⟨rfl, hk⟩ := upTo_at hd
    rw [Int.zero_add]
    walk_at "dl"
    exact law_b10 hT hw hl3 (by omega) fun a b => hnx _ _ ⟨rfl, _, _, _, rfl⟩
  · rintro τ M' ⟨rfl, y7, y11, y12, rfl⟩
    walk_at "dl"
    exact law_c12 hw hl hc hQ
theorem law_f14 {ch : Bool} {t0 t1 : Tx} (hT : M pt = some (.dK TD)) (hw : M pw = some (.lst (wordsD ns))) (hl3 : ns.length = 3) (hl : M pl = some (.lst [.str t0, .str t1])) (hc : ch = true → Chain ns t0 t1) (hQ : Q (.bl true) M) :
    w_law_f14 (Ret Q E) [x0, x1, some (.ref pt), x3, x4, some (.ref pl), some (.bl ch), x7, some (.ref pw), x9, x10, x11, x12, x13] M := by
  unfold w_law_f14
  walk_at "dl"
  refine ⟨by decide, by decide, ?_⟩
  refine wFor_by (fun n τ M' => M' = M ∧ ∃ y7 y11, τ = [x0, x1, some (.ref pt), x3, x4, some (.ref pl), some (.bl ch), y7, some (.ref pw), x9, x10, y11, x12, x13]) ⟨rfl, _, _, rfl⟩ ?_ ?_
  · rintro k d τ M' hd ⟨rfl, y7, y11, rfl⟩ nxt hnx
    obtain ⟨rfl, hk⟩ := upTo_at hd
    rw [Int.zero_add]
    walk_at "dl"
    exact law_b6 hT hw hl3 (by omega) fun a => hnx _ _ ⟨rfl, _, _, rfl⟩
  · rintro τ M' ⟨rfl, y7, y11, rfl⟩
    walk_at "dl"
    exact law_f13 hT hw hl3 hl hc hQ
theorem law_b4 {x : Tx} {acc : List D} (hl : ns.length = 3) (hx : x.length ≤ 1000) (hns : ∀ y ∈ ns, y.length ≤ 1000) (ha : acc.length ≤ 10)
    (hn : ∀ y10, D0.nx [x0, x1, some (.ref pt), x3, some (.lst (txs ns)), x5, x6, x7, some (.ref pw), some (.str x), y10, x11, x12, x13] (put M pw (.lst (acc ++ [.lst (rowD ns x)])))) :
    w_law_b4 D0 [x0, x1, some (.ref pt), x3, some (.lst (txs ns)), x5, x6, x7, some (.ref pw), some (.str x), x10, x11, x12, x13] (put M pw (.lst acc)) := by
  unfold w_law_b4
  walk_at "dl"
  try simp only [put_same, dLcM]
  walk_at "dl"
  try simp only [put_same, dLcM]
  walk_at "dl"
  intro p hp
  refine lc_map (f := fun d => match d with
    | .str y => .str (relWd x y).t
    | _ => .non) ?_ ?_ ?_
  · rw [txs, List.length_map]; omega
  · intro d hd acc N h
    obtain ⟨y, hy, rfl⟩ := List.mem_map.mp hd
    have l1 := hns y hy
    walk_at "dl"
    refine ⟨x, y, rfl, by omega, by omega, ?_⟩
    rw [← relWd_t]
    exact h
  · try simp only [put_same, del_put_new hp]
    walk_at "dl"
    try simp only [put_same, del_put_new hp]
    walk_at "dl"
    try simp only [put_same, del_put_new hp]
    walk_at "dl"
    try simp only [put_same, del_put_new hp]
    walk_at "dl"
    try simp only [put_same, del_put_new hp]
    walk_at "dl"
    try simp only [put_same, del_put_new hp]
    walk_at "dl"
    try simp only [put_same, del_put_new hp]
    walk_at "dl"
    try simp only [put_same, del_put_new hp]
    walk_at "dl"
    try simp only [put_same, del_put_new hp]
    walk_at "dl"
    try simp only [put_same, del_put_new hp]
    walk_at "dl"
    refine ⟨by omega, ?_⟩
    have q := hn x10
    rw [show (txs ns).map (fun d => match d with
      | .str y => .str (relWd x y).t
      | _ => D.non) = rowD ns x by rw [txs, List.map_map]; rfl]
    exact q
theorem law_f15 {pn : Addr} {ch : Bool} {t0 t1 : Tx} (hT : M pt = some (.dK TD)) (hw : M pw = some (.lst [])) (hN : M pn = some (.lst (txs ns))) (hl3 : ns.length = 3) (hns : ∀ y ∈ ns, y.length ≤ 1000) (hl : M pl = some (.lst [.str t0, .str t1])) (hc : ch = true → Chain ns t0 t1)
    (d1 : pt ≠ pn) (d2 : pl ≠ pn) (d3 : pw ≠ pn) (d4 : pt ≠ pw) (d5 : pl ≠ pw) (hQ : ∀ M', Q (.bl true) M') :
    w_law_f15 (Ret Q E) [x0, x1, some (.ref pt), x3, some (.ref pn), some (.ref pl), some (.bl ch), x7, some (.ref pw), x9, x10, x11, x12, x13] M := by
  unfold w_law_f15
  walk_at "dl"
  try simp only [hN]
  walk_at "dl"
  try simp only [hN]
  walk_at "dl"
  refine wFor_by (fun n τ M' => M' = put (del M pn) pw (.lst ((ns.take n).map fun x => .lst (rowD ns x))) ∧ ∃ y9 y10, τ = [x0, x1, some (.ref pt), x3, some (.lst (txs ns)), some (.ref pl), some (.bl ch), x7, some (.ref pw), y9, y10, x11, x12, x13]) ⟨?_, _, _, rfl⟩ ?_ ?_
  · rw [List.take_zero, List.map_nil, put_eq (by rw [del_ne d3]; exact hw)]
  · rintro k d τ M' hd ⟨rfl, y9, y10, rfl⟩ nxt hnx
    rw [txs, List.getElem?_map] at hd
    obtain ⟨x, hx, rfl⟩ := Option.map_eq_some_iff.mp hd
    have hk := (List.getElem?_eq_some_iff.mp hx).1
    walk_at "dl"
    refine law_b4 hl3 (hns x (List.mem_of_getElem? hx)) hns ?_ fun y => hnx _ _ ⟨?_, _, _, rfl⟩
    · rw [List.length_map, List.length_take]; omega
    · rw [List.take_succ, hx, Option.toList_some, List.map_append]
      rfl
  · rintro τ M' ⟨rfl, y9, y10, rfl⟩
    rw [show (txs ns).length = ns.length by rw [txs, List.length_map], List.take_length]
    walk_at "dl"
    refine law_f14 ?_ put_same hl3 ?_ hc (hQ _)
    · rw [put_ne d4, del_ne d1]; exact hT
    · rw [put_ne d5, del_ne d2]; exact hl
theorem law_c16 {pn : Addr} {ch : Bool} {t0 t1 : Tx} (hT : M pt = some (.dK TD)) (hN : M pn = some (.lst (txs ns))) (hl3 : ns.length = 3) (hns : ∀ y ∈ ns, y.length ≤ 1000) (hl : M pl = some (.lst [.str t0, .str t1])) (hc : ch = true → Chain ns t0 t1)
    (d1 : pt ≠ pn) (d2 : pl ≠ pn) (hQ : ∀ M', Q (.bl true) M') :
    w_law_c16 (Ret Q E) [x0, x1, some (.ref pt), x3, some (.ref pn), some (.ref pl), some (.bl ch), x7, x8, x9, x10, x11, x12, x13] M := by
  unfold w_law_c16
  walk_at "dl"
  refine ⟨by decide, fun pw hp => ?_⟩
  have ne : ∀ {a : Addr} {m : MO}, M a = some m → a ≠ pw := fun {a m} h z => by rw [z, hp] at h; cases h
  exact law_f15 (by rw [put_ne (ne hT)]; exact hT) put_same (by rw [put_ne (ne hN)]; exact hN) hl3 hns (by rw [put_ne (ne hl)]; exact hl) hc d1 d2 (fun z => ne hN z.symm) (ne hT) (ne hl) hQ
/-- how the nodes stand after so many turns -/
def Grown (ch : Bool) (i : Nat) (ns : List Tx) (t0 t1 : Tx) : Prop := ns.length = i + 1 ∧ (∀ y ∈ ns, Nd 12 y) ∧ t0.length ≤ 100 ∧ t1.length ≤ 100 ∧ (ch = true → match i with
  | 0 => True
  | 1 => ∃ n, ns = [n, n ++ t0] ∧ TlOk t0
  | _ => Chain ns t0 t1)
theorem tlok {k : Nat} {t : Tx} (h : Tl k t) : TlOk t := by
  obtain ⟨l, _, hs, rfl⟩ := h
  cases l with
  | nil => exact .inl rfl
  | cons s l =>
    obtain ⟨m, n, rfl, hm, _⟩ := hs s List.mem_cons_self
    refine .inr ?_
    rw [List.flatten_cons]
    show isM m = true
    rcases hm with rfl | rfl <;> rfl
theorem tlok_app {s t : Tx} (h : TlOk s) (k : TlOk t) : TlOk (s ++ t) := by
  rcases h with rfl | h
  · exact k
  · cases s with
    | nil => cases h
    | cons c s => exact .inr h
/-- a tail of at most the steps that are left -/
theorem nd_more {x t : Tx} {r : Tx} {l : List Tx} (hr : Nm r) (hl : Steps l) (hx : x = r ++ l.flatten) (h12 : l.length ≤ 12) {k : Nat} (ht : Tl k t) (hk : k ≤ 12 - l.length) : Nd 12 (x ++ t) := by
  obtain ⟨m, hm, hs, rfl⟩ := ht
  exact ⟨r, l ++ m, hr, by rw [List.length_append]; omega, hl.append hs, by rw [hx, List.flatten_append, List.append_assoc]⟩
theorem nd_split {x : Tx} (h : Nd 12 x) : ∃ r l, Nm r ∧ Steps l ∧ x = r ++ l.flatten ∧ l.length ≤ 12 ∧ partsF x = r :: l := by
  obtain ⟨r, l, hr, hl, hs, e⟩ := h
  exact ⟨r, l, hr, hs, e, hl, by rw [e]; exact nd_parts hr hs⟩
theorem set_last {α : Type} {l : List α} {x y : α} : (l ++ [x]).set l.length y = l ++ [y] := by simp
theorem pickR_ {a q : Addr} {xs : List D} {M : Mu} {Q : DK} {E : DX} (h : Src M a) (n : q ≠ a) (hi : M q = some (.lst xs)) (h0 : 0 < xs.length) (h1 : xs.length < 1000000) (k : ∀ d M', d ∈ xs → SrcTo a M M' → Q d M') : sp_l_pick [.ref a, .ref q] M Q E := ⟨a, _, xs, rfl, rowI_ref n hi, h0, h1, h, k⟩
theorem ix20 : ixN 2 0 = some 0 := rfl
theorem ix21 : ixN 2 1 = some 1 := rfl
theorem src_put {M : Mu} {a q : Addr} {m : MO} (h : Src M a) (n : q ≠ a) : Src (put M q m) a := by
  obtain ⟨ns, t, r, d, e, h0⟩ := h
  exact ⟨ns, t, r, d, by rw [put_ne (Ne.symm n)]; exact e, h0⟩
theorem law_b3 {a pn : Addr} {ch : Bool} {i : Nat} {iz : Int} {t0 t1 : Tx} (hiz : (i = 0 ∧ iz = 0) ∨ (i = 1 ∧ iz = 1)) (hsrc : Src M a) (hN : M pn = some (.lst (txs ns))) (hl : M pl = some (.lst [.str t0, .str t1])) (g : Grown ch i ns t0 t1) (d1 : pn ≠ a) (d2 : pl ≠ a) (d3 : pn ≠ pl)
    (hn : ∀ ns' u0 u1 M', Grown ch (i + 1) ns' u0 u1 → Src M' a → M' pn = some (.lst (txs ns')) → M' pl = some (.lst [.str u0, .str u1]) → (∀ b, b ≠ a → b ≠ pn → b ≠ pl → M' b = M b) → D0.nx [x0, some (.ref a), x2, x3, some (.ref pn), some (.ref pl), some (.bl ch), some (.int iz), x8, x9, x10, x11, x12, x13] M') :
    w_law_b3 D0 [x0, some (.ref a), x2, x3, some (.ref pn), some (.ref pl), some (.bl ch), some (.int iz), x8, x9, x10, x11, x12, x13] M := by
  obtain ⟨g1, g2, g3, g4, g5⟩ := g
  have i2 : i < 2 := by omega
  obtain ⟨ini, x, rfl⟩ := last_of (l := ns) (fun e => by rw [e] at g1; cases g1)
  have hx := g2 x (List.mem_append_right _ List.mem_cons_self)
  have lx := hx.len
  obtain ⟨r, l, hr, hs, ex, h12, hp⟩ := nd_split hx
  have hN : M pn = some (.lst (txs ini ++ [.str x])) := by rw [hN, txs_app]; rfl
  have li : ini.length = i := by
    rw [List.length_append] at g1
    simp at g1
    exact g1
  have li2 : (txs ini).length = i := by rw [txs, List.length_map]; exact li
  unfold w_law_b3
  walk_at "dl"
  cases ch with
  | true =>
    try simp only [hN, atI_m1]
    walk_at "dl"
    try simp only [hN, atI_m1]
    walk_at "dl"
    try simp only [hN, atI_m1]
    walk_at "dl"
    try simp only [hN, atI_m1]
    walk_at "dl"
    try simp only [hN, atI_m1]
    walk_at "dl"
    try simp only [hN, atI_m1]
    walk_at "dl"
    try simp only [hN, atI_m1]
    walk_at "dl"
    try simp only [hN, atI_m1]
    walk_at "dl"
    try simp only [hN, atI_m1]
    walk_at "dl"
    try simp only [hN, atI_m1]
    walk_at "dl"
    refine ⟨x, rfl, by omega, ?_⟩
    rw [hp]
    walk_at "dl"
    try simp only [List.length_map]
    walk_at "dl"
    try simp only [List.length_map]
    walk_at "dl"
    refine ⟨a, _, rfl, hsrc, by split <;> omega, by split <;> omega, fun t M1 ht s1 => ?_⟩
    have nt := nd_more hr hs ex h12 ht (by split <;> omega)
    have ok := tlok ht
    have lt : t.length ≤ 60 := by have := ht.len; split at this <;> omega
    have hN1 : M1 pn = some (.lst (txs ini ++ [.str x])) := by rw [s1.2 pn d1]; exact hN
    have hN2 : ∀ X, put M1 pl X pn = some (.lst (txs ini ++ [.str x])) := fun X => by rw [put_ne d3]; exact hN1
    have hl1 : M1 pl = some (.lst [.str t0, .str t1]) := by rw [s1.2 pl d2]; exact hl
    have new : ∀ y ∈ ini ++ [x] ++ [x ++ t], Nd 12 y := fun y hy => by
      rcases List.mem_append.mp hy with hy | hy
      · exact g2 y hy
      · rw [List.mem_singleton.mp hy]; exact nt
    have nlen : (ini ++ [x] ++ [x ++ t]).length = i + 1 + 1 := by rw [List.length_append, g1]; rfl
    rcases hiz with ⟨rfl, rfl⟩ | ⟨rfl, rfl⟩
    · try simp only [hl1, ix20, hN2, put_same, atI_m1]
      walk_at "dl"
      try simp only [hl1, ix20, hN2, put_same, atI_m1]
      walk_at "dl"
      try simp only [hl1, ix20, hN2, put_same, atI_m1]
      walk_at "dl"
      try simp only [hl1, ix20, hN2, put_same, atI_m1]
      walk_at "dl"
      try simp only [hl1, ix20, hN2, put_same, atI_m1]
      walk_at "dl"
      try simp only [hl1, ix20, hN2, put_same, atI_m1]
      walk_at "dl"
      try simp only [hl1, ix20, hN2, put_same, atI_m1]
      walk_at "dl"
      try simp only [hl1, ix20, hN2, put_same, atI_m1]
      walk_at "dl"
      try simp only [hl1, ix20, hN2, put_same, atI_m1]
      walk_at "dl"
      try simp only [hl1, ix20, hN2, put_same, atI_m1]
      walk_at "dl"
      refine ⟨by omega, ?_⟩
      try simp only [hN2, hN1]
      walk_at "dl"
      try simp only [hN2, hN1]
      walk_at "dl"
      try simp only [hN2, hN1]
      walk_at "dl"
      try simp only [hN2, hN1]
      walk_at "dl"
      try simp only [hN2, hN1]
      walk_at "dl"
      try simp only [hN2, hN1]
      walk_at "dl"
      try simp only [hN2, hN1]
      walk_at "dl"
      try simp only [hN2, hN1]
      walk_at "dl"
      try simp only [hN2, hN1]
      walk_at "dl"
      try simp only [hN2, hN1]
      walk_at "dl"
      refine ⟨by rw [List.length_append, li2]; show _ + 1 < _; decide, ?_⟩
      refine hn (ini ++ [x] ++ [x ++ t]) t t1 _ ⟨nlen, new, by omega, g4, fun _ => ?_⟩ (src_put (src_put s1.1 d2) d1) ?_ ?_ fun b b1 b2 b3 => ?_
      · have e : ini = [] := List.length_eq_zero_iff.mp li
        rw [e]
        exact ⟨x, rfl, ok⟩
      · rw [put_same, txs_app, txs_app]; rfl
      · rw [put_ne (Ne.symm d3), put_same]
      · rw [put_ne b2, put_ne b3, s1.2 b b1]
    · try simp only [hl1, ix21, hN2, put_same, atI_m1]
      walk_at "dl"
      try simp only [hl1, ix21, hN2, put_same, atI_m1]
      walk_at "dl"
      try simp only [hl1, ix21, hN2, put_same, atI_m1]
      walk_at "dl"
      try simp only [hl1, ix21, hN2, put_same, atI_m1]
      walk_at "dl"
      try simp only [hl1, ix21, hN2, put_same, atI_m1]
      walk_at "dl"
      try simp only [hl1, ix21, hN2, put_same, atI_m1]
      walk_at "dl"
      try simp only [hl1, ix21, hN2, put_same, atI_m1]
      walk_at "dl"
      try simp only [hl1, ix21, hN2, put_same, atI_m1]
      walk_at "dl"
      try simp only [hl1, ix21, hN2, put_same, atI_m1]
      walk_at "dl"
      try simp only [hl1, ix21, hN2, put_same, atI_m1]
      walk_at "dl"
      refine ⟨by omega, ?_⟩
      try simp only [hN2, hN1]
      walk_at "dl"
      try simp only [hN2, hN1]
      walk_at "dl"
      try simp only [hN2, hN1]
      walk_at "dl"
      try simp only [hN2, hN1]
      walk_at "dl"
      try simp only [hN2, hN1]
      walk_at "dl"
      try simp only [hN2, hN1]
      walk_at "dl"
      try simp only [hN2, hN1]
      walk_at "dl"
      try simp only [hN2, hN1]
      walk_at "dl"
      try simp only [hN2, hN1]
      walk_at "dl"
      try simp only [hN2, hN1]
      walk_at "dl"
      refine ⟨by rw [List.length_append, li2]; show _ + 1 < _; decide, ?_⟩
      refine hn (ini ++ [x] ++ [x ++ t]) t0 t _ ⟨nlen, new, g3, by omega, fun _ => ?_⟩ (src_put (src_put s1.1 d2) d1) ?_ ?_ fun b b1 b2 b3 => ?_
      · obtain ⟨n, e, h0⟩ := g5 rfl
        have e2 : ini = [n] ∧ x = n ++ t0 := by
          have := List.append_inj_left' (s₁ := ini) (t₁ := [x]) (s₂ := [n]) (t₂ := [n ++ t0]) e rfl
          refine ⟨this, ?_⟩
          rw [this] at e
          simpa using e
        obtain ⟨rfl, rfl⟩ := e2
        exact ⟨n, rfl, h0, ok, tlok_app h0 ok, by omega⟩
      · rw [put_same, txs_app, txs_app]; rfl
      · rw [put_ne (Ne.symm d3), put_same]
      · rw [put_ne b2, put_ne b3, s1.2 b b1]
  | false =>
    walk_at "dl"
    try simp only [hN]
    walk_at "dl"
    try simp only [hN]
    walk_at "dl"
    try simp only [hN]
    walk_at "dl"
    try simp only [hN]
    walk_at "dl"
    try simp only [hN]
    walk_at "dl"
    try simp only [hN]
    walk_at "dl"
    try simp only [hN]
    walk_at "dl"
    try simp only [hN]
    walk_at "dl"
    try simp only [hN]
    walk_at "dl"
    try simp only [hN]
    walk_at "dl"
    refine pickR_ hsrc d1 hN (by simp) (by rw [List.length_append, li2]; simp; omega) fun d M1 hd s1 => ?_
    have hd : ∃ y, d = .str y ∧ Nd 12 y := by
      have e : txs ini ++ [.str x] = txs (ini ++ [x]) := by rw [txs_app]; rfl
      rw [e] at hd
      obtain ⟨y, hy, rfl⟩ := List.mem_map.mp hd
      exact ⟨y, rfl, g2 y hy⟩
    obtain ⟨y, rfl, hy⟩ := hd
    walk_at "dl"
    refine ⟨a, y, 12, rfl, hy, by decide, by decide, s1.1, fun z M2 hz s2 => ?_⟩
    have hN2 : M2 pn = some (.lst (txs ini ++ [.str x])) := by rw [s2.2 pn d1, s1.2 pn d1]; exact hN
    have hl2 : M2 pl = some (.lst [.str t0, .str t1]) := by rw [s2.2 pl d2, s1.2 pl d2]; exact hl
    try simp only [hN2]
    walk_at "dl"
    try simp only [hN2]
    walk_at "dl"
    try simp only [hN2]
    walk_at "dl"
    try simp only [hN2]
    walk_at "dl"
    try simp only [hN2]
    walk_at "dl"
    try simp only [hN2]
    walk_at "dl"
    try simp only [hN2]
    walk_at "dl"
    try simp only [hN2]
    walk_at "dl"
    try simp only [hN2]
    walk_at "dl"
    try simp only [hN2]
    walk_at "dl"
    refine ⟨by rw [List.length_append, li2]; simp; omega, ?_⟩
    have s2p : Src (put M2 pn (.lst (txs ini ++ [.str x] ++ [.str z]))) a := src_put s2.1 d1
    refine draw_ s2p (by decide) (by decide) fun q M3 q0 q1 s3 => ?_
    have hN3 : M3 pn = some (.lst (txs ini ++ [.str x] ++ [.str z])) := by rw [s3.2 pn d1, put_same]
    have hl3 : M3 pl = some (.lst [.str t0, .str t1]) := by rw [s3.2 pl d2, put_ne (Ne.symm d3)]; exact hl2
    have oth : ∀ b, b ≠ a → b ≠ pn → b ≠ pl → M3 b = M b := fun b b1 b2 b3 => by rw [s3.2 b b1, put_ne b2, s2.2 b b1, s1.2 b b1]
    have grow : ∀ w, Nd 12 w → Grown false (i + 1) (ini ++ [x] ++ [w]) t0 t1 := fun w hw => ⟨by rw [List.length_append, g1]; rfl, fun y hy => by
      rcases List.mem_append.mp hy with hy | hy
      · exact g2 y hy
      · rw [List.mem_singleton.mp hy]; exact hw, g3, g4, fun h => nomatch h⟩
    walk_at "dl"
    split
    · obtain ⟨r2, l2, hr2, hs2, ez, h12z, hpz⟩ := nd_split hz
      have lz := hz.len
      try simp only [hN3, atI_m1]
      walk_at "dl"
      try simp only [hN3, atI_m1]
      walk_at "dl"
      try simp only [hN3, atI_m1]
      walk_at "dl"
      try simp only [hN3, atI_m1]
      walk_at "dl"
      try simp only [hN3, atI_m1]
      walk_at "dl"
      try simp only [hN3, atI_m1]
      walk_at "dl"
      try simp only [hN3, atI_m1]
      walk_at "dl"
      try simp only [hN3, atI_m1]
      walk_at "dl"
      try simp only [hN3, atI_m1]
      walk_at "dl"
      try simp only [hN3, atI_m1]
      walk_at "dl"
      refine ⟨z, rfl, by omega, ?_⟩
      rw [hpz]
      walk_at "dl"
      try simp only [List.length_map]
      walk_at "dl"
      try simp only [List.length_map]
      walk_at "dl"
      refine ⟨a, _, rfl, s3.1, by split <;> omega, by split <;> omega, fun t M4 ht s4 => ?_⟩
      have nt := nd_more hr2 hs2 ez h12z ht (by split <;> omega)
      have lt : t.length ≤ 60 := by have := ht.len; split at this <;> omega
      have hN4 : M4 pn = some (.lst (txs ini ++ [.str x] ++ [.str z])) := by rw [s4.2 pn d1]; exact hN3
      have hix : ixN (txs ini ++ [D.str x] ++ [D.str z]).length (-1) = some (txs ini ++ [D.str x]).length := by rw [List.length_append]; exact ixN_m1
      walk_at "dl"
      refine ⟨by omega, ?_⟩
      try simp only [hN4, hix, set_last]
      walk_at "dl"
      try simp only [hN4, hix, set_last]
      walk_at "dl"
      try simp only [hN4, hix, set_last]
      walk_at "dl"
      try simp only [hN4, hix, set_last]
      walk_at "dl"
      try simp only [hN4, hix, set_last]
      walk_at "dl"
      try simp only [hN4, hix, set_last]
      walk_at "dl"
      try simp only [hN4, hix, set_last]
      walk_at "dl"
      try simp only [hN4, hix, set_last]
      walk_at "dl"
      try simp only [hN4, hix, set_last]
      walk_at "dl"
      try simp only [hN4, hix, set_last]
      walk_at "dl"
      refine hn (ini ++ [x] ++ [z ++ t]) t0 t1 _ (grow _ nt) (src_put s4.1 d1) ?_ ?_ fun b b1 b2 b3 => ?_
      · rw [put_same, txs_app, txs_app]; rfl
      · rw [put_ne (Ne.symm d3), s4.2 pl d2]; exact hl3
      · rw [put_ne b2, s4.2 b b1]; exact oth b b1 b2 b3
    · refine hn (ini ++ [x] ++ [z]) t0 t1 _ (grow _ hz) s3.1 ?_ hl3 oth
      rw [hN3, txs_app, txs_app]; rfl
theorem law_f17 {a pn : Addr} {ch : Bool} {n : Tx} (hsrc : Src M a) (hT : M pt = some (.dK TD)) (hN : M pn = some (.lst [.str n])) (hl : M pl = some (.lst [.str [], .str []])) (hn : Nd 12 n) (d1 : pn ≠ a) (d2 : pl ≠ a) (d3 : pn ≠ pl) (d4 : pt ≠ a) (d5 : pt ≠ pn) (d6 : pt ≠ pl) (hQ : ∀ M', Q (.bl true) M') :
    w_law_f17 (Ret Q E) [x0, some (.ref a), some (.ref pt), x3, some (.ref pn), some (.ref pl), some (.bl ch), x7, x8, x9, x10, x11, x12, x13] M := by
  unfold w_law_f17
  walk_at "dl"
  refine ⟨by decide, by decide, ?_⟩
  refine wFor_by (fun i τ M' => ∃ ns t0 t1 y7, τ = [x0, some (.ref a), some (.ref pt), x3, some (.ref pn), some (.ref pl), some (.bl ch), y7, x8, x9, x10, x11, x12, x13] ∧ Grown ch i ns t0 t1 ∧ Src M' a ∧ M' pn = some (.lst (txs ns)) ∧ M' pl = some (.lst [.str t0, .str t1]) ∧ M' pt = some (.dK TD))
    ⟨[n], [], [], _, rfl, ⟨rfl, fun y hy => by rw [List.mem_singleton.mp hy]; exact hn, by decide, by decide, fun _ => trivial⟩, hsrc, hN, hl, hT⟩ ?_ ?_
  · rintro i d τ M' hd ⟨ns, t0, t1, y7, rfl, g, s, h1, h2, h3⟩ nxt hnx
    obtain ⟨rfl, hi⟩ := upTo_at hd
    walk_at "dl"
    refine law_b3 (i := i) (by omega) s h1 h2 g d1 d2 d3 fun ns' u0 u1 M2 g' s' e1 e2 o => hnx _ _ ⟨ns', u0, u1, _, rfl, g', s', e1, e2, ?_⟩
    rw [o pt d4 d5 d6]
    exact h3
  · rintro τ M' ⟨ns, t0, t1, y7, rfl, g, s, h1, h2, h3⟩
    obtain ⟨g1, g2, g3, g4, g5⟩ := g
    walk_at "dl"
    exact law_c16 h3 h1 g1 (fun y hy => by have := (g2 y hy).len; omega) h2 g5 d5 (Ne.symm d3) hQ
theorem law_c18 {a : Addr} (hsrc : Src M a) (hT : M pt = some (.dK TD)) (d4 : pt ≠ a) (hQ : ∀ M', Q (.bl true) M') :
    w_law_c18 (Ret Q E) [x0, some (.ref a), some (.ref pt), x3, x4, x5, x6, x7, x8, x9, x10, x11, x12, x13] M := by
  unfold w_law_c18
  walk_at "dl"
  refine ⟨a, rfl, hsrc, fun n M1 hn s1 => ?_⟩
  walk_at "dl"
  refine ⟨by decide, fun pn hp => ?_⟩
  walk_at "dl"
  refine ⟨by decide, fun pl hp2 => ?_⟩
  walk_at "dl"
  obtain ⟨s2, e1⟩ := src_other (m := .lst [.str n]) s1.1 hp
  obtain ⟨s3, e2⟩ := src_other (m := .lst [.str [], .str []]) s2 hp2
  have e3 : pn ≠ pl := fun z => by rw [← z, put_same] at hp2; cases hp2
  have t1 : M1 pt = some (.dK TD) := by rw [s1.2 pt d4]; exact hT
  have e4 : pt ≠ pn := fun z => by rw [z, hp] at t1; cases t1
  have e5 : pt ≠ pl := fun z => by rw [← z, put_ne e4, t1] at hp2; cases hp2
  refine draw_ s3 (by decide) (by decide) fun k M2 k0 k1 s4 => ?_
  walk_at "dl"
  refine law_f17 s4.1 ?_ ?_ ?_ (hn.mono (by decide)) (Ne.symm e1) (Ne.symm e2) e3 d4 e4 e5 hQ
  · rw [s4.2 pt d4, put_ne e5, put_ne e4]; exact t1
  · rw [s4.2 pn (Ne.symm e1), put_ne e3, put_same]
  · rw [s4.2 pl (Ne.symm e2), put_same]
theorem inv_inv (w : Wd) : w.inv.inv = w := by cases w <;> rfl
theorem law_b2 {w : Wd} {u : HO} (hF : M pt = some (.fK TD u)) (hn : D0.nx [x0, x1, some (.ref pt), some (.str w.t), x4, x5, x6, x7, x8, x9, x10, x11, x12, x13] M) :
    w_law_b2 D0 [x0, x1, some (.ref pt), some (.str w.t), x4, x5, x6, x7, x8, x9, x10, x11, x12, x13] M := by
  unfold w_law_b2
  walk_at "dl"
  refine ⟨w, rfl, ?_⟩
  try simp only [hF, lookT]
  walk_at "dl"
  try simp only [hF, lookT]
  walk_at "dl"
  try simp only [hF, lookT]
  walk_at "dl"
  try simp only [hF, lookT]
  walk_at "dl"
  try simp only [hF, lookT]
  walk_at "dl"
  try simp only [hF, lookT]
  walk_at "dl"
  try simp only [hF, lookT]
  walk_at "dl"
  try simp only [hF, lookT]
  walk_at "dl"
  try simp only [hF, lookT]
  walk_at "dl"
  try simp only [hF, lookT]
  walk_at "dl"
  refine same_pl (by unfold pln; rfl) (by unfold pln; rfl) ?_
  rw [eqD_refl]
  walk_at "dl"
  refine ⟨w, rfl, ?_⟩
  walk_at "dl"
  refine ⟨w.inv, rfl, ?_⟩
  walk_at "dl"
  refine same_pl (by unfold pln; rfl) (by unfold pln; rfl) ?_
  rw [inv_inv, eqD_refl]
  walk_at "dl"
  exact hn
theorem keys_at {i : Nat} {d : D} (h : (keysOf TD)[i]? = some d) : ∃ w : Wd, d = .str w.t := by
  have h := List.mem_of_getElem? h
  have h : d ∈ [D.str Wd.same.t, .str (Wd.over false).t, .str (Wd.over true).t, .str (Wd.under false).t, .str (Wd.under true).t, .str Wd.apart.t] := h
  simp only [List.mem_cons, List.not_mem_nil, or_false] at h
  rcases h with rfl | rfl | rfl | rfl | rfl | rfl <;> exact ⟨_, rfl⟩
theorem law_f19 {a : Addr} (hsrc : Src M a) (hT : M pt = some (.dK TD)) (d4 : pt ≠ a) (hQ : ∀ M', Q (.bl true) M') :
    w_law_f19 (Ret Q E) [x0, some (.ref a), some (.ref pt), x3, x4, x5, x6, x7, x8, x9, x10, x11, x12, x13] M := by
  unfold w_law_f19
  walk_at "dl"
  try simp only [hT]
  walk_at "dl"
  try simp only [hT]
  walk_at "dl"
  intro u
  try simp only [put_same]
  walk_at "dl"
  try simp only [put_same]
  walk_at "dl"
  try simp only [put_same]
  walk_at "dl"
  try simp only [put_same]
  walk_at "dl"
  try simp only [put_same]
  walk_at "dl"
  try simp only [put_same]
  walk_at "dl"
  try simp only [put_same]
  walk_at "dl"
  try simp only [put_same]
  walk_at "dl"
  try simp only [put_same]
  walk_at "dl"
  try simp only [put_same]
  walk_at "dl"
  refine wForK_by (fun i τ M' => M' = put M pt (.fK TD u) ∧ ∃ y3, τ = [x0, some (.ref a), some (.ref pt), y3, x4, x5, x6, x7, x8, x9, x10, x11, x12, x13]) ⟨rfl, _, rfl⟩ (fun i τ M' h => by rw [h.1, put_same]) ?_ ?_
  · rintro i d τ M' hd ⟨rfl, y3, rfl⟩ nxt hnx
    obtain ⟨w, rfl⟩ := keys_at hd
    walk_at "dl"
    exact law_b2 put_same (hnx _ _ ⟨rfl, _, rfl⟩)
  · rintro τ M' ⟨rfl, y3, rfl⟩
    refine ⟨put_same, ?_⟩
    rw [put_put, put_eq hT]
    exact law_c18 hsrc hT d4 hQ
def T3 : List (DKey × D) := [(.inr (T "same"), .str (T "same")), (.inr (T "over"), .str (T "under")), (.inr (T "overbox"), .str (T "underbox"))]
def T4 : List (DKey × D) := T3 ++ [(.inr (T "under"), .str (T "over"))]
def T5 : List (DKey × D) := T4 ++ [(.inr (T "underbox"), .str (T "overbox"))]
theorem law_c20 {a : Addr} (hsrc : Src M a) (hT : M pt = some (.dK T5)) (d4 : pt ≠ a) (hQ : ∀ M', Q (.bl true) M') :
    w_law_c20 (Ret Q E) [x0, some (.ref a), some (.ref pt), x3, x4, x5, x6, x7, x8, x9, x10, x11, x12, x13] M := by
  unfold w_law_c20
  walk_at "dl"
  try simp only [hT]
  walk_at "dl"
  try simp only [hT]
  walk_at "dl"
  refine ⟨by decide, ?_⟩
  rw [show putD T5 (.inr (T "apart")) (.str (T "apart")) = TD by kernel_rfl]
  exact law_f19 (src_put hsrc d4) put_same d4 hQ
theorem law_f21 {a : Addr} (hsrc : Src M a) (hT : M pt = some (.dK T3)) (d4 : pt ≠ a) (hQ : ∀ M', Q (.bl true) M') :
    w_law_f21 (Ret Q E) [x0, some (.ref a), some (.ref pt), x3, x4, x5, x6, x7, x8, x9, x10, x11, x12, x13] M := by
  have l1 : lookK T3 (.inr (T "over")) = some (.str (T "under")) := by kernel_rfl
  have l2 : lookK T4 (.inr (T "overbox")) = some (.str (T "underbox")) := by kernel_rfl
  have p1 : putD T3 (.inr (T "under")) (.str (T "over")) = T4 := by kernel_rfl
  have p2 : putD T4 (.inr (T "underbox")) (.str (T "overbox")) = T5 := by kernel_rfl
  unfold w_law_f21
  walk_at "dl"
  refine ⟨by decide, ?_⟩
  refine wFor_cons ?_
  unfold w_law_b1
  try simp only [hT, l1]
  walk_at "dl"
  try simp only [hT, l1]
  walk_at "dl"
  try simp only [hT, l1]
  walk_at "dl"
  try simp only [hT, l1]
  walk_at "dl"
  try simp only [hT, l1]
  walk_at "dl"
  try simp only [hT, l1]
  walk_at "dl"
  try simp only [hT, l1]
  walk_at "dl"
  try simp only [hT, l1]
  walk_at "dl"
  try simp only [hT, l1]
  walk_at "dl"
  try simp only [hT, l1]
  walk_at "dl"
  rw [p1]
  refine ⟨by decide, ?_⟩
  refine wFor_cons ?_
  try simp only [put_same, l2]
  walk_at "dl"
  try simp only [put_same, l2]
  walk_at "dl"
  try simp only [put_same, l2]
  walk_at "dl"
  try simp only [put_same, l2]
  walk_at "dl"
  try simp only [put_same, l2]
  walk_at "dl"
  try simp only [put_same, l2]
  walk_at "dl"
  try simp only [put_same, l2]
  walk_at "dl"
  try simp only [put_same, l2]
  walk_at "dl"
  try simp only [put_same, l2]
  walk_at "dl"
  try simp only [put_same, l2]
  walk_at "dl"
  rw [p2]
  refine ⟨by decide, ?_⟩
  refine wFor_nil ?_
  walk_at "dl"
  exact law_c20 (src_put hsrc d4) put_same d4 hQ
theorem p_law : ∀ ds M Q E, sp_law ds M Q E → w_law (Ret Q E) (ds.map some ++ List.replicate (14 - 1) none) M := by
  rintro ds M Q E ⟨ns, rfl, hQ⟩
  unfold w_law
  walk_at "dl"
  refine ⟨ns, rfl, fun p M1 hp s1 => ?_⟩
  walk_at "dl"
  intro pt hpt
  walk_at "dl"
  obtain ⟨s2, e1⟩ := src_other (m := .dK []) s1.1 hpt
  refine ⟨T3, rfl, by decide, ?_⟩
  rw [show mergeD [] T3 = T3 by kernel_rfl]
  exact law_f21 (src_put s1.1 (Ne.symm e1)) put_same (Ne.symm e1) hQ
end
end DL

namespace Lw
open PySem L2 DL
def top (i : Nat) : Stmt := PySem.Challenge.pw_lentahead_k01_whole_relations_turn_and_c.main.body.getD i (.Pass ⟨0, 0, 0, 0⟩)
structure Md (w : World) (K : PySem.W.Frag) (mg : Str → Option Value) : Prop where
  n_bool : mg "bool" = none
  n_int : mg "int" = none
  n_isinstance : mg "isinstance" = none
  n_len : mg "len" = none
  n_list : mg "list" = none
  n_min : mg "min" = none
  n_range : mg "range" = none
  n_str : mg "str" = none
  n_tuple : mg "tuple" = none
  c_INVERSES : ∃ f, mg "INVERSES" = some (.ref f) ∧ DL.KdW K w f ([("same", "same"), ("over", "under"), ("overbox", "underbox"), ("under", "over"), ("underbox", "overbox"), ("apart", "apart")] : List (Str × Str))
  c_MARKS : ∃ t, mg "MARKS" = some (.str ".^" t)
section
variable {P : Program} {w : World} {K : PySem.W.Frag} {mg : Str → Option Value} {base : Heap}
abbrev s_l_begin : Stmt := top 8
theorem sc_l_begin : FnScope ["_law_script"] ["_law_script"] (defScope s_l_begin) := ⟨rfl, rfl, rfl, by decide +kernel, rfl, by decide +kernel, by decide +kernel⟩
theorem ok_l_begin {f : Addr} {fd : FuncData} (F : FunD K "_law_begin" "_law_begin" (defArgs s_l_begin) (defBody s_l_begin) (defScope s_l_begin) [] [] f fd) (B : Md w K mg)  : FnOk P w K mg base (L2.CX P w) (1) f fd ["_law_script"] (lsp K sp_l_begin) :=
  def_ok (N := ["_law_script"]) (k := 0) (t := w_l_begin) F sc_l_begin (by intro ds M Q E h; unfold sp_l_begin at h; first | (obtain ⟨rfl, _⟩ := h; rfl) | (obtain ⟨_, rfl, _⟩ := h; rfl) | (obtain ⟨_, _, rfl, _⟩ := h; rfl) | (obtain ⟨_, _, _, rfl, _⟩ := h; rfl) | (obtain ⟨_, _, _, _, rfl, _⟩ := h; rfl) | (obtain ⟨_, _, _, _, _, rfl, _⟩ := h; rfl) | (obtain ⟨_, _, _, _, _, _, rfl, _⟩ := h; rfl))
    (fun cdv A outer s H E G hr => by exact dss_one (ds_ret (de_lstM (da_cons (de_callTy cb_list call_list_of B.n_list PyProof.Rows.boot_list (da_cons (de_var 0) (da_nil))) (da_cons (de_int) (da_cons (de_un un_neg ud_neg (de_int)) (da_cons (de_int) (da_nil)))))))) p_l_begin
abbrev s_l_same_row : Stmt := top 11
theorem sc_l_same_row : FnScope ["_law_actual", "_law_expected", "_law_k"] ["_law_actual", "_law_expected"] (defScope s_l_same_row) := ⟨rfl, rfl, rfl, by decide +kernel, rfl, by decide +kernel, by decide +kernel⟩
theorem ok_l_same_row {n k : Nat} {f : Addr} {fd : FuncData} (F : FunD K "_law_same_row" "_law_same_row" (defArgs s_l_same_row) (defBody s_l_same_row) (defScope s_l_same_row) [] [] f fd) (B : Md w K mg) (F_l_same : FnM P w K mg base k "_law_same" (sp_l_same n)) : FnOk P w K mg base (L2.CX P w) (k + 1) f fd ["_law_actual", "_law_expected"] (lsp K (sp_l_same_row (n + 1))) :=
  def_ok (N := ["_law_actual", "_law_expected", "_law_k"]) (k := k) (t := (w_l_same_row n)) F sc_l_same_row (by intro ds M Q E h; unfold sp_l_same_row at h; first | (obtain ⟨rfl, _⟩ := h; rfl) | (obtain ⟨_, rfl, _⟩ := h; rfl) | (obtain ⟨_, _, rfl, _⟩ := h; rfl) | (obtain ⟨_, _, _, rfl, _⟩ := h; rfl) | (obtain ⟨_, _, _, _, rfl, _⟩ := h; rfl) | (obtain ⟨_, _, _, _, _, rfl, _⟩ := h; rfl) | (obtain ⟨_, _, _, _, _, _, rfl, _⟩ := h; rfl))
    (fun cdv A outer s H E G hr => by exact dss_cons (ds_if (dt_cmp (op_neN G) od_eq (de_callB cb_len call_lenA B.n_len PySem.boot_len (da_cons (de_var 0) (da_nil))) (de_callB cb_len call_lenA B.n_len PySem.boot_len (da_cons (de_var 1) (da_nil))) (by first | exact nomark _ | rfl | with_unfolding_all rfl)) (dss_one (ds_ret (de_bl))) (dss_nil)) (dss_cons (ds_for G (di_rng1 B.n_range (da_cons (de_callB cb_len call_lenA B.n_len PySem.boot_len (da_cons (de_var 1) (da_nil))) (da_nil))) (dg_name 2 G.nd) (dss_one (ds_if (dt_not (dt_tru (de_call F_l_same G (hr.mono (by omega)) (da_cons (de_ix G (de_var 0) (de_var 2)) (da_cons (de_ix G (de_var 1) (de_var 2)) (da_nil)))))) (dss_one (ds_ret (de_bl))) (dss_nil)))) (dss_one (ds_ret (de_bl))))) (p_l_same_row n)
abbrev s_l_same : Stmt := top 12
theorem sc_l_same : FnScope ["_law_actual", "_law_expected"] ["_law_actual", "_law_expected"] (defScope s_l_same) := ⟨rfl, rfl, rfl, by decide +kernel, rfl, by decide +kernel, by decide +kernel⟩
theorem ok_l_same {n k : Nat} {f : Addr} {fd : FuncData} (F : FunD K "_law_same" "_law_same" (defArgs s_l_same) (defBody s_l_same) (defScope s_l_same) [] [] f fd) (B : Md w K mg) (F_l_same_row : FnM P w K mg base k "_law_same_row" (sp_l_same_row n)) : FnOk P w K mg base (L2.CX P w) (k + 1) f fd ["_law_actual", "_law_expected"] (lsp K (sp_l_same n)) :=
  def_ok (N := ["_law_actual", "_law_expected"]) (k := k) (t := (w_l_same n)) F sc_l_same (by intro ds M Q E h; unfold sp_l_same at h; first | (obtain ⟨rfl, _⟩ := h; rfl) | (obtain ⟨_, rfl, _⟩ := h; rfl) | (obtain ⟨_, _, rfl, _⟩ := h; rfl) | (obtain ⟨_, _, _, rfl, _⟩ := h; rfl) | (obtain ⟨_, _, _, _, rfl, _⟩ := h; rfl) | (obtain ⟨_, _, _, _, _, rfl, _⟩ := h; rfl) | (obtain ⟨_, _, _, _, _, _, rfl, _⟩ := h; rfl))
    (fun cdv A outer s H E G hr => by exact dss_cons (ds_if (dt_cmp op_isN od_isN (de_var 1) (de_non) (by first | exact nomark _ | rfl | with_unfolding_all rfl)) (dss_one (ds_ret (de_cmp op_isN od_isN (de_var 0) (de_non) (by first | exact nomark _ | rfl | with_unfolding_all rfl)))) (dss_nil)) (dss_cons (ds_if (dt_tru (de_callB cb_isi call_isi B.n_isinstance PyProof.Rows.boot_isinstance (da_cons (de_var 1) (da_cons (de_ty B.n_bool PyProof.Rows.boot_bool) (da_nil))))) (dss_one (ds_ret (de_and (de_callB cb_isi call_isi B.n_isinstance PyProof.Rows.boot_isinstance (da_cons (de_var 0) (da_cons (de_ty B.n_bool PyProof.Rows.boot_bool) (da_nil)))) (de_one (de_cmp (op_eqN G) od_eq (de_var 0) (de_var 1) (by first | exact nomark _ | rfl | with_unfolding_all rfl)))))) (dss_nil)) (dss_cons (ds_if (dt_tru (de_callB cb_isi call_isi B.n_isinstance PyProof.Rows.boot_isinstance (da_cons (de_var 1) (da_cons (de_ty B.n_int PyProof.Rows.boot_int) (da_nil))))) (dss_one (ds_ret (de_and (de_callB cb_isi call_isi B.n_isinstance PyProof.Rows.boot_isinstance (da_cons (de_var 0) (da_cons (de_ty B.n_int PyProof.Rows.boot_int) (da_nil)))) (de_and (de_not (de_callB cb_isi call_isi B.n_isinstance PyProof.Rows.boot_isinstance (da_cons (de_var 0) (da_cons (de_ty B.n_bool PyProof.Rows.boot_bool) (da_nil))))) (de_one (de_cmp (op_eqN G) od_eq (de_var 0) (de_var 1) (by first | exact nomark _ | rfl | with_unfolding_all rfl))))))) (dss_nil)) (dss_cons (ds_if (dt_tru (de_callB cb_isi call_isi B.n_isinstance PyProof.Rows.boot_isinstance (da_cons (de_var 1) (da_cons (de_ty B.n_str PyProof.Rows.boot_str) (da_nil))))) (dss_one (ds_ret (de_and (de_callB cb_isi call_isi B.n_isinstance PyProof.Rows.boot_isinstance (da_cons (de_var 0) (da_cons (de_ty B.n_str PyProof.Rows.boot_str) (da_nil)))) (de_one (de_cmp (op_eqN G) od_eq (de_var 0) (de_var 1) (by first | exact nomark _ | rfl | with_unfolding_all rfl)))))) (dss_nil)) (dss_cons (ds_if (dt_tru (de_callB cb_isi call_isi B.n_isinstance PyProof.Rows.boot_isinstance (da_cons (de_var 1) (da_cons (de_ty B.n_list PyProof.Rows.boot_list) (da_nil))))) (dss_one (ds_ret (de_and (de_callB cb_isi call_isi B.n_isinstance PyProof.Rows.boot_isinstance (da_cons (de_var 0) (da_cons (de_ty B.n_list PyProof.Rows.boot_list) (da_nil)))) (de_one (de_call F_l_same_row G (hr.mono (by omega)) (da_cons (de_var 0) (da_cons (de_var 1) (da_nil)))))))) (dss_nil)) (dss_one (ds_ret (de_and (de_callB cb_isi call_isi B.n_isinstance PyProof.Rows.boot_isinstance (da_cons (de_var 0) (da_cons (de_ty B.n_tuple PyProof.Rows.boot_tuple) (da_nil)))) (de_one (de_call F_l_same_row G (hr.mono (by omega)) (da_cons (de_var 0) (da_cons (de_var 1) (da_nil))))))))))))) (p_l_same n)
abbrev s_inverse : Stmt := top 6
theorem sc_inverse : FnScope ["word"] ["word"] (defScope s_inverse) := ⟨rfl, rfl, rfl, by decide +kernel, rfl, by decide +kernel, by decide +kernel⟩
theorem ok_inverse {f : Addr} {fd : FuncData} (F : FunD K "inverse" "inverse" (defArgs s_inverse) (defBody s_inverse) (defScope s_inverse) [] [] f fd) (B : Md w K mg)  : FnOk P w K mg base (L2.CX P w) (1) f fd ["word"] (lsp K sp_inverse) :=
  def_ok (N := ["word"]) (k := 0) (t := w_inverse) F sc_inverse (by intro ds M Q E h; unfold sp_inverse at h; first | (obtain ⟨rfl, _⟩ := h; rfl) | (obtain ⟨_, rfl, _⟩ := h; rfl) | (obtain ⟨_, _, rfl, _⟩ := h; rfl) | (obtain ⟨_, _, _, rfl, _⟩ := h; rfl) | (obtain ⟨_, _, _, _, rfl, _⟩ := h; rfl) | (obtain ⟨_, _, _, _, _, rfl, _⟩ := h; rfl) | (obtain ⟨_, _, _, _, _, _, rfl, _⟩ := h; rfl))
    (fun cdv A outer s H E G hr => by exact dss_one (ds_ret (de_kd B.c_INVERSES rfl (de_var 0)))) p_inverse
abbrev s_l_draw : Stmt := top 9
theorem sc_l_draw : FnScope ["_law_source", "_law_size", "_law_number", "_law_drawn", "_law_mixed"] ["_law_source", "_law_size"] (defScope s_l_draw) := ⟨rfl, rfl, rfl, by decide +kernel, rfl, by decide +kernel, by decide +kernel⟩
theorem ok_l_draw {f : Addr} {fd : FuncData} (F : FunD K "_law_draw" "_law_draw" (defArgs s_l_draw) (defBody s_l_draw) (defScope s_l_draw) [] [] f fd) (B : Md w K mg)  : FnOk P w K mg base (L2.CX P w) (1) f fd ["_law_source", "_law_size"] (lsp K sp_l_draw) :=
  def_ok (N := ["_law_source", "_law_size", "_law_number", "_law_drawn", "_law_mixed"]) (k := 0) (t := w_l_draw) F sc_l_draw (by intro ds M Q E h; unfold sp_l_draw at h; first | (obtain ⟨rfl, _⟩ := h; rfl) | (obtain ⟨_, rfl, _⟩ := h; rfl) | (obtain ⟨_, _, rfl, _⟩ := h; rfl) | (obtain ⟨_, _, _, rfl, _⟩ := h; rfl) | (obtain ⟨_, _, _, _, rfl, _⟩ := h; rfl) | (obtain ⟨_, _, _, _, _, rfl, _⟩ := h; rfl) | (obtain ⟨_, _, _, _, _, _, rfl, _⟩ := h; rfl))
    (fun cdv A outer s H E G hr => by exact dss_cons (ds_if (dt_cmp op_ge od_b (de_ix G (de_var 0) (de_int)) (de_callB cb_len call_lenA B.n_len PySem.boot_len (da_cons (de_ix G (de_var 0) (de_int)) (da_nil))) (by first | exact nomark _ | rfl | with_unfolding_all rfl)) (dss_one (ds_ret (de_int))) (dss_nil)) (dss_cons (ds_set 2 G (de_ix G (de_ix G (de_var 0) (de_int)) (de_ix G (de_var 0) (de_int)))) (dss_cons (ds_if (dt_cmp op_lt od_b (de_var 2) (de_int) (by first | exact nomark _ | rfl | with_unfolding_all rfl)) (dss_one (ds_set 2 G (de_op op_sub od_sub (de_un un_neg ud_neg (de_int)) (de_var 2)))) (dss_nil)) (dss_cons (ds_if (dt_cmp op_lt od_b (de_ix G (de_var 0) (de_int)) (de_int) (by first | exact nomark _ | rfl | with_unfolding_all rfl)) (dss_cons (ds_asg (de_var 2) (dg_setA G (de_var 0) (de_int))) (dss_one (ds_asg (de_int) (dg_setA G (de_var 0) (de_int))))) (dss_nil)) (dss_cons (ds_asg (de_op op_addA od_add (de_ix G (de_var 0) (de_int)) (de_int)) (dg_setA G (de_var 0) (de_int))) (dss_cons (ds_if (dt_cmp op_ge od_b (de_var 2) (de_op op_pow od_pow (de_int) (de_int)) (by first | exact nomark _ | rfl | with_unfolding_all rfl)) (dss_cons (ds_set 3 G (de_op op_mod od_mod (de_callTy cb_int call_int1 B.n_int PyProof.Rows.boot_int (da_cons (de_ix G (de_var 0) (de_int)) (da_nil))) (de_var 1))) (dss_cons (ds_asg (de_op op_fdiv od_div (de_ix G (de_var 0) (de_int)) (de_var 1)) (dg_setA G (de_var 0) (de_int))) (dss_one (ds_if (dt_w (dw_and (dt_cmp op_gt od_b (de_ix G (de_var 0) (de_int)) (de_int) (by first | exact nomark _ | rfl | with_unfolding_all rfl)) (dw_and1 (dt_cmp op_lt od_b (de_ix G (de_var 0) (de_int)) (de_int) (by first | exact nomark _ | rfl | with_unfolding_all rfl))))) (dss_one (ds_ret (de_var 3))) (dss_nil))))) (dss_one (ds_if (dt_cmp (op_eqN G) od_eq (de_ix G (de_var 0) (de_int)) (de_int) (by first | exact nomark _ | rfl | with_unfolding_all rfl)) (dss_cons (ds_set 4 G (de_op op_mod od_mod (de_callTy cb_int call_int1 B.n_int PyProof.Rows.boot_int (da_cons (de_op op_addA od_add (de_op op_addA od_add (de_op op_mul od_mul (de_var 2) (de_int)) (de_op op_mul od_mul (de_ix G (de_var 0) (de_int)) (de_int))) (de_int)) (da_nil))) (de_int))) (dss_one (ds_ret (de_op op_mod od_mod (de_callTy cb_int call_int1 B.n_int PyProof.Rows.boot_int (da_cons (de_op op_mod od_mod (de_callTy cb_int call_int1 B.n_int PyProof.Rows.boot_int (da_cons (de_op op_addA od_add (de_op op_mul od_mul (de_var 4) (de_int)) (de_int)) (da_nil))) (de_int)) (da_nil))) (de_var 1))))) (dss_cons (ds_set 4 G (de_op op_mod od_mod (de_callTy cb_int call_int1 B.n_int PyProof.Rows.boot_int (da_cons (de_op op_addA od_add (de_op op_addA od_add (de_op op_mul od_mul (de_var 2) (de_int)) (de_op op_mul od_mul (de_ix G (de_var 0) (de_int)) (de_int))) (de_int)) (da_nil))) (de_int))) (dss_one (ds_set 3 G (de_op op_mod od_mod (de_callTy cb_int call_int1 B.n_int PyProof.Rows.boot_int (da_cons (de_op op_mod od_mod (de_callTy cb_int call_int1 B.n_int PyProof.Rows.boot_int (da_cons (de_op op_addA od_add (de_op op_mul od_mul (de_var 4) (de_int)) (de_int)) (da_nil))) (de_int)) (da_nil))) (de_var 1)))))))) (dss_cons (ds_asg (de_op op_addA od_add (de_ix G (de_var 0) (de_int)) (de_int)) (dg_setA G (de_var 0) (de_int))) (dss_cons (ds_asg (de_un un_neg ud_neg (de_int)) (dg_setA G (de_var 0) (de_int))) (dss_one (ds_ret (de_var 3))))))))))) p_l_draw
abbrev s_l_pick : Stmt := top 10
theorem sc_l_pick : FnScope ["_law_source", "_law_row"] ["_law_source", "_law_row"] (defScope s_l_pick) := ⟨rfl, rfl, rfl, by decide +kernel, rfl, by decide +kernel, by decide +kernel⟩
theorem ok_l_pick {f : Addr} {fd : FuncData} (F : FunD K "_law_pick" "_law_pick" (defArgs s_l_pick) (defBody s_l_pick) (defScope s_l_pick) [] [] f fd) (B : Md w K mg) (F_l_draw : FnM P w K mg base 1 "_law_draw" sp_l_draw) : FnOk P w K mg base (L2.CX P w) (2) f fd ["_law_source", "_law_row"] (lsp K sp_l_pick) :=
  def_ok (N := ["_law_source", "_law_row"]) (k := 1) (t := w_l_pick) F sc_l_pick (by intro ds M Q E h; unfold sp_l_pick at h; first | (obtain ⟨rfl, _⟩ := h; rfl) | (obtain ⟨_, rfl, _⟩ := h; rfl) | (obtain ⟨_, _, rfl, _⟩ := h; rfl) | (obtain ⟨_, _, _, rfl, _⟩ := h; rfl) | (obtain ⟨_, _, _, _, rfl, _⟩ := h; rfl) | (obtain ⟨_, _, _, _, _, rfl, _⟩ := h; rfl) | (obtain ⟨_, _, _, _, _, _, rfl, _⟩ := h; rfl))
    (fun cdv A outer s H E G hr => by exact dss_one (ds_ret (de_ix G (de_var 1) (de_call F_l_draw G (hr.mono (by omega)) (da_cons (de_var 0) (da_cons (de_callB cb_len call_lenA B.n_len PySem.boot_len (da_cons (de_var 1) (da_nil))) (da_nil))))))) p_l_pick
abbrev s_l_name : Stmt := top 13
theorem sc_l_name : FnScope ["_law_source", "_law_text", "_law_k"] ["_law_source"] (defScope s_l_name) := ⟨rfl, rfl, rfl, by decide +kernel, rfl, by decide +kernel, by decide +kernel⟩
theorem ok_l_name {f : Addr} {fd : FuncData} (F : FunD K "_law_name" "_law_name" (defArgs s_l_name) (defBody s_l_name) (defScope s_l_name) [] [] f fd) (B : Md w K mg) (F_l_draw : FnM P w K mg base 1 "_law_draw" sp_l_draw) (F_l_pick : FnM P w K mg base 2 "_law_pick" sp_l_pick) : FnOk P w K mg base (L2.CX P w) (3) f fd ["_law_source"] (lsp K sp_l_name) :=
  def_ok (N := ["_law_source", "_law_text", "_law_k"]) (k := 2) (t := w_l_name) F sc_l_name (by intro ds M Q E h; unfold sp_l_name at h; first | (obtain ⟨rfl, _⟩ := h; rfl) | (obtain ⟨_, rfl, _⟩ := h; rfl) | (obtain ⟨_, _, rfl, _⟩ := h; rfl) | (obtain ⟨_, _, _, rfl, _⟩ := h; rfl) | (obtain ⟨_, _, _, _, rfl, _⟩ := h; rfl) | (obtain ⟨_, _, _, _, _, rfl, _⟩ := h; rfl) | (obtain ⟨_, _, _, _, _, _, rfl, _⟩ := h; rfl))
    (fun cdv A outer s H E G hr => by exact dss_cons (ds_if (dt_cmp op_gt od_b (de_call F_l_draw G (hr.mono (by omega)) (da_cons (de_var 0) (da_cons (de_int) (da_nil)))) (de_int) (by first | exact nomark _ | rfl | with_unfolding_all rfl)) (dss_one (ds_ret (de_call F_l_pick G (hr.mono (by omega)) (da_cons (de_var 0) (da_cons (de_lst (da_cons (de_strc (by decide +kernel)) (da_cons (de_strc (by decide +kernel)) (da_cons (de_strc (by decide +kernel)) (da_cons (de_strc (by decide +kernel)) (da_cons (de_str) (da_cons (de_strc (by decide +kernel)) (da_cons (de_strc (by decide +kernel)) (da_cons (de_str) (da_nil)))))))))) (da_nil)))))) (dss_nil)) (dss_cons (ds_set 1 G (de_strc (by decide +kernel))) (dss_cons (ds_for G (di_rng1 B.n_range (da_cons (de_op op_addA od_add (de_int) (de_call F_l_draw G (hr.mono (by omega)) (da_cons (de_var 0) (da_cons (de_int) (da_nil))))) (da_nil))) (dg_name 2 G.nd) (dss_one (ds_set 1 G (de_op op_addA od_add (de_var 1) (de_call F_l_pick G (hr.mono (by omega)) (da_cons (de_var 0) (da_cons (de_str) (da_nil)))))))) (dss_one (ds_ret (de_var 1)))))) p_l_name
abbrev s_l_step : Stmt := top 14
theorem sc_l_step : FnScope ["_law_source"] ["_law_source"] (defScope s_l_step) := ⟨rfl, rfl, rfl, by decide +kernel, rfl, by decide +kernel, by decide +kernel⟩
theorem ok_l_step {f : Addr} {fd : FuncData} (F : FunD K "_law_step" "_law_step" (defArgs s_l_step) (defBody s_l_step) (defScope s_l_step) [] [] f fd) (B : Md w K mg) (F_l_pick : FnM P w K mg base 2 "_law_pick" sp_l_pick) (F_l_name : FnM P w K mg base 3 "_law_name" sp_l_name) : FnOk P w K mg base (L2.CX P w) (4) f fd ["_law_source"] (lsp K sp_l_step) :=
  def_ok (N := ["_law_source"]) (k := 3) (t := w_l_step) F sc_l_step (by intro ds M Q E h; unfold sp_l_step at h; first | (obtain ⟨rfl, _⟩ := h; rfl) | (obtain ⟨_, rfl, _⟩ := h; rfl) | (obtain ⟨_, _, rfl, _⟩ := h; rfl) | (obtain ⟨_, _, _, rfl, _⟩ := h; rfl) | (obtain ⟨_, _, _, _, rfl, _⟩ := h; rfl) | (obtain ⟨_, _, _, _, _, rfl, _⟩ := h; rfl) | (obtain ⟨_, _, _, _, _, _, rfl, _⟩ := h; rfl))
    (fun cdv A outer s H E G hr => by exact dss_one (ds_ret (de_op op_addA od_add (de_call F_l_pick G (hr.mono (by omega)) (da_cons (de_var 0) (da_cons (de_lst (da_cons (de_strc (by decide +kernel)) (da_cons (de_strc (by decide +kernel)) (da_nil)))) (da_nil)))) (de_call F_l_name G (hr.mono (by omega)) (da_cons (de_var 0) (da_nil)))))) p_l_step
abbrev s_l_tail : Stmt := top 15
theorem sc_l_tail : FnScope ["_law_source", "_law_most", "_law_tail_here", "_law_k"] ["_law_source", "_law_most"] (defScope s_l_tail) := ⟨rfl, rfl, rfl, by decide +kernel, rfl, by decide +kernel, by decide +kernel⟩
theorem ok_l_tail {f : Addr} {fd : FuncData} (F : FunD K "_law_tail" "_law_tail" (defArgs s_l_tail) (defBody s_l_tail) (defScope s_l_tail) [] [] f fd) (B : Md w K mg) (F_l_draw : FnM P w K mg base 1 "_law_draw" sp_l_draw) (F_l_step : FnM P w K mg base 4 "_law_step" sp_l_step) : FnOk P w K mg base (L2.CX P w) (5) f fd ["_law_source", "_law_most"] (lsp K sp_l_tail) :=
  def_ok (N := ["_law_source", "_law_most", "_law_tail_here", "_law_k"]) (k := 4) (t := w_l_tail) F sc_l_tail (by intro ds M Q E h; unfold sp_l_tail at h; first | (obtain ⟨rfl, _⟩ := h; rfl) | (obtain ⟨_, rfl, _⟩ := h; rfl) | (obtain ⟨_, _, rfl, _⟩ := h; rfl) | (obtain ⟨_, _, _, rfl, _⟩ := h; rfl) | (obtain ⟨_, _, _, _, rfl, _⟩ := h; rfl) | (obtain ⟨_, _, _, _, _, rfl, _⟩ := h; rfl) | (obtain ⟨_, _, _, _, _, _, rfl, _⟩ := h; rfl))
    (fun cdv A outer s H E G hr => by exact dss_cons (ds_set 2 G (de_strc (by decide +kernel))) (dss_cons (ds_for G (di_rng1 B.n_range (da_cons (de_call F_l_draw G (hr.mono (by omega)) (da_cons (de_var 0) (da_cons (de_op op_addA od_add (de_var 1) (de_int)) (da_nil)))) (da_nil))) (dg_name 3 G.nd) (dss_one (ds_set 2 G (de_op op_addA od_add (de_var 2) (de_call F_l_step G (hr.mono (by omega)) (da_cons (de_var 0) (da_nil))))))) (dss_one (ds_ret (de_var 2))))) p_l_tail
abbrev s_l_place : Stmt := top 16
theorem sc_l_place : FnScope ["_law_source", "_law_most"] ["_law_source"] (defScope s_l_place) := ⟨rfl, rfl, rfl, by decide +kernel, rfl, by decide +kernel, by decide +kernel⟩
theorem ok_l_place {f : Addr} {fd : FuncData} (F : FunD K "_law_place" "_law_place" (defArgs s_l_place) (defBody s_l_place) (defScope s_l_place) [] [] f fd) (B : Md w K mg) (F_l_draw : FnM P w K mg base 1 "_law_draw" sp_l_draw) (F_l_name : FnM P w K mg base 3 "_law_name" sp_l_name) (F_l_tail : FnM P w K mg base 5 "_law_tail" sp_l_tail) : FnOk P w K mg base (L2.CX P w) (6) f fd ["_law_source"] (lsp K sp_l_place) :=
  def_ok (N := ["_law_source", "_law_most"]) (k := 5) (t := w_l_place) F sc_l_place (by intro ds M Q E h; unfold sp_l_place at h; first | (obtain ⟨rfl, _⟩ := h; rfl) | (obtain ⟨_, rfl, _⟩ := h; rfl) | (obtain ⟨_, _, rfl, _⟩ := h; rfl) | (obtain ⟨_, _, _, rfl, _⟩ := h; rfl) | (obtain ⟨_, _, _, _, rfl, _⟩ := h; rfl) | (obtain ⟨_, _, _, _, _, rfl, _⟩ := h; rfl) | (obtain ⟨_, _, _, _, _, _, rfl, _⟩ := h; rfl))
    (fun cdv A outer s H E G hr => by exact dss_cons (ds_set 1 G (de_int)) (dss_cons (ds_if (dt_cmp (op_eqN G) od_eq (de_call F_l_draw G (hr.mono (by omega)) (da_cons (de_var 0) (da_cons (de_int) (da_nil)))) (de_int) (by first | exact nomark _ | rfl | with_unfolding_all rfl)) (dss_one (ds_set 1 G (de_int))) (dss_nil)) (dss_one (ds_ret (de_op op_addA od_add (de_call F_l_name G (hr.mono (by omega)) (da_cons (de_var 0) (da_nil))) (de_call F_l_tail G (hr.mono (by omega)) (da_cons (de_var 0) (da_cons (de_var 1) (da_nil))))))))) p_l_place
abbrev s_l_parts : Stmt := top 17
theorem sc_l_parts : FnScope ["_law_node", "_law_parts_here", "_law_sign"] ["_law_node"] (defScope s_l_parts) := ⟨rfl, rfl, rfl, by decide +kernel, rfl, by decide +kernel, by decide +kernel⟩
theorem ok_l_parts {f : Addr} {fd : FuncData} (F : FunD K "_law_parts" "_law_parts" (defArgs s_l_parts) (defBody s_l_parts) (defScope s_l_parts) [] [] f fd) (B : Md w K mg)  : FnOk P w K mg base (L2.CX P w) (1) f fd ["_law_node"] (lsp K sp_l_parts) :=
  def_ok (N := ["_law_node", "_law_parts_here", "_law_sign"]) (k := 0) (t := w_l_parts) F sc_l_parts (by intro ds M Q E h; unfold sp_l_parts at h; first | (obtain ⟨rfl, _⟩ := h; rfl) | (obtain ⟨_, rfl, _⟩ := h; rfl) | (obtain ⟨_, _, rfl, _⟩ := h; rfl) | (obtain ⟨_, _, _, rfl, _⟩ := h; rfl) | (obtain ⟨_, _, _, _, rfl, _⟩ := h; rfl) | (obtain ⟨_, _, _, _, _, rfl, _⟩ := h; rfl) | (obtain ⟨_, _, _, _, _, _, rfl, _⟩ := h; rfl))
    (fun cdv A outer s H E G hr => by exact dss_cons (ds_set 1 G (de_lstM (da_cons (de_strc (by decide +kernel)) (da_nil)))) (dss_cons (ds_for G (di_any (de_var 0)) (dg_name 2 G.nd) (dss_one (ds_if (dt_cmp (op_inN G) od_in (de_var 2) (de_strc (by decide +kernel)) (by first | exact nomark _ | rfl | with_unfolding_all rfl)) (dss_one (ds_expr (de_mt PySem.F.plainAttrs_list PySem.F.slot_list_append PySem.F.type_list_append md_append mt_append (de_var 1) (da_cons (de_var 2) (da_nil))))) (dss_one (ds_asg (de_op op_addA od_add (de_ix G (de_var 1) (de_un un_neg ud_neg (de_int))) (de_var 2)) (dg_setA G (de_var 1) (de_un un_neg ud_neg (de_int)))))))) (dss_one (ds_ret (de_frz (de_var 1)))))) p_l_parts
abbrev s_l_near : Stmt := top 18
theorem sc_l_near : FnScope ["_law_source", "_law_place_here", "_law_parts_here", "_law_kind", "_law_last", "_law_mark"] ["_law_source", "_law_place_here"] (defScope s_l_near) := ⟨rfl, rfl, rfl, by decide +kernel, rfl, by decide +kernel, by decide +kernel⟩
theorem ok_l_near {f : Addr} {fd : FuncData} (F : FunD K "_law_near" "_law_near" (defArgs s_l_near) (defBody s_l_near) (defScope s_l_near) [] [] f fd) (B : Md w K mg) (F_l_parts : FnM P w K mg base 1 "_law_parts" sp_l_parts) (F_l_draw : FnM P w K mg base 1 "_law_draw" sp_l_draw) (F_l_step : FnM P w K mg base 4 "_law_step" sp_l_step) (F_l_pick : FnM P w K mg base 2 "_law_pick" sp_l_pick) (F_l_place : FnM P w K mg base 6 "_law_place" sp_l_place) : FnOk P w K mg base (L2.CX P w) (7) f fd ["_law_source", "_law_place_here"] (lsp K sp_l_near) :=
  def_ok (N := ["_law_source", "_law_place_here", "_law_parts_here", "_law_kind", "_law_last", "_law_mark"]) (k := 6) (t := w_l_near) F sc_l_near (by intro ds M Q E h; unfold sp_l_near at h; first | (obtain ⟨rfl, _⟩ := h; rfl) | (obtain ⟨_, rfl, _⟩ := h; rfl) | (obtain ⟨_, _, rfl, _⟩ := h; rfl) | (obtain ⟨_, _, _, rfl, _⟩ := h; rfl) | (obtain ⟨_, _, _, _, rfl, _⟩ := h; rfl) | (obtain ⟨_, _, _, _, _, rfl, _⟩ := h; rfl) | (obtain ⟨_, _, _, _, _, _, rfl, _⟩ := h; rfl))
    (fun cdv A outer s H E G hr => by exact dss_cons (ds_set 2 G (de_call F_l_parts G (hr.mono (by omega)) (da_cons (de_var 1) (da_nil)))) (dss_cons (ds_set 3 G (de_call F_l_draw G (hr.mono (by omega)) (da_cons (de_var 0) (da_cons (de_int) (da_nil))))) (dss_cons (ds_if (dt_cmp op_lt od_b (de_var 3) (de_int) (by first | exact nomark _ | rfl | with_unfolding_all rfl)) (dss_one (ds_ret (de_var 1))) (dss_nil)) (dss_cons (ds_if (dt_cmp op_lt od_b (de_var 3) (de_int) (by first | exact nomark _ | rfl | with_unfolding_all rfl)) (dss_one (ds_ret (de_mt PySem.F.plainAttrs_str PySem.F.slot_str_join PySem.F.type_str_join md_join mt_join (de_strc (by decide +kernel)) (da_cons (de_sl (de_var 2) (do_none) (do_some (de_op op_addA od_add (de_int) (de_call F_l_draw G (hr.mono (by omega)) (da_cons (de_var 0) (da_cons (de_callB cb_len call_lenA B.n_len PySem.boot_len (da_cons (de_var 2) (da_nil))) (da_nil))))))) (da_nil))))) (dss_nil)) (dss_cons (ds_if (dt_w (dw_and (dt_cmp op_lt od_b (de_var 3) (de_int) (by first | exact nomark _ | rfl | with_unfolding_all rfl)) (dw_and1 (dt_cmp op_lt od_b (de_callB cb_len call_lenA B.n_len PySem.boot_len (da_cons (de_var 2) (da_nil))) (de_int) (by first | exact nomark _ | rfl | with_unfolding_all rfl))))) (dss_one (ds_ret (de_op op_addA od_add (de_var 1) (de_call F_l_step G (hr.mono (by omega)) (da_cons (de_var 0) (da_nil)))))) (dss_nil)) (dss_cons (ds_set 4 G (de_ix G (de_var 2) (de_un un_neg ud_neg (de_int)))) (dss_cons (ds_if (dt_w (dw_and (dt_cmp (op_eqN G) od_eq (de_var 3) (de_int) (by first | exact nomark _ | rfl | with_unfolding_all rfl)) (dw_and1 (dt_cmp op_gt od_b (de_callB cb_len call_lenA B.n_len PySem.boot_len (da_cons (de_var 2) (da_nil))) (de_int) (by first | exact nomark _ | rfl | with_unfolding_all rfl))))) (dss_cons (ds_set 5 G (de_strc (by decide +kernel))) (dss_cons (ds_if (dt_cmp (op_eqN G) od_eq (de_ix G (de_var 4) (de_int)) (de_strc (by decide +kernel)) (by first | exact nomark _ | rfl | with_unfolding_all rfl)) (dss_one (ds_set 5 G (de_strc (by decide +kernel)))) (dss_nil)) (dss_one (ds_ret (de_op op_addA od_add (de_op op_addA od_add (de_mt PySem.F.plainAttrs_str PySem.F.slot_str_join PySem.F.type_str_join md_join mt_join (de_strc (by decide +kernel)) (da_cons (de_sl (de_var 2) (do_none) (do_some (de_un un_neg ud_neg (de_int)))) (da_nil))) (de_var 5)) (de_sl (de_var 4) (do_some (de_int)) (do_none))))))) (dss_nil)) (dss_cons (ds_if (dt_w (dw_and (dt_cmp (op_eqN G) od_eq (de_var 3) (de_int) (by first | exact nomark _ | rfl | with_unfolding_all rfl)) (dw_and1 (dt_cmp op_lt od_b (de_callB cb_len call_lenA B.n_len PySem.boot_len (da_cons (de_var 4) (da_nil))) (de_int) (by first | exact nomark _ | rfl | with_unfolding_all rfl))))) (dss_one (ds_ret (de_op op_addA od_add (de_var 1) (de_call F_l_pick G (hr.mono (by omega)) (da_cons (de_var 0) (da_cons (de_str) (da_nil))))))) (dss_nil)) (dss_one (ds_ret (de_call F_l_place G (hr.mono (by omega)) (da_cons (de_var 0) (da_nil))))))))))))) p_l_near
abbrev s_lies_beneath : Stmt := top 3
theorem sc_lies_beneath : FnScope ["inner", "outer"] ["inner", "outer"] (defScope s_lies_beneath) := ⟨rfl, rfl, rfl, by decide +kernel, rfl, by decide +kernel, by decide +kernel⟩
theorem ok_lies_beneath {f : Addr} {fd : FuncData} (F : FunD K "lies_beneath" "lies_beneath" (defArgs s_lies_beneath) (defBody s_lies_beneath) (defScope s_lies_beneath) [] [] f fd) (B : Md w K mg)  : FnOk P w K mg base (L2.CX P w) (1) f fd ["inner", "outer"] (lsp K sp_lies_beneath) :=
  def_ok (N := ["inner", "outer"]) (k := 0) (t := w_lies_beneath) F sc_lies_beneath (by intro ds M Q E h; unfold sp_lies_beneath at h; first | (obtain ⟨rfl, _⟩ := h; rfl) | (obtain ⟨_, rfl, _⟩ := h; rfl) | (obtain ⟨_, _, rfl, _⟩ := h; rfl) | (obtain ⟨_, _, _, rfl, _⟩ := h; rfl) | (obtain ⟨_, _, _, _, rfl, _⟩ := h; rfl) | (obtain ⟨_, _, _, _, _, rfl, _⟩ := h; rfl) | (obtain ⟨_, _, _, _, _, _, rfl, _⟩ := h; rfl))
    (fun cdv A outer s H E G hr => by exact dss_one (ds_ret (de_and (de_cmp op_gt od_b (de_callB cb_len call_lenA B.n_len PySem.boot_len (da_cons (de_var 0) (da_nil))) (de_callB cb_len call_lenA B.n_len PySem.boot_len (da_cons (de_var 1) (da_nil))) (by first | exact nomark _ | rfl | with_unfolding_all rfl)) (de_and (de_mt PySem.F.plainAttrs_str PySem.F.slot_str_startswith PySem.F.type_str_startswith md_starts mt_startswith (de_var 0) (da_cons (de_var 1) (da_nil))) (de_one (de_cmp (op_inN G) od_in (de_ix G (de_var 0) (de_callB cb_len call_lenA B.n_len PySem.boot_len (da_cons (de_var 1) (da_nil)))) (de_gsc B.c_MARKS (by decide +kernel)) (by first | exact nomark _ | rfl | with_unfolding_all rfl))))))) p_lies_beneath
abbrev s_through : Stmt := top 4
theorem sc_through : FnScope ["tail"] ["tail"] (defScope s_through) := ⟨rfl, rfl, rfl, by decide +kernel, rfl, by decide +kernel, by decide +kernel⟩
theorem ok_through {f : Addr} {fd : FuncData} (F : FunD K "through" "through" (defArgs s_through) (defBody s_through) (defScope s_through) [] [] f fd) (B : Md w K mg)  : FnOk P w K mg base (L2.CX P w) (1) f fd ["tail"] (lsp K sp_through) :=
  def_ok (N := ["tail"]) (k := 0) (t := w_through) F sc_through (by intro ds M Q E h; unfold sp_through at h; first | (obtain ⟨rfl, _⟩ := h; rfl) | (obtain ⟨_, rfl, _⟩ := h; rfl) | (obtain ⟨_, _, rfl, _⟩ := h; rfl) | (obtain ⟨_, _, _, rfl, _⟩ := h; rfl) | (obtain ⟨_, _, _, _, rfl, _⟩ := h; rfl) | (obtain ⟨_, _, _, _, _, rfl, _⟩ := h; rfl) | (obtain ⟨_, _, _, _, _, _, rfl, _⟩ := h; rfl))
    (fun cdv A outer s H E G hr => by exact dss_cons (ds_if (dt_cmp (op_inN G) od_in (de_strc (by decide +kernel)) (de_var 0) (by first | exact nomark _ | rfl | with_unfolding_all rfl)) (dss_one (ds_ret (de_str))) (dss_nil)) (dss_one (ds_ret (de_strc (by decide +kernel))))) p_through
abbrev s_relation : Stmt := top 5
theorem sc_relation : FnScope ["place", "other"] ["place", "other"] (defScope s_relation) := ⟨rfl, rfl, rfl, by decide +kernel, rfl, by decide +kernel, by decide +kernel⟩
theorem ok_relation {f : Addr} {fd : FuncData} (F : FunD K "relation" "relation" (defArgs s_relation) (defBody s_relation) (defScope s_relation) [] [] f fd) (B : Md w K mg) (F_lies_beneath : FnM P w K mg base 1 "lies_beneath" sp_lies_beneath) (F_through : FnM P w K mg base 1 "through" sp_through) : FnOk P w K mg base (L2.CX P w) (2) f fd ["place", "other"] (lsp K sp_relation) :=
  def_ok (N := ["place", "other"]) (k := 1) (t := w_relation) F sc_relation (by intro ds M Q E h; unfold sp_relation at h; first | (obtain ⟨rfl, _⟩ := h; rfl) | (obtain ⟨_, rfl, _⟩ := h; rfl) | (obtain ⟨_, _, rfl, _⟩ := h; rfl) | (obtain ⟨_, _, _, rfl, _⟩ := h; rfl) | (obtain ⟨_, _, _, _, rfl, _⟩ := h; rfl) | (obtain ⟨_, _, _, _, _, rfl, _⟩ := h; rfl) | (obtain ⟨_, _, _, _, _, _, rfl, _⟩ := h; rfl))
    (fun cdv A outer s H E G hr => by exact dss_cons (ds_if (dt_cmp (op_eqN G) od_eq (de_var 0) (de_var 1) (by first | exact nomark _ | rfl | with_unfolding_all rfl)) (dss_one (ds_ret (de_str))) (dss_nil)) (dss_cons (ds_if (dt_tru (de_call F_lies_beneath G (hr.mono (by omega)) (da_cons (de_var 0) (da_cons (de_var 1) (da_nil))))) (dss_one (ds_ret (de_op op_addA od_add (de_str) (de_call F_through G (hr.mono (by omega)) (da_cons (de_sl (de_var 0) (do_some (de_callB cb_len call_lenA B.n_len PySem.boot_len (da_cons (de_var 1) (da_nil)))) (do_none)) (da_nil)))))) (dss_nil)) (dss_cons (ds_if (dt_tru (de_call F_lies_beneath G (hr.mono (by omega)) (da_cons (de_var 1) (da_cons (de_var 0) (da_nil))))) (dss_one (ds_ret (de_op op_addA od_add (de_str) (de_call F_through G (hr.mono (by omega)) (da_cons (de_sl (de_var 1) (do_some (de_callB cb_len call_lenA B.n_len PySem.boot_len (da_cons (de_var 0) (da_nil)))) (do_none)) (da_nil)))))) (dss_nil)) (dss_one (ds_ret (de_str)))))) p_relation
abbrev s_l_side : Stmt := top 19
theorem sc_l_side : FnScope ["_law_word"] ["_law_word"] (defScope s_l_side) := ⟨rfl, rfl, rfl, by decide +kernel, rfl, by decide +kernel, by decide +kernel⟩
theorem ok_l_side {f : Addr} {fd : FuncData} (F : FunD K "_law_side" "_law_side" (defArgs s_l_side) (defBody s_l_side) (defScope s_l_side) [] [] f fd) (B : Md w K mg)  : FnOk P w K mg base (L2.CX P w) (1) f fd ["_law_word"] (lsp K sp_l_side) :=
  def_ok (N := ["_law_word"]) (k := 0) (t := w_l_side) F sc_l_side (by intro ds M Q E h; unfold sp_l_side at h; first | (obtain ⟨rfl, _⟩ := h; rfl) | (obtain ⟨_, rfl, _⟩ := h; rfl) | (obtain ⟨_, _, rfl, _⟩ := h; rfl) | (obtain ⟨_, _, _, rfl, _⟩ := h; rfl) | (obtain ⟨_, _, _, _, rfl, _⟩ := h; rfl) | (obtain ⟨_, _, _, _, _, rfl, _⟩ := h; rfl) | (obtain ⟨_, _, _, _, _, _, rfl, _⟩ := h; rfl))
    (fun cdv A outer s H E G hr => by exact dss_cons (ds_if (dt_cmp (op_inN G) od_in (de_var 0) (de_lst (da_cons (de_str) (da_cons (de_str) (da_nil)))) (by first | exact nomark _ | rfl | with_unfolding_all rfl)) (dss_one (ds_ret (de_sl (de_var 0) (do_none) (do_some (de_un un_neg ud_neg (de_int)))))) (dss_nil)) (dss_one (ds_ret (de_var 0)))) p_l_side
abbrev s_l_crossed : Stmt := top 20
theorem sc_l_crossed : FnScope ["_law_side_here", "_law_is_crossed"] ["_law_side_here", "_law_is_crossed"] (defScope s_l_crossed) := ⟨rfl, rfl, rfl, by decide +kernel, rfl, by decide +kernel, by decide +kernel⟩
theorem ok_l_crossed {f : Addr} {fd : FuncData} (F : FunD K "_law_crossed" "_law_crossed" (defArgs s_l_crossed) (defBody s_l_crossed) (defScope s_l_crossed) [] [] f fd) (B : Md w K mg)  : FnOk P w K mg base (L2.CX P w) (1) f fd ["_law_side_here", "_law_is_crossed"] (lsp K sp_l_crossed) :=
  def_ok (N := ["_law_side_here", "_law_is_crossed"]) (k := 0) (t := w_l_crossed) F sc_l_crossed (by intro ds M Q E h; unfold sp_l_crossed at h; first | (obtain ⟨rfl, _⟩ := h; rfl) | (obtain ⟨_, rfl, _⟩ := h; rfl) | (obtain ⟨_, _, rfl, _⟩ := h; rfl) | (obtain ⟨_, _, _, rfl, _⟩ := h; rfl) | (obtain ⟨_, _, _, _, rfl, _⟩ := h; rfl) | (obtain ⟨_, _, _, _, _, rfl, _⟩ := h; rfl) | (obtain ⟨_, _, _, _, _, _, rfl, _⟩ := h; rfl))
    (fun cdv A outer s H E G hr => by exact dss_cons (ds_if (dt_tru (de_var 1)) (dss_one (ds_ret (de_op op_addA od_add (de_var 0) (de_str)))) (dss_nil)) (dss_one (ds_ret (de_var 0)))) p_l_crossed
abbrev s_l_fits : Stmt := top 22
theorem sc_l_fits : FnScope ["_law_near_here", "_law_far", "_law_one", "_law_two", "_law_boxes", "_law_rows", "_law_word"] ["_law_near_here", "_law_far"] (defScope s_l_fits) := ⟨rfl, rfl, rfl, by decide +kernel, rfl, by decide +kernel, by decide +kernel⟩
theorem ok_l_fits {f : Addr} {fd : FuncData} (F : FunD K "_law_fits" "_law_fits" (defArgs s_l_fits) (defBody s_l_fits) (defScope s_l_fits) [] [] f fd) (B : Md w K mg) (F_l_side : FnM P w K mg base 1 "_law_side" sp_l_side) (F_l_crossed : FnM P w K mg base 1 "_law_crossed" sp_l_crossed) : FnOk P w K mg base (L2.CX P w) (2) f fd ["_law_near_here", "_law_far"] (lsp K sp_l_fits) :=
  def_ok (N := ["_law_near_here", "_law_far", "_law_one", "_law_two", "_law_boxes", "_law_rows", "_law_word"]) (k := 1) (t := w_l_fits) F sc_l_fits (by intro ds M Q E h; unfold sp_l_fits at h; first | (obtain ⟨rfl, _⟩ := h; rfl) | (obtain ⟨_, rfl, _⟩ := h; rfl) | (obtain ⟨_, _, rfl, _⟩ := h; rfl) | (obtain ⟨_, _, _, rfl, _⟩ := h; rfl) | (obtain ⟨_, _, _, _, rfl, _⟩ := h; rfl) | (obtain ⟨_, _, _, _, _, rfl, _⟩ := h; rfl) | (obtain ⟨_, _, _, _, _, _, rfl, _⟩ := h; rfl))
    (fun cdv A outer s H E G hr => by exact dss_cons (ds_set 2 G (de_call F_l_side G (hr.mono (by omega)) (da_cons (de_var 0) (da_nil)))) (dss_cons (ds_set 3 G (de_call F_l_side G (hr.mono (by omega)) (da_cons (de_var 1) (da_nil)))) (dss_cons (ds_set 4 G (de_lst (da_cons (de_cmp (op_neN G) od_eq (de_var 0) (de_var 2) (by first | exact nomark _ | rfl | with_unfolding_all rfl)) (da_cons (de_cmp (op_neN G) od_eq (de_var 1) (de_var 3) (by first | exact nomark _ | rfl | with_unfolding_all rfl)) (da_nil))))) (dss_cons (ds_if (dt_cmp (op_eqN G) od_eq (de_var 2) (de_str) (by first | exact nomark _ | rfl | with_unfolding_all rfl)) (dss_one (ds_ret (de_lst (da_cons (de_var 1) (da_nil))))) (dss_nil)) (dss_cons (ds_if (dt_cmp (op_eqN G) od_eq (de_var 3) (de_str) (by first | exact nomark _ | rfl | with_unfolding_all rfl)) (dss_one (ds_ret (de_lst (da_cons (de_var 0) (da_nil))))) (dss_nil)) (dss_cons (ds_if (dt_w (dw_and (dt_cmp (op_eqN G) od_eq (de_var 2) (de_var 3) (by first | exact nomark _ | rfl | with_unfolding_all rfl)) (dw_and1 (dt_cmp (op_neN G) od_eq (de_var 2) (de_str) (by first | exact nomark _ | rfl | with_unfolding_all rfl))))) (dss_one (ds_ret (de_lst (da_cons (de_call F_l_crossed G (hr.mono (by omega)) (da_cons (de_var 2) (da_cons (de_or (de_ix G (de_var 4) (de_int)) (de_one (de_ix G (de_var 4) (de_int)))) (da_nil)))) (da_nil))))) (dss_nil)) (dss_cons (ds_if (dt_w (dw_or (dt_w (dw_and (dt_cmp (op_eqN G) od_eq (de_var 2) (de_str) (by first | exact nomark _ | rfl | with_unfolding_all rfl)) (dw_and1 (dt_cmp (op_eqN G) od_eq (de_var 3) (de_str) (by first | exact nomark _ | rfl | with_unfolding_all rfl))))) (dw_or1 (dt_w (dw_and (dt_cmp (op_eqN G) od_eq (de_var 2) (de_str) (by first | exact nomark _ | rfl | with_unfolding_all rfl)) (dw_and1 (dt_cmp (op_eqN G) od_eq (de_var 3) (de_str) (by first | exact nomark _ | rfl | with_unfolding_all rfl)))))))) (dss_one (ds_ret (de_lst (da_cons (de_str) (da_nil))))) (dss_nil)) (dss_cons (ds_if (dt_w (dw_and (dt_cmp (op_eqN G) od_eq (de_var 2) (de_str) (by first | exact nomark _ | rfl | with_unfolding_all rfl)) (dw_and1 (dt_cmp (op_eqN G) od_eq (de_var 3) (de_str) (by first | exact nomark _ | rfl | with_unfolding_all rfl))))) (dss_one (ds_ret (de_lst (da_cons (de_str) (da_cons (de_str) (da_cons (de_str) (da_nil))))))) (dss_nil)) (dss_cons (ds_if (dt_w (dw_and (dt_cmp (op_eqN G) od_eq (de_var 2) (de_str) (by first | exact nomark _ | rfl | with_unfolding_all rfl)) (dw_and1 (dt_cmp (op_eqN G) od_eq (de_var 3) (de_str) (by first | exact nomark _ | rfl | with_unfolding_all rfl))))) (dss_one (ds_ret (de_lst (da_cons (de_str) (da_cons (de_str) (da_cons (de_str) (da_nil))))))) (dss_nil)) (dss_cons (ds_set 5 G (de_lst (da_cons (de_str) (da_cons (de_str) (da_cons (de_str) (da_cons (de_str) (da_cons (de_str) (da_nil)))))))) (dss_cons (ds_if (dt_w (dw_or (dt_cmp (op_eqN G) od_eq (de_var 2) (de_var 3) (by first | exact nomark _ | rfl | with_unfolding_all rfl)) (dw_or1 (dt_cmp (op_eqN G) od_eq (de_var 2) (de_str) (by first | exact nomark _ | rfl | with_unfolding_all rfl))))) (dss_one (ds_set 5 G (de_op op_addA od_add (de_var 5) (de_lst (da_cons (de_str) (da_nil)))))) (dss_nil)) (dss_cons (ds_if (dt_w (dw_or (dt_cmp (op_eqN G) od_eq (de_var 2) (de_var 3) (by first | exact nomark _ | rfl | with_unfolding_all rfl)) (dw_or1 (dt_cmp (op_eqN G) od_eq (de_var 4) (de_lst (da_cons (de_bl) (da_cons (de_bl) (da_nil)))) (by first | exact nomark _ | rfl | with_unfolding_all rfl))))) (dss_one (ds_ret (de_var 5))) (dss_nil)) (dss_cons (ds_if (dt_cmp (op_eqN G) od_eq (de_var 4) (de_lst (da_cons (de_bl) (da_cons (de_bl) (da_nil)))) (by first | exact nomark _ | rfl | with_unfolding_all rfl)) (dss_one (ds_ret (de_frz (de_lc1 [("_law_word", 6)] G (di_any (de_var 5)) (fun _ _ _ _ _ G => bk1 (dgw_name 6 G.nd) (dts_one (dt_not (dt_tru (de_mt PySem.F.plainAttrs_str PySem.F.slot_str_endswith PySem.F.type_str_endswith md_ends mt_endswith (de_var 6) (da_cons (de_str) (da_nil)))))) (de_var 6)))))) (dss_nil)) (dss_cons (ds_set 6 G (de_str)) (dss_cons (ds_if (dt_cmp (op_eqN G) od_eq (de_ix G (de_var 4) (de_int)) (de_cmp (op_eqN G) od_eq (de_var 2) (de_str) (by first | exact nomark _ | rfl | with_unfolding_all rfl)) (by first | exact nomark _ | rfl | with_unfolding_all rfl)) (dss_one (ds_set 6 G (de_str))) (dss_nil)) (dss_one (ds_ret (de_op op_addA od_add (de_lst (da_cons (de_var 6) (da_nil))) (de_sl (de_var 5) (do_some (de_int)) (do_none)))))))))))))))))))) p_l_fits
abbrev s_l_down : Stmt := top 21
theorem sc_l_down : FnScope ["_law_tail_here"] ["_law_tail_here"] (defScope s_l_down) := ⟨rfl, rfl, rfl, by decide +kernel, rfl, by decide +kernel, by decide +kernel⟩
theorem ok_l_down {f : Addr} {fd : FuncData} (F : FunD K "_law_down" "_law_down" (defArgs s_l_down) (defBody s_l_down) (defScope s_l_down) [] [] f fd) (B : Md w K mg) (F_l_crossed : FnM P w K mg base 1 "_law_crossed" sp_l_crossed) : FnOk P w K mg base (L2.CX P w) (2) f fd ["_law_tail_here"] (lsp K sp_l_down) :=
  def_ok (N := ["_law_tail_here"]) (k := 1) (t := w_l_down) F sc_l_down (by intro ds M Q E h; unfold sp_l_down at h; first | (obtain ⟨rfl, _⟩ := h; rfl) | (obtain ⟨_, rfl, _⟩ := h; rfl) | (obtain ⟨_, _, rfl, _⟩ := h; rfl) | (obtain ⟨_, _, _, rfl, _⟩ := h; rfl) | (obtain ⟨_, _, _, _, rfl, _⟩ := h; rfl) | (obtain ⟨_, _, _, _, _, rfl, _⟩ := h; rfl) | (obtain ⟨_, _, _, _, _, _, rfl, _⟩ := h; rfl))
    (fun cdv A outer s H E G hr => by exact dss_cons (ds_if (dt_cmp (op_eqN G) od_eq (de_var 0) (de_strc (by decide +kernel)) (by first | exact nomark _ | rfl | with_unfolding_all rfl)) (dss_one (ds_ret (de_str))) (dss_nil)) (dss_one (ds_ret (de_call F_l_crossed G (hr.mono (by omega)) (da_cons (de_str) (da_cons (de_cmp (op_inN G) od_in (de_strc (by decide +kernel)) (de_var 0) (by first | exact nomark _ | rfl | with_unfolding_all rfl)) (da_nil))))))) p_l_down
abbrev s_law : Stmt := top 23
theorem sc_law : FnScope ["_law_script", "_law_source", "_law_turned", "_law_word", "_law_nodes", "_law_tails", "_law_is_chain", "_law_k", "_law_words", "_law_place_here", "_law_other", "_law_j", "_law_m", "_law_tail_here"] ["_law_script"] (defScope s_law) := ⟨rfl, rfl, rfl, by decide +kernel, rfl, by decide +kernel, by decide +kernel⟩
theorem ok_law {f : Addr} {fd : FuncData} (F : FunD K "law" "law" (defArgs s_law) (defBody s_law) (defScope s_law) [] [] f fd) (B : Md w K mg) (F_l_begin : FnM P w K mg base 1 "_law_begin" sp_l_begin) (F_l_same : FnM P w K mg base 17 "_law_same" (sp_l_same 8)) (F_inverse : FnM P w K mg base 1 "inverse" sp_inverse) (F_l_place : FnM P w K mg base 6 "_law_place" sp_l_place) (F_l_draw : FnM P w K mg base 1 "_law_draw" sp_l_draw) (F_l_tail : FnM P w K mg base 5 "_law_tail" sp_l_tail) (F_l_parts : FnM P w K mg base 1 "_law_parts" sp_l_parts) (F_l_near : FnM P w K mg base 7 "_law_near" sp_l_near) (F_l_pick : FnM P w K mg base 2 "_law_pick" sp_l_pick) (F_relation : FnM P w K mg base 2 "relation" sp_relation) (F_l_fits : FnM P w K mg base 2 "_law_fits" sp_l_fits) (F_l_down : FnM P w K mg base 2 "_law_down" sp_l_down) : FnOk P w K mg base (L2.CX P w) (18) f fd ["_law_script"] (lsp K sp_law) :=
  def_ok (N := ["_law_script", "_law_source", "_law_turned", "_law_word", "_law_nodes", "_law_tails", "_law_is_chain", "_law_k", "_law_words", "_law_place_here", "_law_other", "_law_j", "_law_m", "_law_tail_here"]) (k := 17) (t := w_law) F sc_law (by intro ds M Q E h; unfold sp_law at h; first | (obtain ⟨rfl, _⟩ := h; rfl) | (obtain ⟨_, rfl, _⟩ := h; rfl) | (obtain ⟨_, _, rfl, _⟩ := h; rfl) | (obtain ⟨_, _, _, rfl, _⟩ := h; rfl) | (obtain ⟨_, _, _, _, rfl, _⟩ := h; rfl) | (obtain ⟨_, _, _, _, _, rfl, _⟩ := h; rfl) | (obtain ⟨_, _, _, _, _, _, rfl, _⟩ := h; rfl))
    (fun cdv A outer s H E G hr => by exact dss_cons (ds_set 1 G (de_call F_l_begin G (hr.mono (by omega)) (da_cons (de_var 0) (da_nil)))) (dss_cons (ds_set 2 G (de_dict (dps_cons (de_str) (de_str) (dps_cons (de_str) (de_str) (dps_cons (de_str) (de_str) (dps_nil)))))) (dss_cons (ds_for G (di_any (de_lst (da_cons (de_str) (da_cons (de_str) (da_nil))))) (dg_name 3 G.nd) (dss_one (ds_asg (de_var 3) (dg_setA G (de_var 2) (de_ix G (de_var 2) (de_var 3)))))) (dss_cons (ds_asg (de_str) (dg_setA G (de_var 2) (de_str))) (dss_cons (ds_lock 2 (ds_forK G (de_var 2) (dg_name 3 G.nd) (dss_one (ds_if (dt_w (dw_or (dt_not (dt_tru (de_call F_l_same G (hr.mono (by omega)) (da_cons (de_call F_inverse G (hr.mono (by omega)) (da_cons (de_var 3) (da_nil))) (da_cons (de_ix G (de_var 2) (de_var 3)) (da_nil)))))) (dw_or1 (dt_not (dt_tru (de_call F_l_same G (hr.mono (by omega)) (da_cons (de_call F_inverse G (hr.mono (by omega)) (da_cons (de_call F_inverse G (hr.mono (by omega)) (da_cons (de_var 3) (da_nil))) (da_nil))) (da_cons (de_var 3) (da_nil))))))))) (dss_one (ds_ret (de_bl))) (dss_nil))))) (dss_cons (ds_set 4 G (de_lstM (da_cons (de_call F_l_place G (hr.mono (by omega)) (da_cons (de_var 1) (da_nil))) (da_nil)))) (dss_cons (ds_set 5 G (de_lstM (da_cons (de_strc (by decide +kernel)) (da_cons (de_strc (by decide +kernel)) (da_nil))))) (dss_cons (ds_set 6 G (de_cmp (op_eqN G) od_eq (de_call F_l_draw G (hr.mono (by omega)) (da_cons (de_var 1) (da_cons (de_int) (da_nil)))) (de_int) (by first | exact nomark _ | rfl | with_unfolding_all rfl))) (dss_cons (ds_for G (di_rng1 B.n_range (da_cons (de_int) (da_nil))) (dg_name 7 G.nd) (dss_one (ds_if (dt_tru (de_var 6)) (dss_cons (ds_asg (de_call F_l_tail G (hr.mono (by omega)) (da_cons (de_var 1) (da_cons (de_callB cb_min (call_min2 G.calm) B.n_min PyProof.Rows.boot_min (da_cons (de_int) (da_cons (de_op op_sub od_sub (de_int) (de_callB cb_len call_lenA B.n_len PySem.boot_len (da_cons (de_call F_l_parts G (hr.mono (by omega)) (da_cons (de_ix G (de_var 4) (de_un un_neg ud_neg (de_int))) (da_nil))) (da_nil)))) (da_nil)))) (da_nil)))) (dg_setA G (de_var 5) (de_var 7))) (dss_one (ds_expr (de_mt PySem.F.plainAttrs_list PySem.F.slot_list_append PySem.F.type_list_append md_append mt_append (de_var 4) (da_cons (de_op op_addA od_add (de_ix G (de_var 4) (de_un un_neg ud_neg (de_int))) (de_ix G (de_var 5) (de_var 7))) (da_nil)))))) (dss_cons (ds_expr (de_mt PySem.F.plainAttrs_list PySem.F.slot_list_append PySem.F.type_list_append md_append mt_append (de_var 4) (da_cons (de_call F_l_near G (hr.mono (by omega)) (da_cons (de_var 1) (da_cons (de_call F_l_pick G (hr.mono (by omega)) (da_cons (de_var 1) (da_cons (de_var 4) (da_nil)))) (da_nil)))) (da_nil)))) (dss_one (ds_if (dt_cmp (op_eqN G) od_eq (de_call F_l_draw G (hr.mono (by omega)) (da_cons (de_var 1) (da_cons (de_int) (da_nil)))) (de_int) (by first | exact nomark _ | rfl | with_unfolding_all rfl)) (dss_one (ds_asg (de_op op_addA od_add (de_ix G (de_var 4) (de_un un_neg ud_neg (de_int))) (de_call F_l_tail G (hr.mono (by omega)) (da_cons (de_var 1) (da_cons (de_callB cb_min (call_min2 G.calm) B.n_min PyProof.Rows.boot_min (da_cons (de_int) (da_cons (de_op op_sub od_sub (de_int) (de_callB cb_len call_lenA B.n_len PySem.boot_len (da_cons (de_call F_l_parts G (hr.mono (by omega)) (da_cons (de_ix G (de_var 4) (de_un un_neg ud_neg (de_int))) (da_nil))) (da_nil)))) (da_nil)))) (da_nil))))) (dg_setA G (de_var 4) (de_un un_neg ud_neg (de_int))))) (dss_nil))))))) (dss_cons (ds_set 8 G (de_lstM (da_nil))) (dss_fz 4 (dss_cons (ds_for G (di_any (de_var 4)) (dg_name 9 G.nd) (dss_one (ds_expr (de_mt PySem.F.plainAttrs_list PySem.F.slot_list_append PySem.F.type_list_append md_append mt_append (de_var 8) (da_cons (de_frz (de_lc1 [("_law_other", 10)] G (di_any (de_var 4)) (fun _ _ _ _ _ G => bk1 (dgw_name 10 G.nd) (dts_nil) (de_call F_relation G (hr.mono (by omega)) (da_cons (de_var 9) (da_cons (de_var 10) (da_nil))))))) (da_nil)))))) (dss_cons (ds_for G (di_rng1 B.n_range (da_cons (de_int) (da_nil))) (dg_name 11 G.nd) (dss_one (ds_for G (di_rng1 B.n_range (da_cons (de_int) (da_nil))) (dg_name 7 G.nd) (dss_one (ds_if (dt_w (dw_or (dt_not (dt_tru (de_callB cb_isi call_isi B.n_isinstance PyProof.Rows.boot_isinstance (da_cons (de_ix G (de_ix G (de_var 8) (de_var 11)) (de_var 7)) (da_cons (de_ty B.n_str PyProof.Rows.boot_str) (da_nil)))))) (dw_or1 (dt_cmp (op_notInN G) od_in (de_ix G (de_ix G (de_var 8) (de_var 11)) (de_var 7)) (de_var 2) (by first | exact nomark _ | rfl | with_unfolding_all rfl))))) (dss_one (ds_ret (de_bl))) (dss_nil)))))) (dss_cons (ds_for G (di_rng1 B.n_range (da_cons (de_int) (da_nil))) (dg_name 11 G.nd) (dss_one (ds_for G (di_rng1 B.n_range (da_cons (de_int) (da_nil))) (dg_name 7 G.nd) (dss_cons (ds_if (dt_w (dw_or (dt_cmp (op_neN G) od_eq (de_ix G (de_ix G (de_var 8) (de_var 7)) (de_var 11)) (de_ix G (de_var 2) (de_ix G (de_ix G (de_var 8) (de_var 11)) (de_var 7))) (by first | exact nomark _ | rfl | with_unfolding_all rfl)) (dw_or1 (dt_cmp (op_neN G) od_eq (de_ix G (de_ix G (de_var 8) (de_var 11)) (de_var 11)) (de_str) (by first | exact nomark _ | rfl | with_unfolding_all rfl))))) (dss_one (ds_ret (de_bl))) (dss_nil)) (dss_one (ds_for G (di_rng1 B.n_range (da_cons (de_int) (da_nil))) (dg_name 12 G.nd) (dss_one (ds_if (dt_cmp (op_notInN G) od_in (de_ix G (de_ix G (de_var 8) (de_var 11)) (de_var 12)) (de_call F_l_fits G (hr.mono (by omega)) (da_cons (de_ix G (de_ix G (de_var 8) (de_var 11)) (de_var 7)) (da_cons (de_ix G (de_ix G (de_var 8) (de_var 7)) (de_var 12)) (da_nil)))) (by first | exact nomark _ | rfl | with_unfolding_all rfl)) (dss_one (ds_ret (de_bl))) (dss_nil))))))))) (dss_cons (ds_if (dt_tru (de_var 6)) (dss_one (ds_for G (di_any (de_lst (da_cons (de_tup (da_cons (de_int) (da_cons (de_int) (da_cons (de_ix G (de_var 5) (de_int)) (da_nil))))) (da_cons (de_tup (da_cons (de_int) (da_cons (de_int) (da_cons (de_ix G (de_var 5) (de_int)) (da_nil))))) (da_cons (de_tup (da_cons (de_int) (da_cons (de_int) (da_cons (de_op op_addA od_add (de_ix G (de_var 5) (de_int)) (de_ix G (de_var 5) (de_int))) (da_nil))))) (da_nil)))))) (dg_tup G (dgs_cons 11 G.nd (dgs_cons 7 G.nd (dgs_cons 13 G.nd (dgs_nil))))) (dss_one (ds_if (dt_cmp (op_neN G) od_eq (de_ix G (de_ix G (de_var 8) (de_var 11)) (de_var 7)) (de_call F_l_down G (hr.mono (by omega)) (da_cons (de_var 13) (da_nil))) (by first | exact nomark _ | rfl | with_unfolding_all rfl)) (dss_one (ds_ret (de_bl))) (dss_nil))))) (dss_nil)) (dss_one (ds_ret (de_bl)))))))))))))))))) p_law
end
def fn : List He.DefD := [⟨("_law_begin", none), "_law_begin", "_law_begin", defArgs (top 8), defBody (top 8), defScope (top 8), [], []⟩,
  ⟨("_law_same_row", none), "_law_same_row", "_law_same_row", defArgs (top 11), defBody (top 11), defScope (top 11), [], []⟩,
  ⟨("_law_same", none), "_law_same", "_law_same", defArgs (top 12), defBody (top 12), defScope (top 12), [], []⟩,
  ⟨("inverse", none), "inverse", "inverse", defArgs (top 6), defBody (top 6), defScope (top 6), [], []⟩,
  ⟨("_law_draw", none), "_law_draw", "_law_draw", defArgs (top 9), defBody (top 9), defScope (top 9), [], []⟩,
  ⟨("_law_pick", none), "_law_pick", "_law_pick", defArgs (top 10), defBody (top 10), defScope (top 10), [], []⟩,
  ⟨("_law_name", none), "_law_name", "_law_name", defArgs (top 13), defBody (top 13), defScope (top 13), [], []⟩,
  ⟨("_law_step", none), "_law_step", "_law_step", defArgs (top 14), defBody (top 14), defScope (top 14), [], []⟩,
  ⟨("_law_tail", none), "_law_tail", "_law_tail", defArgs (top 15), defBody (top 15), defScope (top 15), [], []⟩,
  ⟨("_law_place", none), "_law_place", "_law_place", defArgs (top 16), defBody (top 16), defScope (top 16), [], []⟩,
  ⟨("_law_parts", none), "_law_parts", "_law_parts", defArgs (top 17), defBody (top 17), defScope (top 17), [], []⟩,
  ⟨("_law_near", none), "_law_near", "_law_near", defArgs (top 18), defBody (top 18), defScope (top 18), [], []⟩,
  ⟨("lies_beneath", none), "lies_beneath", "lies_beneath", defArgs (top 3), defBody (top 3), defScope (top 3), [], []⟩,
  ⟨("through", none), "through", "through", defArgs (top 4), defBody (top 4), defScope (top 4), [], []⟩,
  ⟨("relation", none), "relation", "relation", defArgs (top 5), defBody (top 5), defScope (top 5), [], []⟩,
  ⟨("_law_side", none), "_law_side", "_law_side", defArgs (top 19), defBody (top 19), defScope (top 19), [], []⟩,
  ⟨("_law_crossed", none), "_law_crossed", "_law_crossed", defArgs (top 20), defBody (top 20), defScope (top 20), [], []⟩,
  ⟨("_law_fits", none), "_law_fits", "_law_fits", defArgs (top 22), defBody (top 22), defScope (top 22), [], []⟩,
  ⟨("_law_down", none), "_law_down", "_law_down", defArgs (top 21), defBody (top 21), defScope (top 21), [], []⟩,
  ⟨("law", none), "law", "law", defArgs (top 23), defBody (top 23), defScope (top 23), [], []⟩]
def gb : List (PySem.W.Frag → Bool) := [fun K => He.valsB K (He.ga K "INVERSES") (([("same", "same"), ("over", "under"), ("overbox", "underbox"), ("under", "over"), ("underbox", "overbox"), ("apart", "apart")] : List (Str × Str)).map fun q => (q.1, He.Dv.str q.2))]
def ts : List He.Tab := [(fun K => He.ga K "INVERSES", ["same", "over", "overbox", "under", "underbox", "apart"])]
def fa : List He.Fa := [.glo "_law_begin", .glo "_law_same_row", .glo "_law_same", .glo "inverse", .glo "_law_draw", .glo "_law_pick", .glo "_law_name", .glo "_law_step", .glo "_law_tail", .glo "_law_place", .glo "_law_parts", .glo "_law_near", .glo "lies_beneath", .glo "through", .glo "relation", .glo "_law_side", .glo "_law_crossed", .glo "_law_fits", .glo "_law_down", .glo "law", .free "bool", .free "int", .free "isinstance", .free "len", .free "list", .free "min", .free "range", .free "str", .free "tuple", .glo "INVERSES", .str "MARKS" ".^"]
abbrev R : PySem.W.OpenRow := PySem.W.OpenLaw.row PySem.Challenge.rw_lentahead_k01_whole_relations_turn_and_c
abbrev hk : PySem.W.Hook := DL.hookY 4 fa fn gb ts
def ob (s : PySem.W.SharedT) : DL.AlY := DL.obsYG 4 fa fn gb ts (HandSHeadRun.getT s)
theorem ob_eq (s : PySem.W.SharedT) : ob s = hk.obs s.abs := DL.obsYG_eq (HandSHeadRun.getT_eq s)
def names0 : List PySem.Str := ["MARKS", "INVERSES", "lies_beneath", "through", "relation", "inverse", "_law_begin", "_law_draw", "_law_pick", "_law_same_row", "_law_same", "_law_name", "_law_step", "_law_tail", "_law_place", "_law_parts", "_law_near", "_law_side", "_law_crossed", "_law_down", "_law_fits"]
def names : List PySem.Str := names0
theorem runF (w : World) : HandSHeadRun.RunEq R (PySem.W.view R.prog [23]) hk ob 30000 names (w.withFollow "special-get-raises" false) := by
  intro os
  kernel_rfl
theorem runT (w : World) : HandSHeadRun.RunEq R (PySem.W.view R.prog [23]) hk ob 30000 names (w.withFollow "special-get-raises" true) := by
  intro os
  kernel_rfl
theorem run (w : World) : HandSHeadRun.RunEq R (PySem.W.view R.prog [23]) hk ob 30000 names w := PySem.W.byRow2 "special-get-raises" (P := fun w => HandSHeadRun.RunEq R (PySem.W.view R.prog [23]) hk ob 30000 names w) runF runT w
theorem facts {P : Program} {w : World} {K : PySem.W.Frag} {h : Heap} {mg : Str → Option Value} {f : Addr} (X : K.In h) (G : h.Ns mainGlobals mg) (hfa : mg ("law" : Str) = some (.ref f)) (c : DL.SaysY fa fn gb ts w K) :
    ∃ fd : FuncData, (∀ (s : Shared) (v : Value), BindsTo s fd ⟨[v], []⟩ [("_law_script", v)]) ∧ ∀ base : Heap, K.In base → base.Ns mainGlobals mg → FnOk P w K mg base (L2.CX P w) 18 f fd ["_law_script"] (lsp K sp_law) := by
  have B : Md w K mg := ⟨He.free_ok X G (c.x.d.fact 20 (f := .free "bool") rfl), He.free_ok X G (c.x.d.fact 21 (f := .free "int") rfl), He.free_ok X G (c.x.d.fact 22 (f := .free "isinstance") rfl), He.free_ok X G (c.x.d.fact 23 (f := .free "len") rfl), He.free_ok X G (c.x.d.fact 24 (f := .free "list") rfl), He.free_ok X G (c.x.d.fact 25 (f := .free "min") rfl), He.free_ok X G (c.x.d.fact 26 (f := .free "range") rfl), He.free_ok X G (c.x.d.fact 27 (f := .free "str") rfl), He.free_ok X G (c.x.d.fact 28 (f := .free "tuple") rfl), DL.kdw_of (He.glo_ok X G (c.x.d.fact 29 (f := .glo "INVERSES") rfl)) (c.tab 0 rfl) (c.x.b 0 rfl), He.str_ok X G (c.x.d.fact 30 (f := .str "MARKS" ".^") rfl)⟩
  obtain ⟨fd_l_begin, D_l_begin⟩ := c.x.d.def_ 0 (d := ⟨("_law_begin", none), "_law_begin", "_law_begin", defArgs (top 8), defBody (top 8), defScope (top 8), [], []⟩) rfl
  have b_l_begin : Binds K fd_l_begin ["_law_script"] [] := D_l_begin.bindsN (ps := ["_law_script"]) fun _ _ _ _ _ _ us hl => match us, hl with | [_], _ => rfl
  have g_l_begin : mg "_law_begin" = some (.ref (He.ga K "_law_begin")) := He.glo_ok X G (c.x.d.fact 0 (f := .glo "_law_begin") rfl)
  obtain ⟨fd_l_same_row, D_l_same_row⟩ := c.x.d.def_ 1 (d := ⟨("_law_same_row", none), "_law_same_row", "_law_same_row", defArgs (top 11), defBody (top 11), defScope (top 11), [], []⟩) rfl
  have b_l_same_row : Binds K fd_l_same_row ["_law_actual", "_law_expected"] [] := D_l_same_row.bindsN (ps := ["_law_actual", "_law_expected"]) fun _ _ _ _ _ _ us hl => match us, hl with | [_, _], _ => rfl
  have g_l_same_row : mg "_law_same_row" = some (.ref (He.ga K "_law_same_row")) := He.glo_ok X G (c.x.d.fact 1 (f := .glo "_law_same_row") rfl)
  obtain ⟨fd_l_same, D_l_same⟩ := c.x.d.def_ 2 (d := ⟨("_law_same", none), "_law_same", "_law_same", defArgs (top 12), defBody (top 12), defScope (top 12), [], []⟩) rfl
  have b_l_same : Binds K fd_l_same ["_law_actual", "_law_expected"] [] := D_l_same.bindsN (ps := ["_law_actual", "_law_expected"]) fun _ _ _ _ _ _ us hl => match us, hl with | [_, _], _ => rfl
  have g_l_same : mg "_law_same" = some (.ref (He.ga K "_law_same")) := He.glo_ok X G (c.x.d.fact 2 (f := .glo "_law_same") rfl)
  obtain ⟨fd_inverse, D_inverse⟩ := c.x.d.def_ 3 (d := ⟨("inverse", none), "inverse", "inverse", defArgs (top 6), defBody (top 6), defScope (top 6), [], []⟩) rfl
  have b_inverse : Binds K fd_inverse ["word"] [] := D_inverse.bindsN (ps := ["word"]) fun _ _ _ _ _ _ us hl => match us, hl with | [_], _ => rfl
  have g_inverse : mg "inverse" = some (.ref (He.ga K "inverse")) := He.glo_ok X G (c.x.d.fact 3 (f := .glo "inverse") rfl)
  obtain ⟨fd_l_draw, D_l_draw⟩ := c.x.d.def_ 4 (d := ⟨("_law_draw", none), "_law_draw", "_law_draw", defArgs (top 9), defBody (top 9), defScope (top 9), [], []⟩) rfl
  have b_l_draw : Binds K fd_l_draw ["_law_source", "_law_size"] [] := D_l_draw.bindsN (ps := ["_law_source", "_law_size"]) fun _ _ _ _ _ _ us hl => match us, hl with | [_, _], _ => rfl
  have g_l_draw : mg "_law_draw" = some (.ref (He.ga K "_law_draw")) := He.glo_ok X G (c.x.d.fact 4 (f := .glo "_law_draw") rfl)
  obtain ⟨fd_l_pick, D_l_pick⟩ := c.x.d.def_ 5 (d := ⟨("_law_pick", none), "_law_pick", "_law_pick", defArgs (top 10), defBody (top 10), defScope (top 10), [], []⟩) rfl
  have b_l_pick : Binds K fd_l_pick ["_law_source", "_law_row"] [] := D_l_pick.bindsN (ps := ["_law_source", "_law_row"]) fun _ _ _ _ _ _ us hl => match us, hl with | [_, _], _ => rfl
  have g_l_pick : mg "_law_pick" = some (.ref (He.ga K "_law_pick")) := He.glo_ok X G (c.x.d.fact 5 (f := .glo "_law_pick") rfl)
  obtain ⟨fd_l_name, D_l_name⟩ := c.x.d.def_ 6 (d := ⟨("_law_name", none), "_law_name", "_law_name", defArgs (top 13), defBody (top 13), defScope (top 13), [], []⟩) rfl
  have b_l_name : Binds K fd_l_name ["_law_source"] [] := D_l_name.bindsN (ps := ["_law_source"]) fun _ _ _ _ _ _ us hl => match us, hl with | [_], _ => rfl
  have g_l_name : mg "_law_name" = some (.ref (He.ga K "_law_name")) := He.glo_ok X G (c.x.d.fact 6 (f := .glo "_law_name") rfl)
  obtain ⟨fd_l_step, D_l_step⟩ := c.x.d.def_ 7 (d := ⟨("_law_step", none), "_law_step", "_law_step", defArgs (top 14), defBody (top 14), defScope (top 14), [], []⟩) rfl
  have b_l_step : Binds K fd_l_step ["_law_source"] [] := D_l_step.bindsN (ps := ["_law_source"]) fun _ _ _ _ _ _ us hl => match us, hl with | [_], _ => rfl
  have g_l_step : mg "_law_step" = some (.ref (He.ga K "_law_step")) := He.glo_ok X G (c.x.d.fact 7 (f := .glo "_law_step") rfl)
  obtain ⟨fd_l_tail, D_l_tail⟩ := c.x.d.def_ 8 (d := ⟨("_law_tail", none), "_law_tail", "_law_tail", defArgs (top 15), defBody (top 15), defScope (top 15), [], []⟩) rfl
  have b_l_tail : Binds K fd_l_tail ["_law_source", "_law_most"] [] := D_l_tail.bindsN (ps := ["_law_source", "_law_most"]) fun _ _ _ _ _ _ us hl => match us, hl with | [_, _], _ => rfl
  have g_l_tail : mg "_law_tail" = some (.ref (He.ga K "_law_tail")) := He.glo_ok X G (c.x.d.fact 8 (f := .glo "_law_tail") rfl)
  obtain ⟨fd_l_place, D_l_place⟩ := c.x.d.def_ 9 (d := ⟨("_law_place", none), "_law_place", "_law_place", defArgs (top 16), defBody (top 16), defScope (top 16), [], []⟩) rfl
  have b_l_place : Binds K fd_l_place ["_law_source"] [] := D_l_place.bindsN (ps := ["_law_source"]) fun _ _ _ _ _ _ us hl => match us, hl with | [_], _ => rfl
  have g_l_place : mg "_law_place" = some (.ref (He.ga K "_law_place")) := He.glo_ok X G (c.x.d.fact 9 (f := .glo "_law_place") rfl)
  obtain ⟨fd_l_parts, D_l_parts⟩ := c.x.d.def_ 10 (d := ⟨("_law_parts", none), "_law_parts", "_law_parts", defArgs (top 17), defBody (top 17), defScope (top 17), [], []⟩) rfl
  have b_l_parts : Binds K fd_l_parts ["_law_node"] [] := D_l_parts.bindsN (ps := ["_law_node"]) fun _ _ _ _ _ _ us hl => match us, hl with | [_], _ => rfl
  have g_l_parts : mg "_law_parts" = some (.ref (He.ga K "_law_parts")) := He.glo_ok X G (c.x.d.fact 10 (f := .glo "_law_parts") rfl)
  obtain ⟨fd_l_near, D_l_near⟩ := c.x.d.def_ 11 (d := ⟨("_law_near", none), "_law_near", "_law_near", defArgs (top 18), defBody (top 18), defScope (top 18), [], []⟩) rfl
  have b_l_near : Binds K fd_l_near ["_law_source", "_law_place_here"] [] := D_l_near.bindsN (ps := ["_law_source", "_law_place_here"]) fun _ _ _ _ _ _ us hl => match us, hl with | [_, _], _ => rfl
  have g_l_near : mg "_law_near" = some (.ref (He.ga K "_law_near")) := He.glo_ok X G (c.x.d.fact 11 (f := .glo "_law_near") rfl)
  obtain ⟨fd_lies_beneath, D_lies_beneath⟩ := c.x.d.def_ 12 (d := ⟨("lies_beneath", none), "lies_beneath", "lies_beneath", defArgs (top 3), defBody (top 3), defScope (top 3), [], []⟩) rfl
  have b_lies_beneath : Binds K fd_lies_beneath ["inner", "outer"] [] := D_lies_beneath.bindsN (ps := ["inner", "outer"]) fun _ _ _ _ _ _ us hl => match us, hl with | [_, _], _ => rfl
  have g_lies_beneath : mg "lies_beneath" = some (.ref (He.ga K "lies_beneath")) := He.glo_ok X G (c.x.d.fact 12 (f := .glo "lies_beneath") rfl)
  obtain ⟨fd_through, D_through⟩ := c.x.d.def_ 13 (d := ⟨("through", none), "through", "through", defArgs (top 4), defBody (top 4), defScope (top 4), [], []⟩) rfl
  have b_through : Binds K fd_through ["tail"] [] := D_through.bindsN (ps := ["tail"]) fun _ _ _ _ _ _ us hl => match us, hl with | [_], _ => rfl
  have g_through : mg "through" = some (.ref (He.ga K "through")) := He.glo_ok X G (c.x.d.fact 13 (f := .glo "through") rfl)
  obtain ⟨fd_relation, D_relation⟩ := c.x.d.def_ 14 (d := ⟨("relation", none), "relation", "relation", defArgs (top 5), defBody (top 5), defScope (top 5), [], []⟩) rfl
  have b_relation : Binds K fd_relation ["place", "other"] [] := D_relation.bindsN (ps := ["place", "other"]) fun _ _ _ _ _ _ us hl => match us, hl with | [_, _], _ => rfl
  have g_relation : mg "relation" = some (.ref (He.ga K "relation")) := He.glo_ok X G (c.x.d.fact 14 (f := .glo "relation") rfl)
  obtain ⟨fd_l_side, D_l_side⟩ := c.x.d.def_ 15 (d := ⟨("_law_side", none), "_law_side", "_law_side", defArgs (top 19), defBody (top 19), defScope (top 19), [], []⟩) rfl
  have b_l_side : Binds K fd_l_side ["_law_word"] [] := D_l_side.bindsN (ps := ["_law_word"]) fun _ _ _ _ _ _ us hl => match us, hl with | [_], _ => rfl
  have g_l_side : mg "_law_side" = some (.ref (He.ga K "_law_side")) := He.glo_ok X G (c.x.d.fact 15 (f := .glo "_law_side") rfl)
  obtain ⟨fd_l_crossed, D_l_crossed⟩ := c.x.d.def_ 16 (d := ⟨("_law_crossed", none), "_law_crossed", "_law_crossed", defArgs (top 20), defBody (top 20), defScope (top 20), [], []⟩) rfl
  have b_l_crossed : Binds K fd_l_crossed ["_law_side_here", "_law_is_crossed"] [] := D_l_crossed.bindsN (ps := ["_law_side_here", "_law_is_crossed"]) fun _ _ _ _ _ _ us hl => match us, hl with | [_, _], _ => rfl
  have g_l_crossed : mg "_law_crossed" = some (.ref (He.ga K "_law_crossed")) := He.glo_ok X G (c.x.d.fact 16 (f := .glo "_law_crossed") rfl)
  obtain ⟨fd_l_fits, D_l_fits⟩ := c.x.d.def_ 17 (d := ⟨("_law_fits", none), "_law_fits", "_law_fits", defArgs (top 22), defBody (top 22), defScope (top 22), [], []⟩) rfl
  have b_l_fits : Binds K fd_l_fits ["_law_near_here", "_law_far"] [] := D_l_fits.bindsN (ps := ["_law_near_here", "_law_far"]) fun _ _ _ _ _ _ us hl => match us, hl with | [_, _], _ => rfl
  have g_l_fits : mg "_law_fits" = some (.ref (He.ga K "_law_fits")) := He.glo_ok X G (c.x.d.fact 17 (f := .glo "_law_fits") rfl)
  obtain ⟨fd_l_down, D_l_down⟩ := c.x.d.def_ 18 (d := ⟨("_law_down", none), "_law_down", "_law_down", defArgs (top 21), defBody (top 21), defScope (top 21), [], []⟩) rfl
  have b_l_down : Binds K fd_l_down ["_law_tail_here"] [] := D_l_down.bindsN (ps := ["_law_tail_here"]) fun _ _ _ _ _ _ us hl => match us, hl with | [_], _ => rfl
  have g_l_down : mg "_law_down" = some (.ref (He.ga K "_law_down")) := He.glo_ok X G (c.x.d.fact 18 (f := .glo "_law_down") rfl)
  obtain ⟨fd_law, D_law⟩ := c.x.d.def_ 19 (d := ⟨("law", none), "law", "law", defArgs (top 23), defBody (top 23), defScope (top 23), [], []⟩) rfl
  have e := hfa.symm.trans (He.glo_ok X G (c.x.d.fact 19 (f := .glo "law") rfl))
  cases e
  refine ⟨fd_law, fun s v => FunD.bindsA (ps := ["_law_script"]) D_law (fun _ _ _ _ _ _ us hl => match us, hl with | [_], _ => rfl) s [v] rfl, fun base _ _ => ?_⟩
  have F_l_begin : FnM P w K mg base 1 "_law_begin" sp_l_begin := FnM.of (ok_l_begin D_l_begin B ) g_l_begin D_l_begin.kp b_l_begin
  have F_l_same_all : ∀ n, FnM P w K mg base (2 * n + 1) "_law_same" (sp_l_same n) := by
    intro n
    induction n with
    | zero => exact FnM.of (ok_l_same (n := 0) (k := 0) D_l_same B (FnM.never no_row0 g_l_same_row D_l_same_row.kp b_l_same_row)) g_l_same D_l_same.kp b_l_same
    | succ n ih => exact FnM.of (ok_l_same (n := n + 1) (k := 2 * n + 2) D_l_same B (FnM.of (ok_l_same_row (n := n) (k := 2 * n + 1) D_l_same_row B ih) g_l_same_row D_l_same_row.kp b_l_same_row)) g_l_same D_l_same.kp b_l_same
  have F_l_same : FnM P w K mg base 17 "_law_same" (sp_l_same 8) := F_l_same_all 8
  have F_inverse : FnM P w K mg base 1 "inverse" sp_inverse := FnM.of (ok_inverse D_inverse B ) g_inverse D_inverse.kp b_inverse
  have F_l_draw : FnM P w K mg base 1 "_law_draw" sp_l_draw := FnM.of (ok_l_draw D_l_draw B ) g_l_draw D_l_draw.kp b_l_draw
  have F_l_pick : FnM P w K mg base 2 "_law_pick" sp_l_pick := FnM.of (ok_l_pick D_l_pick B F_l_draw) g_l_pick D_l_pick.kp b_l_pick
  have F_l_name : FnM P w K mg base 3 "_law_name" sp_l_name := FnM.of (ok_l_name D_l_name B F_l_draw F_l_pick) g_l_name D_l_name.kp b_l_name
  have F_l_step : FnM P w K mg base 4 "_law_step" sp_l_step := FnM.of (ok_l_step D_l_step B F_l_pick F_l_name) g_l_step D_l_step.kp b_l_step
  have F_l_tail : FnM P w K mg base 5 "_law_tail" sp_l_tail := FnM.of (ok_l_tail D_l_tail B F_l_draw F_l_step) g_l_tail D_l_tail.kp b_l_tail
  have F_l_place : FnM P w K mg base 6 "_law_place" sp_l_place := FnM.of (ok_l_place D_l_place B F_l_draw F_l_name F_l_tail) g_l_place D_l_place.kp b_l_place
  have F_l_parts : FnM P w K mg base 1 "_law_parts" sp_l_parts := FnM.of (ok_l_parts D_l_parts B ) g_l_parts D_l_parts.kp b_l_parts
  have F_l_near : FnM P w K mg base 7 "_law_near" sp_l_near := FnM.of (ok_l_near D_l_near B F_l_parts F_l_draw F_l_step F_l_pick F_l_place) g_l_near D_l_near.kp b_l_near
  have F_lies_beneath : FnM P w K mg base 1 "lies_beneath" sp_lies_beneath := FnM.of (ok_lies_beneath D_lies_beneath B ) g_lies_beneath D_lies_beneath.kp b_lies_beneath
  have F_through : FnM P w K mg base 1 "through" sp_through := FnM.of (ok_through D_through B ) g_through D_through.kp b_through
  have F_relation : FnM P w K mg base 2 "relation" sp_relation := FnM.of (ok_relation D_relation B F_lies_beneath F_through) g_relation D_relation.kp b_relation
  have F_l_side : FnM P w K mg base 1 "_law_side" sp_l_side := FnM.of (ok_l_side D_l_side B ) g_l_side D_l_side.kp b_l_side
  have F_l_crossed : FnM P w K mg base 1 "_law_crossed" sp_l_crossed := FnM.of (ok_l_crossed D_l_crossed B ) g_l_crossed D_l_crossed.kp b_l_crossed
  have F_l_fits : FnM P w K mg base 2 "_law_fits" sp_l_fits := FnM.of (ok_l_fits D_l_fits B F_l_side F_l_crossed) g_l_fits D_l_fits.kp b_l_fits
  have F_l_down : FnM P w K mg base 2 "_law_down" sp_l_down := FnM.of (ok_l_down D_l_down B F_l_crossed) g_l_down D_l_down.kp b_l_down
  exact ok_law D_law B F_l_begin F_l_same F_inverse F_l_place F_l_draw F_l_tail F_l_parts F_l_near F_l_pick F_relation F_l_fits F_l_down
end Lw
open PySem PySem.W PySem.Calls PyProof.Rows
set_option maxRecDepth 100000 in
set_option maxHeartbeats 0 in
theorem PySem.Challenge.cw_lentahead_k01_whole_relations_turn_and_c_holds : PySem.Challenge.rw_lentahead_k01_whole_relations_turn_and_c.Holds := by
  w_on; o_law
  refine HandSHeadRun.head_any (r := OpenLaw.row PySem.Challenge.rw_lentahead_k01_whole_relations_turn_and_c) (q := view (OpenLaw.row PySem.Challenge.rw_lentahead_k01_whole_relations_turn_and_c).prog [23]) (H := Lw.hk) (ob := Lw.ob) (M := 30000) (loose := Lw.names) (d := HandSHeadRun.topDef (OpenLaw.row PySem.Challenge.rw_lentahead_k01_whole_relations_turn_and_c).prog 23) (kwd := []) Lw.ob_eq
    (by kernel_rfl) (fun s => by kernel_rfl) Lw.run (by kernel_rfl) (by kernel_rfl) (by kernel_rfl) (by rfl) (by first | assumption | decide +kernel) (by decide +kernel) ⟨rfl, rfl, rfl, rfl, rfl, by decide +kernel⟩ ?hw ?hc
  case hw => w_witness2
  case hc =>
    refine DL.law_walk (l := PySem.Challenge.rw_lentahead_k01_whole_relations_turn_and_c) (sp := DL.sp_law) (k := 18) (x := "_law_script") rfl (by kernel_rfl) ⟨rfl, by decide, by decide⟩ (fun ns => ⟨ns, rfl, fun _ => rfl⟩) ?F
    intro w mg fa h Y G hmg0
    obtain ⟨K, KX, c⟩ := Y
    have hmg : mg ("law" : PySem.Str) = some (.ref fa) := by
      have e : (HandSHeadRun.topDef (OpenLaw.row PySem.Challenge.rw_lentahead_k01_whole_relations_turn_and_c).prog 23).name = ("law" : PySem.Str) := by kernel_rfl
      rw [← e]
      exact hmg0
    obtain ⟨fd, hb, hF⟩ := Lw.facts (P := (PySem.Challenge.rw_lentahead_k01_whole_relations_turn_and_c).prog) (w := w) KX G hmg c
    exact ⟨K, fd, KX, hb, hF⟩
